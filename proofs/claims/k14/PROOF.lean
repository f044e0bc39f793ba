import PyProof.Rows.All
import Wide.All
import OpenK.AllK
import Wide.FinOn
import HandS.ForMost
import HandS.ForExc
import HandS.Wide
import HandS.IsInst
import HandS.CallSlots
import HandS.Defaults
import HandS.Evl
import HandS.Lambda
import HandS.TupAny
import HandS.Text
import HandS.More
import HandS.Style
import HandS.SortInts
import HandS.FStr
import HandS.Iter
import KE.GoesEnum
import KE.GoesMore
import HandS.Property
import HandS.ExcOwn
import HandS.TryOnly
import HandS.ExcIs
import HandS.ClsMeth
import HandS.Dict
import KE.GoesZip
import HandS.OwnIter
import HandS.IterNext
import HandS.IterVal
import HandS.TupLe
import KE.KExcSuper
import HandS.ExcField
import HandS.ExcInit
import KE.KExcIs
import HandS.RaiseMore
import KE.KCallOwn
import HandS.TupMul
import HandS.Codes
import HandS.SetFor
import HandS.SortKw
import KE.DataMinMax
import KE.SortKeyHeap
import HandS.EndTab
import KE.KNestM
import HandS.Conv
import KE.GoesSet
import HandS.Strs
import KE.KOpsOwn
import HandS.Star
import HandS.Zip
import HandS.Sort
import HandS.Small
import PySem.Challenge.RW_onecable_k14_named_rules
set_option Elab.async false
set_option linter.all false
set_option maxRecDepth 100000
set_option maxHeartbeats 4000000
namespace Mz
open PySem PySem.Spec PyProof.Rows L2

/-! ## 1. values without a heap, what is changed in place, the store -/
inductive W where
  | non | bl (b : Bool) | int (i : Int) | str (x : Str)
  | tup (xs : List W) | lst (xs : List W) | ro (xs : List W)
  | dct (ks : List Key) (ws : List W)
  | ins (c : Nat) (ns : List Str) (ws : List W)
  | cls (c : Nat)

inductive Sl where
  | v (w : W) | l (n : Nat) | o (n : Nat)

inductive Lo where
  | lst (xs : List W)
  | dct (ks : List Key) (ws : List W)
  | dead

structure In where
  c : Nat
  ns : List Str
  vs : List Sl

structure Store where
  l : List Lo
  o : List In

structure Mp where
  l : List Addr
  o : List Addr

/-- the written part, and where the classes stand -/
structure Tx where
  K : PySem.W.Frag
  cl : Nat → Addr

mutual
def Rep (T : Tx) (G : Hp) : W → V → Prop
  | .non, v => v = .non
  | .bl b, v => v = .bl b
  | .int i, v => v = .int i
  | .str x, v => v = .str x
  | .cls c, v => v = .ref (T.cl c)
  | .tup xs, v => ∃ a vs, v = .ref a ∧ SqT T.K G a vs ∧ Reps T G xs vs
  | .lst xs, v => ∃ a vs, v = .ref a ∧ G a = some (.lst vs) ∧ Reps T G xs vs
  | .ro xs, v => ∃ a vs, v = .ref a ∧ SqL T.K G a vs ∧ Reps T G xs vs
  | .dct ks ws, v => ∃ a vs, v = .ref a ∧ G a = some (.dK (ks.zip vs)) ∧ ks.length = vs.length ∧ Reps T G ws vs
  | .ins c ns ws, v => ∃ a dx vs, v = .ref a ∧ G a = some (.ins (T.cl c) dx (ns.zip vs)) ∧ ns.length = vs.length ∧ Reps T G ws vs
def Reps (T : Tx) (G : Hp) : List W → List V → Prop
  | [], vs => vs = []
  | x :: xs, vs => ∃ v r, vs = v :: r ∧ Rep T G x v ∧ Reps T G xs r
end

def SlR (T : Tx) (ρ : Mp) (G : Hp) : Sl → V → Prop
  | .v w, u => Rep T G w u
  | .l n, u => ∃ a, ρ.l[n]? = some a ∧ u = .ref a
  | .o n, u => ∃ a, ρ.o[n]? = some a ∧ u = .ref a
def SlRs (T : Tx) (ρ : Mp) (G : Hp) : List Sl → List V → Prop
  | [], vs => vs = []
  | x :: xs, vs => ∃ v r, vs = v :: r ∧ SlR T ρ G x v ∧ SlRs T ρ G xs r

def LoR (T : Tx) (G : Hp) : Lo → HO → Prop
  | .lst xs, o => ∃ vs, o = .lst vs ∧ Reps T G xs vs
  | .dct ks ws, o => ∃ vs, o = .dK (ks.zip vs) ∧ ks.length = vs.length ∧ Reps T G ws vs
  | .dead, o => (∃ vs, o = .lst vs) ∨ ∃ kvs, o = .dK kvs
def InR (T : Tx) (ρ : Mp) (G : Hp) (x : In) (o : HO) : Prop :=
  ∃ dx us, o = .ins (T.cl x.c) dx (x.ns.zip us) ∧ x.ns.length = us.length ∧ SlRs T ρ G x.vs us

/-- the names of the code objects of the two lambdas; their makers' tables stand at cl 900, cl 901 (0: not reached) -/
def tbN : Nat → Str
  | 0 => ("Rule.order" : Str) ++ ".<locals>." ++ "<lambda>"
  | 1 => ("run_rule" : Str) ++ ".<locals>." ++ "<lambda>"
  | _ => ""
def Fx (a : Addr) (o : HO) : Prop := (∃ ps, o = .tbl ps) ∨ ∃ q, o = LamX.CodeO a q
def TbOk (T : Tx) (H : Hp) : Prop := ∀ j, j < 2 → T.cl (900 + j) = 0 ∨ LamX.TabS H (T.cl (900 + j)) (tbN j)
theorem TbOk.to {T : Tx} {H H' : Hp} (t : TbOk T H) (h : ∀ a o, H a = some o → Fx a o → H' a = some o) : TbOk T H' := fun j hj => by
  rcases t j hj with e | ⟨ps, h1, h2, h3⟩
  · exact .inl e
  · refine .inr ⟨ps, h _ _ h1 (.inl ⟨ps, rfl⟩), h2, fun pos cv hc => ?_⟩
    obtain ⟨c, e1, e2⟩ := h3 pos cv hc
    exact ⟨c, e1, h _ _ e2 (.inr ⟨_, rfl⟩)⟩
theorem TbOk.upd {T : Tx} {H : Hp} (t : TbOk T H) {p : Addr} {u : HO} (h : ∀ o, H p = some o → ¬ Fx p o) : TbOk T (L2.upd H p u) := t.to fun a o e f => by
  by_cases z : a = p
  · subst z; exact absurd f (h o e)
  · rw [upd_ne z]; exact e
theorem nt_upd {G : Hp} (t : ∀ a ps, G a ≠ some (.tbl ps)) {p : Addr} {u : HO} (h : ∀ ps, u ≠ .tbl ps) : ∀ a ps, L2.upd G p u a ≠ some (.tbl ps) := fun a ps e => by
  by_cases z : a = p
  · subst z; rw [upd_same] at e; cases e; exact h ps rfl
  · rw [upd_ne z] at e; exact t a ps e
/-- the heap without its tables -/
def noTb (H : Hp) : Hp := fun a => match H a with
  | some (.tbl _) => none
  | o => o
theorem noTb_nt {H : Hp} : ∀ a ps, noTb H a ≠ some (.tbl ps) := fun a ps e => by
  unfold noTb at e
  split at e
  · cases e
  · rename_i h; exact h ps e
theorem noTb_ext {H : Hp} : ∀ a o, noTb H a = some o → H a = some o := fun a o e => by
  unfold noTb at e
  split at e
  · cases e
  · exact e
theorem noTb_at {H : Hp} {a : Addr} {o : HO} (h : H a = some o) (n : ∀ ps, o ≠ .tbl ps) : noTb H a = some o := by
  unfold noTb
  split
  · rename_i ps e; rw [h] at e; cases e; exact absurd rfl (n ps)
  · exact h
theorem noTb_sql {K : PySem.W.Frag} {H : Hp} {a : Addr} {xs : List V} (h : SqL K H a xs) : SqL K (noTb H) a xs := by
  rcases h with (h | ⟨o, h⟩) | h
  · exact .inl (.inl (noTb_at h fun _ z => nomatch z))
  · exact .inl (.inr ⟨o, noTb_at h fun _ z => nomatch z⟩)
  · exact .inr h
theorem fx_none {H : Hp} {p : Addr} (h : H p = none) : ∀ o, H p = some o → ¬ Fx p o := fun o e => by rw [h] at e; cases e
theorem fx_lo {T : Tx} {G H : Hp} {p : Addr} {x : Lo} {u : HO} (h : H p = some u) (r : LoR T G x u) : ∀ o, H p = some o → ¬ Fx p o := fun o e f => by
  rw [h] at e; cases e
  cases x with
  | lst xs => obtain ⟨vs, rfl, _⟩ := r; rcases f with ⟨_, z⟩ | ⟨_, z⟩ <;> (try unfold LamX.CodeO at z) <;> cases z
  | dct ks ws => obtain ⟨vs, rfl, _⟩ := r; rcases f with ⟨_, z⟩ | ⟨_, z⟩ <;> (try unfold LamX.CodeO at z) <;> cases z
  | dead => rcases r with ⟨vs, rfl⟩ | ⟨vs, rfl⟩ <;> (rcases f with ⟨_, z⟩ | ⟨_, z⟩ <;> (try unfold LamX.CodeO at z) <;> cases z)
theorem fx_in {T : Tx} {ρ : Mp} {G H : Hp} {p : Addr} {x : In} {u : HO} (h : H p = some u) (r : InR T ρ G x u) : ∀ o, H p = some o → ¬ Fx p o := fun o e f => by
  rw [h] at e; cases e
  obtain ⟨dx, us, rfl, _⟩ := r
  rcases f with ⟨_, z⟩ | ⟨_, z⟩ <;> (try unfold LamX.CodeO at z) <;> cases z
structure Rel (T : Tx) (ρ : Mp) (G H : Hp) (st : Store) : Prop where
  ext : ∀ a o, G a = some o → H a = some o
  ll : ρ.l.length = st.l.length
  lo : ρ.o.length = st.o.length
  la : ∀ (n : Nat) (a : Addr) (x : Lo), ρ.l[n]? = some a → st.l[n]? = some x → (x ≠ .dead → G a = none) ∧ ∃ o, H a = some o ∧ LoR T G x o
  oa : ∀ (n : Nat) (a : Addr) (x : In), ρ.o[n]? = some a → st.o[n]? = some x → G a = none ∧ ∃ o, H a = some o ∧ InR T ρ G x o
  nl : ρ.l.Nodup
  no : ρ.o.Nodup
  tb : TbOk T H
  nt : ∀ a ps, G a ≠ some (.tbl ps)

def Le (ρ ρ' : Mp) : Prop := (∀ (n : Nat) (a : Addr), ρ.l[n]? = some a → ρ'.l[n]? = some a) ∧ ∀ (n : Nat) (a : Addr), ρ.o[n]? = some a → ρ'.o[n]? = some a
structure Fr (ρ ρ' : Mp) (G G' : Hp) : Prop where
  le : Le ρ ρ'
  ex : ∀ a o, G a = some o → G' a = some o
theorem Fr.refl (ρ : Mp) (G : Hp) : Fr ρ ρ G G := ⟨⟨fun _ _ h => h, fun _ _ h => h⟩, fun _ _ h => h⟩
theorem Fr.trans {ρ ρ1 ρ2 : Mp} {G G1 G2 : Hp} (a : Fr ρ ρ1 G G1) (b : Fr ρ1 ρ2 G1 G2) : Fr ρ ρ2 G G2 :=
  ⟨⟨fun n x h => b.le.1 n x (a.le.1 n x h), fun n x h => b.le.2 n x (a.le.2 n x h)⟩, fun x o h => b.ex x o (a.ex x o h)⟩

theorem sqt_mono {K : PySem.W.Frag} {G G' : Hp} (e : ∀ a o, G a = some o → G' a = some o) {a : Addr} {xs : List V} (h : SqT K G a xs) : SqT K G' a xs := Evl.ex_t e h
theorem sql_mono {K : PySem.W.Frag} {G G' : Hp} (e : ∀ a o, G a = some o → G' a = some o) {a : Addr} {xs : List V} (h : SqL K G a xs) : SqL K G' a xs := Evl.ex_l e h

mutual
theorem Rep.mono {T : Tx} {G G' : Hp} (e : ∀ a o, G a = some o → G' a = some o) : ∀ (w : W) (v : V), Rep T G w v → Rep T G' w v
  | .non, _, h => by unfold Rep at h ⊢; exact h
  | .bl _, _, h => by unfold Rep at h ⊢; exact h
  | .int _, _, h => by unfold Rep at h ⊢; exact h
  | .str _, _, h => by unfold Rep at h ⊢; exact h
  | .cls _, _, h => by unfold Rep at h ⊢; exact h
  | .tup xs, v, h => by unfold Rep at h ⊢; obtain ⟨a, vs, h1, h2, h3⟩ := h; exact ⟨a, vs, h1, sqt_mono e h2, Reps.mono e xs vs h3⟩
  | .lst xs, v, h => by unfold Rep at h ⊢; obtain ⟨a, vs, h1, h2, h3⟩ := h; exact ⟨a, vs, h1, e _ _ h2, Reps.mono e xs vs h3⟩
  | .ro xs, v, h => by unfold Rep at h ⊢; obtain ⟨a, vs, h1, h2, h3⟩ := h; exact ⟨a, vs, h1, sql_mono e h2, Reps.mono e xs vs h3⟩
  | .dct ks ws, v, h => by unfold Rep at h ⊢; obtain ⟨a, vs, h1, h2, h3, h4⟩ := h; exact ⟨a, vs, h1, e _ _ h2, h3, Reps.mono e ws vs h4⟩
  | .ins c ns ws, v, h => by unfold Rep at h ⊢; obtain ⟨a, dx, vs, h1, h2, h3, h4⟩ := h; exact ⟨a, dx, vs, h1, e _ _ h2, h3, Reps.mono e ws vs h4⟩
theorem Reps.mono {T : Tx} {G G' : Hp} (e : ∀ a o, G a = some o → G' a = some o) : ∀ (ws : List W) (vs : List V), Reps T G ws vs → Reps T G' ws vs
  | [], _, h => by unfold Reps at h ⊢; exact h
  | w :: ws, vs, h => by unfold Reps at h ⊢; obtain ⟨v, r, h1, h2, h3⟩ := h; exact ⟨v, r, h1, Rep.mono e w v h2, Reps.mono e ws r h3⟩
end
section
variable {T : Tx} {ρ ρ' : Mp} {G G' H : Hp}
theorem SlR.mono (f : Fr ρ ρ' G G') {s : Sl} {u : V} (h : SlR T ρ G s u) : SlR T ρ' G' s u := by
  cases s with
  | v w => exact Rep.mono f.ex w u h
  | l n => obtain ⟨a, h1, h2⟩ := h; exact ⟨a, f.le.1 _ _ h1, h2⟩
  | o n => obtain ⟨a, h1, h2⟩ := h; exact ⟨a, f.le.2 _ _ h1, h2⟩
theorem SlRs.mono (f : Fr ρ ρ' G G') : ∀ {ss : List Sl} {us : List V}, SlRs T ρ G ss us → SlRs T ρ' G' ss us
  | [], _, h => h
  | s :: ss, us, h => by obtain ⟨v, r, h1, h2, h3⟩ := h; exact ⟨v, r, h1, h2.mono f, SlRs.mono f h3⟩
theorem LoR.mono (e : ∀ a o, G a = some o → G' a = some o) {x : Lo} {o : HO} (h : LoR T G x o) : LoR T G' x o := by
  cases x with
  | lst xs => obtain ⟨vs, h1, h2⟩ := h; exact ⟨vs, h1, Reps.mono e xs vs h2⟩
  | dct ks ws => obtain ⟨vs, h1, h2, h3⟩ := h; exact ⟨vs, h1, h2, Reps.mono e ws vs h3⟩
  | dead => exact h
theorem InR.mono (f : Fr ρ ρ' G G') {x : In} {o : HO} (h : InR T ρ G x o) : InR T ρ' G' x o := by
  obtain ⟨dx, us, h1, h2, h3⟩ := h; exact ⟨dx, us, h1, h2, h3.mono f⟩
theorem SlRs.length : ∀ {ss : List Sl} {us : List V}, SlRs T ρ G ss us → ss.length = us.length
  | [], _, h => by cases h; rfl
  | s :: ss, us, h => by obtain ⟨v, r, h1, h2, h3⟩ := h; rw [h1, List.length_cons, List.length_cons, SlRs.length h3]
theorem Reps.length : ∀ {ws : List W} {vs : List V}, Reps T G ws vs → ws.length = vs.length
  | [], _, h => by unfold Reps at h; cases h; rfl
  | s :: ss, us, h => by unfold Reps at h; obtain ⟨v, r, h1, h2, h3⟩ := h; rw [h1, List.length_cons, List.length_cons, Reps.length h3]
theorem Reps.nil : Reps T G [] [] := by unfold Reps; rfl
theorem Reps.cons {w : W} {ws : List W} {v : V} {vs : List V} (h : Rep T G w v) (hs : Reps T G ws vs) : Reps T G (w :: ws) (v :: vs) := by unfold Reps; exact ⟨v, vs, rfl, h, hs⟩
theorem Reps.append : ∀ {xs ys : List W} {us vs : List V}, Reps T G xs us → Reps T G ys vs → Reps T G (xs ++ ys) (us ++ vs)
  | [], _, _, _, h, g => by unfold Reps at h; cases h; exact g
  | x :: xs, ys, us, vs, h, g => by unfold Reps at h; obtain ⟨v, r, rfl, h2, h3⟩ := h; exact Reps.cons h2 (Reps.append h3 g)
theorem Reps.get : ∀ {xs : List W} {us : List V} {i : Nat} {u : V}, Reps T G xs us → us[i]? = some u → ∃ x, xs[i]? = some x ∧ Rep T G x u
  | [], _, _, _, h, e => by unfold Reps at h; cases h; simp at e
  | x :: xs, us, 0, u, h, e => by unfold Reps at h; obtain ⟨v, r, rfl, h2, h3⟩ := h; simp at e; subst e; exact ⟨x, rfl, h2⟩
  | x :: xs, us, i + 1, u, h, e => by unfold Reps at h; obtain ⟨v, r, rfl, h2, h3⟩ := h; have e' : r[i]? = some u := by simpa using e
                                      obtain ⟨y, h4, h5⟩ := Reps.get h3 e'; exact ⟨y, by simpa using h4, h5⟩
theorem Reps.get' : ∀ {xs : List W} {us : List V} {i : Nat} {x : W}, Reps T G xs us → xs[i]? = some x → ∃ u, us[i]? = some u ∧ Rep T G x u
  | [], _, _, _, h, e => by simp at e
  | y :: xs, us, 0, x, h, e => by unfold Reps at h; obtain ⟨v, r, rfl, h2, h3⟩ := h; simp at e; subst e; exact ⟨v, rfl, h2⟩
  | y :: xs, us, i + 1, x, h, e => by unfold Reps at h; obtain ⟨v, r, rfl, h2, h3⟩ := h; have e' : xs[i]? = some x := by simpa using e
                                      obtain ⟨u, h4, h5⟩ := Reps.get' h3 e'; exact ⟨u, by simpa using h4, h5⟩
theorem Reps.set : ∀ {xs : List W} {us : List V} {x : W} {u : V} (i : Nat), Reps T G xs us → Rep T G x u → Reps T G (xs.set i x) (us.set i u)
  | [], us, x, u, i, h, g => by unfold Reps at h; cases h; simp; exact Reps.nil
  | y :: xs, us, x, u, 0, h, g => by unfold Reps at h; obtain ⟨v, r, rfl, h2, h3⟩ := h; exact Reps.cons g h3
  | y :: xs, us, x, u, i + 1, h, g => by unfold Reps at h; obtain ⟨v, r, rfl, h2, h3⟩ := h; exact Reps.cons h2 (Reps.set i h3 g)
theorem Reps.take : ∀ {xs : List W} {us : List V} (i : Nat), Reps T G xs us → Reps T G (xs.take i) (us.take i)
  | [], us, i, h => by unfold Reps at h; cases h; simp; exact Reps.nil
  | y :: xs, us, 0, h => by simp; exact Reps.nil
  | y :: xs, us, i + 1, h => by unfold Reps at h; obtain ⟨v, r, rfl, h2, h3⟩ := h; exact Reps.cons h2 (Reps.take i h3)
theorem Reps.drop : ∀ {xs : List W} {us : List V} (i : Nat), Reps T G xs us → Reps T G (xs.drop i) (us.drop i)
  | [], us, i, h => by unfold Reps at h; cases h; simp; exact Reps.nil
  | y :: xs, us, 0, h => h
  | y :: xs, us, i + 1, h => by unfold Reps at h; obtain ⟨v, r, rfl, h2, h3⟩ := h; exact Reps.drop i h3
theorem Reps.eraseIdx : ∀ {xs : List W} {us : List V} (i : Nat), Reps T G xs us → Reps T G (xs.eraseIdx i) (us.eraseIdx i)
  | [], us, i, h => by unfold Reps at h; cases h; simp; exact Reps.nil
  | y :: xs, us, 0, h => by unfold Reps at h; obtain ⟨v, r, rfl, h2, h3⟩ := h; exact h3
  | y :: xs, us, i + 1, h => by unfold Reps at h; obtain ⟨v, r, rfl, h2, h3⟩ := h; exact Reps.cons h2 (Reps.eraseIdx i h3)
theorem Reps.reverse : ∀ {xs : List W} {us : List V}, Reps T G xs us → Reps T G xs.reverse us.reverse
  | [], us, h => by unfold Reps at h; cases h; exact Reps.nil
  | y :: xs, us, h => by
    unfold Reps at h; obtain ⟨v, r, rfl, h2, h3⟩ := h
    rw [List.reverse_cons, List.reverse_cons]; exact Reps.append (Reps.reverse h3) (Reps.cons h2 Reps.nil)
end

/-! ## 2. results -/
inductive Res (α : Type) where
  | ok (a : α) (st : Store) | ex (c : Nat) (ns : List Str) (ws : List W) (st : Store) | bad
def Res.bind {α β : Type} (r : Res α) (k : α → Store → Res β) : Res β :=
  match r with
  | .ok a st => k a st
  | .ex c ns ws st => .ex c ns ws st
  | .bad => .bad
theorem Res.bind_ok {α β : Type} (a : α) (st : Store) (k : α → Store → Res β) : (Res.ok a st).bind k = k a st := rfl
theorem Res.bind_ex {α β : Type} (c : Nat) (ns : List Str) (ws : List W) (st : Store) (k : α → Store → Res β) : (Res.ex c ns ws st : Res α).bind k = .ex c ns ws st := rfl
theorem Res.bind_bad {α β : Type} (k : α → Store → Res β) : (Res.bad : Res α).bind k = .bad := rfl

abbrev Env := List (Option Sl)
inductive SR where
  | nx (env : Env) (st : Store) | rt (s : Sl) (st : Store) | bk (env : Env) (st : Store) | ct (env : Env) (st : Store)
  | ex (c : Nat) (ns : List Str) (ws : List W) (env : Env) (st : Store) | bad
abbrev ME := Env → Store → Res Sl
abbrev MT := Env → Store → Res Bool
abbrev MA := Env → Store → Res (List Sl)
abbrev MS := Env → Store → SR
abbrev MF := List Sl → Store → Res Sl

def EnvR (T : Tx) (ρ : Mp) (G : Hp) (env : Env) (σ : L2.St) : Prop :=
  env.length = σ.length ∧ ∀ (i : Nat) (s : Sl), env[i]? = some (some s) → ∃ u, σ[i]? = some (some u) ∧ SlR T ρ G s u
def ExR (T : Tx) (G : Hp) (ns : List Str) (ws : List W) (d : Option Addr) : Prop :=
  (ns = [] ∧ ws = [] ∧ d = none) ∨ ∃ dd vs, d = some dd ∧ G dd = some (.xd (ns.zip vs)) ∧ ns.length = vs.length ∧ Reps T G ws vs

def PostR {α β : Type} (T : Tx) (ρ : Mp) (G : Hp) (R : Mp → Hp → α → β → Prop) (r : Res α) (Q : β → Hp → Prop) (E : XK) : Prop :=
  match r with
  | .ok a st' => ∀ ρ' G' H' u, Fr ρ ρ' G G' → Rel T ρ' G' H' st' → R ρ' G' a u → Q u H'
  | .ex c ns ws st' => ∀ ρ' G' H' d, Fr ρ ρ' G G' → Rel T ρ' G' H' st' → ExR T G' ns ws d → E (.ref (T.cl c)) d H'
  | .bad => False
def PostS (T : Tx) (ρ : Mp) (G : Hp) (r : SR) (D : Ends) (Wx : WX) : Prop :=
  match r with
  | .nx env st' => ∀ ρ' G' H' σ', Fr ρ ρ' G G' → Rel T ρ' G' H' st' → EnvR T ρ' G' env σ' → D.nx σ' H'
  | .rt s st' => ∀ ρ' G' H' u, Fr ρ ρ' G G' → Rel T ρ' G' H' st' → SlR T ρ' G' s u → D.rt u H'
  | .bk env st' => ∀ ρ' G' H' σ', Fr ρ ρ' G G' → Rel T ρ' G' H' st' → EnvR T ρ' G' env σ' → D.bk σ' H'
  | .ct env st' => ∀ ρ' G' H' σ', Fr ρ ρ' G G' → Rel T ρ' G' H' st' → EnvR T ρ' G' env σ' → D.ct σ' H'
  | .ex c ns ws env st' => ∀ ρ' G' H' σ' d, Fr ρ ρ' G G' → Rel T ρ' G' H' st' → EnvR T ρ' G' env σ' → ExR T G' ns ws d → Wx (.ref (T.cl c)) d σ' H'
  | .bad => False

section
variable {T : Tx} {ρ ρ' : Mp} {G G' H : Hp} {α β γ δ : Type}
theorem PostR.mono {R : Mp → Hp → α → β → Prop} {r : Res α} {Q : β → Hp → Prop} {E : XK} (f : Fr ρ ρ' G G') (h : PostR T ρ G R r Q E) : PostR T ρ' G' R r Q E := by
  cases r with
  | ok a st => exact fun ρ1 G1 H1 u f1 => h ρ1 G1 H1 u (f.trans f1)
  | ex c ns ws st => exact fun ρ1 G1 H1 d f1 => h ρ1 G1 H1 d (f.trans f1)
  | bad => exact h
theorem PostS.mono {r : SR} {D : Ends} {Wx : WX} (f : Fr ρ ρ' G G') (h : PostS T ρ G r D Wx) : PostS T ρ' G' r D Wx := by
  cases r with
  | nx env st => exact fun ρ1 G1 H1 u f1 => h ρ1 G1 H1 u (f.trans f1)
  | rt s st => exact fun ρ1 G1 H1 u f1 => h ρ1 G1 H1 u (f.trans f1)
  | bk env st => exact fun ρ1 G1 H1 u f1 => h ρ1 G1 H1 u (f.trans f1)
  | ct env st => exact fun ρ1 G1 H1 u f1 => h ρ1 G1 H1 u (f.trans f1)
  | ex c ns ws env st => exact fun ρ1 G1 H1 σ' d f1 => h ρ1 G1 H1 σ' d (f.trans f1)
  | bad => exact h
/-- in a row -/
theorem PostR.bind {R1 : Mp → Hp → α → β → Prop} {R2 : Mp → Hp → γ → δ → Prop} {r : Res α} {k : α → Store → Res γ} {Q : δ → Hp → Prop} {Q' : β → Hp → Prop} {E : XK}
    (h : PostR T ρ G R2 (r.bind k) Q E)
    (hk : ∀ a st' ρ' G' H' u, Fr ρ ρ' G G' → Rel T ρ' G' H' st' → R1 ρ' G' a u → PostR T ρ' G' R2 (k a st') Q E → Q' u H') : PostR T ρ G R1 r Q' E := by
  cases r with
  | ok a st => exact fun ρ1 G1 H1 u f1 rel r1 => hk a st ρ1 G1 H1 u f1 rel r1 (PostR.mono f1 h)
  | ex c ns ws st => exact h
  | bad => exact h
def EnvR.mono {env : Env} {σ : L2.St} (f : Fr ρ ρ' G G') (h : EnvR T ρ G env σ) : EnvR T ρ' G' env σ :=
  ⟨h.1, fun i s e => let ⟨u, h1, h2⟩ := h.2 i s e; ⟨u, h1, h2.mono f⟩⟩
theorem EnvR.set {env : Env} {σ : L2.St} {s : Sl} {u : V} (i : Nat) (h : EnvR T ρ G env σ) (r : SlR T ρ G s u) : EnvR T ρ G (env.set i (some s)) (σ.set i (some u)) := by
  refine ⟨by rw [List.length_set, List.length_set]; exact h.1, fun j s' e => ?_⟩
  by_cases hj : i = j
  · subst hj
    have hl : i < env.length := by
      by_cases q : i < env.length
      · exact q
      · rw [List.getElem?_eq_none (by rw [List.length_set]; omega)] at e; cases e
    rw [List.getElem?_set_self hl] at e
    cases e
    exact ⟨u, List.getElem?_set_self (by rw [← h.1]; exact hl), r⟩
  · rw [List.getElem?_set_ne hj] at e
    obtain ⟨u', h1, h2⟩ := h.2 j s' e
    exact ⟨u', by rw [List.getElem?_set_ne hj]; exact h1, h2⟩
theorem EnvR.unset {env : Env} {σ : L2.St} (i : Nat) (o : Option V) (h : EnvR T ρ G env σ) : EnvR T ρ G (env.set i none) (σ.set i o) := by
  refine ⟨by rw [List.length_set, List.length_set]; exact h.1, fun j s' e => ?_⟩
  by_cases hj : i = j
  · subst hj
    by_cases q : i < env.length
    · rw [List.getElem?_set_self q] at e; cases e
    · rw [List.getElem?_eq_none (by rw [List.length_set]; omega)] at e; cases e
  · rw [List.getElem?_set_ne hj] at e
    obtain ⟨u', h1, h2⟩ := h.2 j s' e
    exact ⟨u', by rw [List.getElem?_set_ne hj]; exact h1, h2⟩
end

/-! ## 3. the judgements -/
def tM (T : Tx) (Wx : WX) (m : ME) : TE := fun σ H Q => ∃ env ρ G st, Rel T ρ G H st ∧ EnvR T ρ G env σ ∧ PostR T ρ G (SlR T) (m env st) Q fun c d H' => Wx c d σ H'
def tB (T : Tx) (Wx : WX) (m : MT) : TT := fun σ H Q => ∃ env ρ G st, Rel T ρ G H st ∧ EnvR T ρ G env σ ∧ PostR T ρ G (fun _ _ a b => a = b) (m env st) Q fun c d H' => Wx c d σ H'
def tL (T : Tx) (Wx : WX) (m : MA) : TA := fun σ H Q => ∃ env ρ G st, Rel T ρ G H st ∧ EnvR T ρ G env σ ∧ PostR T ρ G (SlRs T) (m env st) Q fun c d H' => Wx c d σ H'
def tS (T : Tx) (Wx : WX) (m : MS) : TS := fun D σ H => ∃ env ρ G st, Rel T ρ G H st ∧ EnvR T ρ G env σ ∧ PostS T ρ G (m env st) D Wx

section
variable {X : Cx}
theorem pe_weak {e : Expr} {t t' : TE} (h : PE X e t) (k : ∀ σ H Q, t' σ H Q → t σ H Q) : PE X e t' := ⟨fun pins s σ H Q I q => h.run pins s σ H Q I (k σ H Q q)⟩
theorem pt_weak {e : Expr} {t t' : TT} (h : PT X e t) (k : ∀ σ H Q, t' σ H Q → t σ H Q) : PT X e t' := ⟨fun pins s σ H Q I q => h.run pins s σ H Q I (k σ H Q q)⟩
theorem pw_weak {e : Expr} {t t' : TT} (h : PW X e t) (k : ∀ σ H Q, t' σ H Q → t σ H Q) : PW X e t' := ⟨fun w pins s σ H Q I q => h.run w pins s σ H Q I (k σ H Q q)⟩
theorem pa_weak {e : List Expr} {t t' : TA} (h : PA X e t) (k : ∀ σ H Q, t' σ H Q → t σ H Q) : PA X e t' := ⟨fun pos pins s σ H Q I q => h.run pos pins s σ H Q I (k σ H Q q)⟩
theorem ps_weak {e : Stmt} {t t' : TS} (h : PS X e t) (k : ∀ D σ H, t' D σ H → t D σ H) : PS X e t' := ⟨fun pins s σ H D I q => h.run pins s σ H D I (k D σ H q)⟩
theorem pss_weak {e : List Stmt} {t t' : TS} (h : PSs X e t) (k : ∀ D σ H, t' D σ H → t D σ H) : PSs X e t' := ⟨fun pins s σ H D I q => h.run pins s σ H D I (k D σ H q)⟩
theorem pts_weak {e : List Expr} {t t' : TT} (h : PTs X e t) (k : ∀ σ H Q, t' σ H Q → t σ H Q) : PTs X e t' := ⟨fun pins s σ H Q I q => h.run pins s σ H Q I (k σ H Q q)⟩
end

variable (X : Cx) (cl : Nat → Addr) (Wx : WX)
abbrev IE (X : Cx) (cl : Nat → Addr) (Wx : WX) (e : Expr) (m : ME) : Prop := PE X e (tM ⟨X.K, cl⟩ Wx m)
abbrev IT (X : Cx) (cl : Nat → Addr) (Wx : WX) (e : Expr) (m : MT) : Prop := PT X e (tB ⟨X.K, cl⟩ Wx m)
abbrev IW (X : Cx) (cl : Nat → Addr) (Wx : WX) (e : Expr) (m : MT) : Prop := PW X e (tB ⟨X.K, cl⟩ Wx m)
abbrev IA (X : Cx) (cl : Nat → Addr) (Wx : WX) (e : List Expr) (m : MA) : Prop := PA X e (tL ⟨X.K, cl⟩ Wx m)
abbrev IS (X : Cx) (cl : Nat → Addr) (Wx : WX) (e : Stmt) (m : MS) : Prop := PS X e (tS ⟨X.K, cl⟩ Wx m)
abbrev ISs (X : Cx) (cl : Nat → Addr) (Wx : WX) (e : List Stmt) (m : MS) : Prop := PSs X e (tS ⟨X.K, cl⟩ Wx m)
end Mz

set_option Elab.async false
set_option linter.all false
set_option maxRecDepth 100000
set_option maxHeartbeats 4000000
namespace Mz
open PySem PySem.Spec PyProof.Rows L2

/-! ## 4. the store: changed, grown, frozen, cut -/
abbrev big : Nat := 16777216
theorem big_line : sizeLine = big := sizeLine_eq
def Store.setl (st : Store) (n : Nat) (x : Lo) : Store := { st with l := st.l.set n x }
def Store.push (st : Store) (x : Lo) : Store := { st with l := st.l ++ [x] }
def Store.lget (st : Store) (n : Nat) : Option (List W) := match st.l[n]? with
  | some (.lst xs) => some xs
  | _ => none
theorem Store.lget_of {st : Store} {n : Nat} {xs : List W} (h : st.lget n = some xs) : st.l[n]? = some (.lst xs) := by
  unfold Store.lget at h
  split at h
  · cases h; assumption
  · cases h
def items (st : Store) : Sl → Option (List W)
  | .v (.lst xs) => some xs
  | .v (.ro xs) => some xs
  | .v (.tup xs) => some xs
  | .l n => st.lget n
  | _ => none
/-- what is a list (and no tuple) -/
def litems (st : Store) : Sl → Option (List W)
  | .v (.lst xs) => some xs
  | .v (.ro xs) => some xs
  | .l n => st.lget n
  | _ => none

section
variable {T : Tx} {ρ ρ' : Mp} {G G' H : Hp} {st : Store}
theorem get_lt {α : Type} {xs : List α} {n : Nat} {x : α} (h : xs[n]? = some x) : n < xs.length := (List.getElem?_eq_some_iff.mp h).1
theorem Rel.lat (r : Rel T ρ G H st) {n : Nat} {x : Lo} (h : st.l[n]? = some x) : ∃ a, ρ.l[n]? = some a := by
  have hl := get_lt h
  rw [← r.ll] at hl
  exact ⟨ρ.l[n], List.getElem?_eq_getElem hl⟩
theorem Rel.oat (r : Rel T ρ G H st) {n : Nat} {x : In} (h : st.o[n]? = some x) : ∃ a, ρ.o[n]? = some a := by
  have hl := get_lt h
  rw [← r.lo] at hl
  exact ⟨ρ.o[n], List.getElem?_eq_getElem hl⟩
theorem Rel.lat' (r : Rel T ρ G H st) {n : Nat} {a : Addr} (h : ρ.l[n]? = some a) : ∃ x, st.l[n]? = some x := by
  have hl := get_lt h
  rw [r.ll] at hl
  exact ⟨st.l[n], List.getElem?_eq_getElem hl⟩
theorem Rel.oat' (r : Rel T ρ G H st) {n : Nat} {a : Addr} (h : ρ.o[n]? = some a) : ∃ x, st.o[n]? = some x := by
  have hl := get_lt h
  rw [r.lo] at hl
  exact ⟨st.o[n], List.getElem?_eq_getElem hl⟩
theorem nodup_get {α : Type} {xs : List α} (hn : xs.Nodup) {i j : Nat} {x : α} (hi : xs[i]? = some x) (hj : xs[j]? = some x) : i = j :=
  (List.getElem?_inj (get_lt hi) hn).mp (hi.trans hj.symm)
theorem fresh_G (r : Rel T ρ G H st) {p : Addr} (h : H p = none) : G p = none := by
  cases e : G p with
  | none => rfl
  | some o => rw [r.ext p o e] at h; cases h
theorem fresh_l (r : Rel T ρ G H st) {p : Addr} (h : H p = none) {n : Nat} {a : Addr} (hn : ρ.l[n]? = some a) : a ≠ p := by
  obtain ⟨x, hx⟩ := r.lat' hn
  obtain ⟨_, o, ho, _⟩ := r.la n a x hn hx
  exact ne_of_none ho h
theorem fresh_o (r : Rel T ρ G H st) {p : Addr} (h : H p = none) {n : Nat} {a : Addr} (hn : ρ.o[n]? = some a) : a ≠ p := by
  obtain ⟨x, hx⟩ := r.oat' hn
  obtain ⟨_, o, ho, _⟩ := r.oa n a x hn hx
  exact ne_of_none ho h
theorem lo_ne_ins {x : Lo} {o : HO} {C dx : Addr} {fs : List (Str × V)} (h : LoR T G x o) : o ≠ .ins C dx fs := by
  cases x with
  | lst xs => obtain ⟨vs, h1, _⟩ := h; rw [h1]; intro z; cases z
  | dct ks ws => obtain ⟨vs, h1, _⟩ := h; rw [h1]; intro z; cases z
  | dead => rcases h with ⟨vs, h1⟩ | ⟨vs, h1⟩ <;> (rw [h1]; intro z; cases z)
theorem Rel.apart (r : Rel T ρ G H st) {n m : Nat} {a b : Addr} (hn : ρ.l[n]? = some a) (hm : ρ.o[m]? = some b) : a ≠ b := by
  obtain ⟨x, hx⟩ := r.lat' hn
  obtain ⟨_, o, ho, hr⟩ := r.la n a x hn hx
  obtain ⟨y, hy⟩ := r.oat' hm
  obtain ⟨_, o', ho', dx, us, e, _⟩ := r.oa m b y hm hy
  intro z
  subst z
  rw [ho] at ho'
  cases ho'
  exact lo_ne_ins hr e
/-- a list of the store is changed -/
theorem Rel.setl (r : Rel T ρ G H st) {n : Nat} {a : Addr} {x y : Lo} {o : HO} (hn : ρ.l[n]? = some a) (hr : LoR T G x o) (hy0 : st.l[n]? = some y) (hd : y ≠ .dead) : Rel T ρ G (upd H a o) (st.setl n x) := by
  have hx0 := hy0
  obtain ⟨hG, o0, ho0, hr0⟩ := r.la n a y hn hx0
  replace hG := hG hd
  refine ⟨fun b u e => ?_, ?_, r.lo, fun m b y hm hy => ?_, fun m b y hm hy => ?_, r.nl, r.no, r.tb.upd (fx_lo ho0 hr0), r.nt⟩
  · have hb : b ≠ a := fun z => by rw [z, hG] at e; cases e
    rw [upd_ne hb]; exact r.ext b u e
  · show ρ.l.length = (st.l.set n x).length
    rw [List.length_set]; exact r.ll
  · by_cases hmn : n = m
    · subst hmn
      rw [hn] at hm; cases hm
      have e : (st.l.set n x)[n]? = some x := List.getElem?_set_self (get_lt hx0)
      have hy' : (st.l.set n x)[n]? = some y := hy
      rw [e] at hy'; cases hy'
      exact ⟨fun _ => hG, o, upd_same, hr⟩
    · have hb : b ≠ a := fun z => hmn (nodup_get r.nl hn (z ▸ hm))
      have e : (st.l.set n x)[m]? = st.l[m]? := List.getElem?_set_ne hmn
      have hy' : (st.l.set n x)[m]? = some y := hy
      rw [e] at hy'
      obtain ⟨h1, o', h2, h3⟩ := r.la m b y hm hy'
      exact ⟨h1, o', by rw [upd_ne hb]; exact h2, h3⟩
  · obtain ⟨h1, o', h2, h3⟩ := r.oa m b y hm hy
    have hb : b ≠ a := fun z => r.apart hn hm z.symm
    exact ⟨h1, o', by rw [upd_ne hb]; exact h2, h3⟩
/-- a new object that is not followed -/
theorem Rel.junk (r : Rel T ρ G H st) {p : Addr} {o : HO} (h : H p = none) : Rel T ρ G (upd H p o) st := by
  refine ⟨fun b u e => ?_, r.ll, r.lo, fun m b y hm hy => ?_, fun m b y hm hy => ?_, r.nl, r.no, r.tb.upd (fx_none h), r.nt⟩
  · have e' := r.ext b u e
    rw [upd_ne (ne_of_none e' h)]; exact e'
  · obtain ⟨h1, o', h2, h3⟩ := r.la m b y hm hy
    exact ⟨h1, o', by rw [upd_ne (ne_of_none h2 h)]; exact h2, h3⟩
  · obtain ⟨h1, o', h2, h3⟩ := r.oa m b y hm hy
    exact ⟨h1, o', by rw [upd_ne (ne_of_none h2 h)]; exact h2, h3⟩
theorem updG_ex {p : Addr} {o : HO} (h : G p = none) : ∀ a u, G a = some u → upd G p o a = some u := fun a u e => by
  rw [upd_ne (ne_of_none e h)]; exact e
/-- a new object that stays -/
theorem Rel.newG (r : Rel T ρ G H st) {p : Addr} {o : HO} (h : H p = none) (hnt : ∀ ps, o ≠ .tbl ps := by first | (intro _ z; cases z; done) | (intro _ z; unfold ItA at z; cases z) | assumption) : Fr ρ ρ G (upd G p o) ∧ Rel T ρ (upd G p o) (upd H p o) st := by
  have hG := fresh_G r h
  have f : Fr ρ ρ G (upd G p o) := ⟨(Fr.refl ρ G).le, updG_ex hG⟩
  refine ⟨f, fun b u e => ?_, r.ll, r.lo, fun m b y hm hy => ?_, fun m b y hm hy => ?_, r.nl, r.no, r.tb.upd (fx_none h), nt_upd r.nt hnt⟩
  · by_cases hb : b = p
    · subst hb; rw [upd_same] at e ⊢; exact e
    · rw [upd_ne hb] at e ⊢; exact r.ext b u e
  · obtain ⟨h1, o', h2, h3⟩ := r.la m b y hm hy
    have hb : b ≠ p := ne_of_none h2 h
    exact ⟨fun hd => by rw [upd_ne hb]; exact h1 hd, o', by rw [upd_ne hb]; exact h2, h3.mono f.ex⟩
  · obtain ⟨h1, o', h2, h3⟩ := r.oa m b y hm hy
    have hb : b ≠ p := ne_of_none h2 h
    exact ⟨by rw [upd_ne hb]; exact h1, o', by rw [upd_ne hb]; exact h2, h3.mono f⟩
theorem get_snoc {α : Type} {xs : List α} {x y : α} {n : Nat} (h : (xs ++ [x])[n]? = some y) : xs[n]? = some y ∨ (n = xs.length ∧ y = x) := by
  by_cases hn : n < xs.length
  · rw [List.getElem?_append_left hn] at h; exact .inl h
  · rw [List.getElem?_append_right (by omega)] at h
    have hl := get_lt h
    simp at hl
    have e : n = xs.length := by omega
    subst e
    simp at h
    exact .inr ⟨rfl, h.symm⟩
theorem le_snoc_l {p : Addr} : Le ρ ⟨ρ.l ++ [p], ρ.o⟩ := ⟨fun n a h => by
  show (ρ.l ++ [p])[n]? = some a
  rw [List.getElem?_append_left (get_lt h)]; exact h, fun _ _ h => h⟩
theorem le_snoc_o {p : Addr} : Le ρ ⟨ρ.l, ρ.o ++ [p]⟩ := ⟨fun _ _ h => h, fun n a h => by
  show (ρ.o ++ [p])[n]? = some a
  rw [List.getElem?_append_left (get_lt h)]; exact h⟩
theorem nodup_snoc {α : Type} {xs : List α} {x : α} (h : xs.Nodup) (hx : x ∉ xs) : (xs ++ [x]).Nodup := by
  rw [List.nodup_append]
  exact ⟨h, by simp, fun a ha b hb => by simp at hb; subst hb; exact fun z => hx (z ▸ ha)⟩
/-- a new list (dict) of the store -/
theorem Rel.newL (r : Rel T ρ G H st) {p : Addr} {o : HO} {x : Lo} (h : H p = none) (hr : LoR T G x o) : Fr ρ ⟨ρ.l ++ [p], ρ.o⟩ G G ∧ Rel T ⟨ρ.l ++ [p], ρ.o⟩ G (upd H p o) (st.push x) := by
  have f : Fr ρ ⟨ρ.l ++ [p], ρ.o⟩ G G := ⟨le_snoc_l, fun _ _ e => e⟩
  refine ⟨f, fun b u e => ?_, ?_, r.lo, fun m b y hm hy => ?_, fun m b y hm hy => ?_, ?_, r.no, r.tb.upd (fx_none h), r.nt⟩
  · have e' := r.ext b u e
    rw [upd_ne (ne_of_none e' h)]; exact e'
  · show (ρ.l ++ [p]).length = (st.l ++ [x]).length
    simp [r.ll]
  · rcases get_snoc (show (ρ.l ++ [p])[m]? = some b from hm) with hm | ⟨rfl, rfl⟩
    · have hlt : m < st.l.length := by rw [← r.ll]; exact get_lt hm
      have hy' : (st.l ++ [x])[m]? = some y := hy
      rw [List.getElem?_append_left hlt] at hy'
      obtain ⟨h1, o', h2, h3⟩ := r.la m b y hm hy'
      exact ⟨h1, o', by rw [upd_ne (ne_of_none h2 h)]; exact h2, h3⟩
    · have hy' : (st.l ++ [x])[ρ.l.length]? = some y := hy
      rw [r.ll, List.getElem?_append_right (Nat.le_refl _)] at hy'
      simp at hy'
      subst hy'
      exact ⟨fun _ => fresh_G r h, o, upd_same, hr⟩
  · obtain ⟨h1, o', h2, h3⟩ := r.oa m b y hm hy
    exact ⟨h1, o', by rw [upd_ne (ne_of_none h2 h)]; exact h2, h3.mono f⟩
  · exact nodup_snoc r.nl fun hm => by
      obtain ⟨n, hn⟩ := List.getElem?_of_mem hm
      exact fresh_l r h hn rfl
/-- the last list of the store stays as it is from now on -/
theorem Rel.freezeLast {xs : List W} {l : List Lo} {o : List In} {ll : List Addr} {lo : List Addr} {p : Addr} (r : Rel T ⟨ll ++ [p], lo⟩ G H ⟨l ++ [.lst xs], o⟩) (hl : ll.length = l.length) (hf : ∀ (m : Nat) (b : Addr) (y : In), lo[m]? = some b → o[m]? = some y → ∀ (us : List V), SlRs T ⟨ll ++ [p], lo⟩ G y.vs us → SlRs T ⟨ll, lo⟩ G y.vs us) :
    ∃ vs, H p = some (.lst vs) ∧ Reps T G xs vs ∧ (∀ a u, G a = some u → upd G p (.lst vs) a = some u) ∧ Rel T ⟨ll, lo⟩ (upd G p (.lst vs)) H ⟨l, o⟩ := by
  have hp : (ll ++ [p])[ll.length]? = some p := by simp
  have hx : (l ++ [Lo.lst xs])[ll.length]? = some (.lst xs) := by rw [hl]; simp
  obtain ⟨h1, o', h2, vs, rfl, h3⟩ := r.la ll.length p _ hp hx
  replace h1 := h1 (fun z => by cases z)
  have hnd := r.nl
  have hnd' : (ll ++ [p]).Nodup := hnd
  rw [List.nodup_append] at hnd'
  have hpl : ∀ m b, ll[m]? = some b → b ≠ p := fun m b hm => hnd'.2.2 b (List.mem_of_getElem? hm) p (by simp)
  refine ⟨vs, h2, h3, updG_ex h1, fun b u e => ?_, hl, r.lo, fun m b y hm hy => ?_, fun m b y hm hy => ?_, hnd'.1, r.no, r.tb, nt_upd r.nt (fun _ z => nomatch z)⟩
  · by_cases hb : b = p
    · subst hb; rw [upd_same] at e; cases e; exact h2
    · rw [upd_ne hb] at e; exact r.ext b u e
  · have hm' : (ll ++ [p])[m]? = some b := by rw [List.getElem?_append_left (get_lt hm)]; exact hm
    have hy' : (l ++ [Lo.lst xs])[m]? = some y := by rw [List.getElem?_append_left (get_lt hy)]; exact hy
    obtain ⟨g1, o', g2, g3⟩ := r.la m b y hm' hy'
    exact ⟨fun hd => by rw [upd_ne (hpl m b hm)]; exact g1 hd, o', g2, g3.mono (updG_ex h1)⟩
  · obtain ⟨g1, o', g2, dx, us, e1, e2, e3⟩ := r.oa m b y hm hy
    have hb : b ≠ p := fun z => by subst z; rw [h2] at g2; cases g2; cases e1
    refine ⟨by rw [upd_ne hb]; exact g1, o', g2, dx, us, e1, e2, ?_⟩
    exact SlRs.mono ⟨⟨fun _ _ h => h, fun _ _ h => h⟩, updG_ex h1⟩ (hf m b y hm hy us e3)
/-- reading lists and tuples -/
theorem items_at (r : Rel T ρ G H st) {s : Sl} {u : V} {xs : List W} (hs : SlR T ρ G s u) (h : items st s = some xs) : ∃ a vs, u = .ref a ∧ (SqL T.K H a vs ∨ SqT T.K H a vs) ∧ Reps T G xs vs := by
  cases s with
  | v w =>
    cases w with
    | lst ys => cases h; unfold SlR Rep at hs; obtain ⟨a, vs, h1, h2, h3⟩ := hs; exact ⟨a, vs, h1, .inl (SqL.of (r.ext _ _ h2)), h3⟩
    | ro ys => cases h; unfold SlR Rep at hs; obtain ⟨a, vs, h1, h2, h3⟩ := hs; exact ⟨a, vs, h1, .inl (sql_mono r.ext h2), h3⟩
    | tup ys => cases h; unfold SlR Rep at hs; obtain ⟨a, vs, h1, h2, h3⟩ := hs; exact ⟨a, vs, h1, .inr (sqt_mono r.ext h2), h3⟩
    | _ => cases h
  | l n =>
    obtain ⟨a, h1, h2⟩ := hs
    obtain ⟨_, o, h3, vs, h4, h5⟩ := r.la n a _ h1 (Store.lget_of h)
    exact ⟨a, vs, h2, .inl (SqL.of (by rw [h3, h4])), h5⟩
  | o n => cases h
theorem litems_at (r : Rel T ρ G H st) {s : Sl} {u : V} {xs : List W} (hs : SlR T ρ G s u) (h : litems st s = some xs) : ∃ a vs, u = .ref a ∧ SqL T.K H a vs ∧ Reps T G xs vs := by
  cases s with
  | v w =>
    cases w with
    | lst ys => cases h; unfold SlR Rep at hs; obtain ⟨a, vs, h1, h2, h3⟩ := hs; exact ⟨a, vs, h1, SqL.of (r.ext _ _ h2), h3⟩
    | ro ys => cases h; unfold SlR Rep at hs; obtain ⟨a, vs, h1, h2, h3⟩ := hs; exact ⟨a, vs, h1, sql_mono r.ext h2, h3⟩
    | _ => cases h
  | l n =>
    obtain ⟨a, h1, h2⟩ := hs
    obtain ⟨_, o, h3, vs, h4, h5⟩ := r.la n a _ h1 (Store.lget_of h)
    exact ⟨a, vs, h2, SqL.of (by rw [h3, h4]), h5⟩
  | o n => cases h
/-- the store is cut back to what stood ahead of a call -/
theorem Rel.trunc {ρ1 : Mp} {G1 H1 : Hp} {st1 : Store} {H0 : Hp} (r : Rel T ρ G H0 st) (r1 : Rel T ρ1 G1 H1 st1) (f : Fr ρ ρ1 G G1) (ho : st1.o.take st.o.length = st.o) :
    ∃ ρ2, Fr ρ ρ2 G G1 ∧ Rel T ρ2 G1 H1 ⟨st1.l.take st.l.length, st.o⟩ ∧ ∀ (s : Sl) u, SlR T ρ1 G1 s u → (∀ n, s = .l n → n < st.l.length) → (∀ n, s = .o n → n < st.o.length) → SlR T ρ2 G1 s u := by
  have sub : ∀ {α : Type} {xs : List α} {k n : Nat} {a : α}, (xs.take k)[n]? = some a → xs[n]? = some a ∧ n < k := fun {α xs k n a} h => by
    have := get_lt h
    rw [List.length_take] at this
    rw [List.getElem?_take_of_lt (by omega)] at h
    exact ⟨h, by omega⟩
  have up : ∀ {α : Type} {xs : List α} {k n : Nat} {a : α}, xs[n]? = some a → n < k → (xs.take k)[n]? = some a := fun {α xs k n a} h hk => by
    rw [List.getElem?_take_of_lt hk]; exact h
  have low : ∀ (s : Sl) u, SlR T ρ1 G1 s u → (∀ n, s = .l n → n < st.l.length) → (∀ n, s = .o n → n < st.o.length) → SlR T ⟨ρ1.l.take st.l.length, ρ1.o.take st.o.length⟩ G1 s u := fun s u h h1 h2 => by
    cases s with
    | v w => exact h
    | l n => obtain ⟨a, e1, e2⟩ := h; exact ⟨a, up e1 (h1 n rfl), e2⟩
    | o n => obtain ⟨a, e1, e2⟩ := h; exact ⟨a, up e1 (h2 n rfl), e2⟩
  have lows : ∀ (ss : List Sl) us us0, SlRs T ρ1 G1 ss us → SlRs T ρ G ss us0 → SlRs T ⟨ρ1.l.take st.l.length, ρ1.o.take st.o.length⟩ G1 ss us := by
    intro ss
    induction ss with
    | nil => intro us us0 h _; exact h
    | cons s ss ih =>
      intro us us0 h h0
      obtain ⟨v, q, e1, e2, e3⟩ := h
      obtain ⟨v0, q0, z1, z2, z3⟩ := h0
      refine ⟨v, q, e1, low s v e2 (fun n hn => ?_) (fun n hn => ?_), ih q q0 e3 z3⟩
      · subst hn; obtain ⟨a, y1, _⟩ := z2; rw [← r.ll]; exact get_lt y1
      · subst hn; obtain ⟨a, y1, _⟩ := z2; rw [← r.lo]; exact get_lt y1
  refine ⟨⟨ρ1.l.take st.l.length, ρ1.o.take st.o.length⟩, ⟨⟨fun n a h => up (f.le.1 n a h) (by rw [← r.ll]; exact get_lt h), fun n a h => up (f.le.2 n a h) (by rw [← r.lo]; exact get_lt h)⟩, f.ex⟩, ⟨r1.ext, ?_, ?_, fun m b y hm hy => ?_, fun m b y hm hy => ?_, ?_, ?_, r1.tb, r1.nt⟩, low⟩
  · show (ρ1.l.take _).length = (st1.l.take _).length
    rw [List.length_take, List.length_take, r1.ll]
  · show (ρ1.o.take _).length = st.o.length
    rw [List.length_take, r1.lo]
    have := congrArg List.length ho
    rw [List.length_take] at this
    exact this
  · obtain ⟨hm', _⟩ := sub hm
    obtain ⟨hy', _⟩ := sub hy
    exact r1.la m b y hm' hy'
  · obtain ⟨hm', hmk⟩ := sub hm
    have hy1 : st1.o[m]? = some y := by
      have e : (st1.o.take st.o.length)[m]? = some y := by rw [ho]; exact hy
      exact (sub e).1
    obtain ⟨h1, o', h2, dx, us, e1, e2, e3⟩ := r1.oa m b y hm' hy1
    obtain ⟨a0, ha0⟩ := r.oat hy
    obtain ⟨_, _, _, _, us0, _, _, e03⟩ := r.oa m a0 y ha0 hy
    exact ⟨h1, o', h2, dx, us, e1, e2, lows _ _ _ e3 e03⟩
  · exact List.Nodup.sublist (List.take_sublist _ _) r1.nl
  · exact List.Nodup.sublist (List.take_sublist _ _) r1.no
end
end Mz

set_option Elab.async false
set_option linter.all false
set_option maxRecDepth 100000
set_option maxHeartbeats 4000000
namespace Mz
open PySem PySem.Spec PyProof.Rows L2

/-! ## 5. expressions -/
def mVar (i : Nat) : ME := fun env st => match env[i]? with
  | some (some s) => .ok s st
  | _ => .bad
def mC (w : W) : ME := fun _ st => .ok (.v w) st
def mOp (f : Sl → Sl → Store → Res Sl) (a b : ME) : ME := fun env st => (a env st).bind fun x st1 => (b env st1).bind fun y st2 => f x y st2
def mUn (f : Sl → Store → Res Sl) (a : ME) : ME := fun env st => (a env st).bind fun x st1 => f x st1
def tru : Sl → Store → Res Bool
  | .v (.bl b), st => .ok b st
  | _, _ => .bad
def mTest (a : ME) : MT := fun env st => (a env st).bind tru
def mAnd (a b : MT) : MT := fun env st => (a env st).bind fun c st1 => if c = true then b env st1 else .ok false st1
def mOr (a b : MT) : MT := fun env st => (a env st).bind fun c st1 => if c = true then .ok true st1 else b env st1
def mNot (a : MT) : MT := fun env st => (a env st).bind fun c st1 => .ok (!c) st1
def mAndV (a b : ME) : ME := fun env st => (a env st).bind fun x st1 => (tru x st1).bind fun c st2 => if c = true then b env st2 else .ok (.v (.bl false)) st2
def mOrV (a b : ME) : ME := fun env st => (a env st).bind fun x st1 => (tru x st1).bind fun c st2 => if c = true then .ok (.v (.bl true)) st2 else b env st2
def mNotV (a : ME) : ME := fun env st => (a env st).bind fun x st1 => (tru x st1).bind fun c st2 => .ok (.v (.bl (!c))) st2
def mIf (t : MT) (a b : ME) : ME := fun env st => (t env st).bind fun c st1 => if c = true then a env st1 else b env st1
def mNil : MA := fun _ st => .ok [] st
def mCons (a : ME) (r : MA) : MA := fun env st => (a env st).bind fun x st1 => (r env st1).bind fun xs st2 => .ok (x :: xs) st2
def vals : List Sl → Option (List W)
  | [] => some []
  | .v w :: r => (vals r).map (w :: ·)
  | _ => none
def mTup (a : MA) : ME := fun env st => (a env st).bind fun xs st1 => match vals xs with
  | some ws => if ws.length ≤ big then .ok (.v (.tup ws)) st1 else .bad
  | none => .bad
def mLst (a : MA) : ME := fun env st => (a env st).bind fun xs st1 => match vals xs with
  | some ws => if ws.length ≤ big then .ok (.v (.lst ws)) st1 else .bad
  | none => .bad
def mLstM (a : MA) : ME := fun env st => (a env st).bind fun xs st1 => match vals xs with
  | some ws => if ws.length ≤ big then .ok (.l st1.l.length) (st1.push (.lst ws)) else .bad
  | none => .bad
def mCall (F : MF) (a : MA) : ME := fun env st => (a env st).bind fun xs st1 => F xs st1
def mChain (f g : Sl → Sl → Store → Res Sl) (a b c : ME) : ME := fun env st => (a env st).bind fun x st1 => (b env st1).bind fun y st2 => (f x y st2).bind fun z st3 => (tru z st3).bind fun k st4 =>
  if k = true then (c env st4).bind fun w st5 => g y w st5 else .ok (.v (.bl false)) st4

/-- an operation by values is told by f -/
def OpS (T : Tx) (r : R2) (f : Sl → Sl → Store → Res Sl) : Prop := ∀ ρ G H st x y u v Q E, Rel T ρ G H st → SlR T ρ G x u → SlR T ρ G y v → PostR T ρ G (SlR T) (f x y st) Q E → r u v H Q
def UnS (T : Tx) (r : V → Hp → VK → Prop) (f : Sl → Store → Res Sl) : Prop := ∀ ρ G H st x u Q E, Rel T ρ G H st → SlR T ρ G x u → PostR T ρ G (SlR T) (f x st) Q E → r u H Q
def CaS (T : Tx) (r : List V → Hp → VK → Prop) (f : MF) : Prop := ∀ ρ G H st xs us Q E, Rel T ρ G H st → SlRs T ρ G xs us → PostR T ρ G (SlR T) (f xs st) Q E → r us H Q

section
variable {T : Tx} {ρ : Mp} {G H : Hp} {st : Store}
/-- the answer is w, nothing is changed -/
theorem PostR.give {α β : Type} {R : Mp → Hp → α → β → Prop} {a : α} {Q : β → Hp → Prop} {E : XK} {u : β} (h : PostR T ρ G R (.ok a st) Q E) (r : Rel T ρ G H st) (hr : R ρ G a u) : Q u H := h ρ G H u (Fr.refl ρ G) r hr
theorem tru_bl {s : Sl} {u : V} {b : Bool} {st st' : Store} (h : tru s st = .ok b st') (r : SlR T ρ G s u) : u = .bl b ∧ st' = st := by
  cases s with
  | v w =>
    cases w with
    | bl c => cases h; unfold SlR Rep at r; exact ⟨r, rfl⟩
    | _ => cases h
  | _ => cases h
theorem tru_not_ex {s : Sl} {c : Nat} {ns : List Str} {ws : List W} {st st' : Store} : tru s st ≠ .ex c ns ws st' := by
  cases s with
  | v w => cases w <;> simp [tru]
  | _ => simp [tru]
theorem vals_reps : ∀ {ss : List Sl} {ws : List W} {us : List V}, vals ss = some ws → SlRs T ρ G ss us → Reps T G ws us
  | [], ws, us, h, r => by cases h; cases r; exact Reps.nil
  | .v w :: ss, ws, us, h, r => by
    obtain ⟨v, q, rfl, r1, r2⟩ := r
    unfold vals at h
    obtain ⟨ws', e, rfl⟩ := Option.map_eq_some_iff.mp h
    exact Reps.cons r1 (vals_reps e r2)
  | .l n :: ss, ws, us, h, r => by cases h
  | .o n :: ss, ws, us, h, r => by cases h
/-- a bool that is asked -/
theorem PostR.tru {γ δ : Type} {R : Mp → Hp → γ → δ → Prop} {s : Sl} {u : V} {k : Bool → Store → Res γ} {Q : δ → Hp → Prop} {E : XK} (h : PostR T ρ G R ((tru s st).bind k) Q E) (r : SlR T ρ G s u) : ∃ b, u = .bl b ∧ PostR T ρ G R (k b st) Q E := by
  cases e : Mz.tru s st with
  | ok b st' =>
    obtain ⟨h1, rfl⟩ := tru_bl e r
    rw [e] at h
    exact ⟨b, h1, h⟩
  | ex c ns ws st' => exact absurd e tru_not_ex
  | bad => rw [e] at h; exact h.elim
end

section
variable {X : Cx} {cl : Nat → Addr} {Wx : WX} {a b c : Expr} {ma mb mc : ME} {pos : Pos}
theorem ie_var (i : Nat) {x : Str} {pos : Pos} (hN : X.N[i]? = some x := by rfl) (hv : Vis X.env.scope x := by first | exact Or.inl rfl | exact Or.inr (Or.inl rfl) | exact Or.inr (Or.inr rfl)) (hd : (x == ("__debug__" : Str)) = false := by decide)
    (hcd : (x == ("__classdict__" : Str)) = false := by decide) : IE X cl Wx (.Name x pos) (mVar i) := pe_weak (pe_var hN hv hd hcd) fun σ H Q ⟨env, ρ, G, st, r, er, p⟩ => by
  unfold mVar at p
  split at p
  · rename_i s e
    obtain ⟨u, h1, h2⟩ := er.2 i s e
    exact ⟨u, h1, p.give r h2⟩
  · exact p.elim
theorem ie_int {i j pos} : IE X cl Wx (.Constant (.int i) j pos) (mC (.int i)) := pe_weak pe_int fun σ H Q ⟨env, ρ, G, st, r, er, p⟩ => p.give r (by unfold SlR Rep; rfl)
theorem ie_bl {b j pos} : IE X cl Wx (.Constant (.bool b) j pos) (mC (.bl b)) := pe_weak pe_bl fun σ H Q ⟨env, ρ, G, st, r, er, p⟩ => p.give r (by unfold SlR Rep; rfl)
theorem ie_non {j pos} : IE X cl Wx (.Constant .none j pos) (mC .non) := pe_weak pe_non fun σ H Q ⟨env, ρ, G, st, r, er, p⟩ => p.give r (by unfold SlR Rep; rfl)
theorem ie_str {x j pos} : IE X cl Wx (.Constant (.str x) j pos) (mC (.str x)) := pe_weak pe_str fun σ H Q ⟨env, ρ, G, st, r, er, p⟩ => p.give r (by unfold SlR Rep; rfl)

theorem tM_op {r : R2} {f : Sl → Sl → Store → Res Sl} (hs : OpS ⟨X.K, cl⟩ r f) : ∀ σ H Q, tM ⟨X.K, cl⟩ Wx (mOp f ma mb) σ H Q → tOp r (tM ⟨X.K, cl⟩ Wx ma) (tM ⟨X.K, cl⟩ Wx mb) σ H Q := fun σ H Q ⟨env, ρ, G, st, rel, er, p⟩ =>
  ⟨env, ρ, G, st, rel, er, p.bind fun x st1 ρ1 G1 H1 u f1 r1 s1 p1 => ⟨env, ρ1, G1, st1, r1, er.mono f1, p1.bind fun y st2 ρ2 G2 H2 v f2 r2 s2 p2 => hs ρ2 G2 H2 st2 x y u v Q _ r2 (s1.mono f2) s2 p2⟩⟩
theorem ie_op {op : Operator} {r : R2} {f : Sl → Sl → Store → Res Sl} (ho : OpR X (binaryOp op) r) (hs : OpS ⟨X.K, cl⟩ r f) (ha : IE X cl Wx a ma) (hb : IE X cl Wx b mb) : IE X cl Wx (.BinOp a op b pos) (mOp f ma mb) := pe_weak (pe_op ho ha hb) (tM_op hs)
theorem ie_cmp {op : CmpOp} {r : R2} {f : Sl → Sl → Store → Res Sl} (ho : OpR X (compareOp op) r) (hs : OpS ⟨X.K, cl⟩ r f) (ha : IE X cl Wx a ma) (hb : IE X cl Wx b mb) (hm : behindInMarks op b = false) : IE X cl Wx (.Compare a [op] [b] pos) (mOp f ma mb) := pe_weak (pe_cmpR ho ha hb hm) (tM_op hs)
theorem ie_ix {r : R2} {f : Sl → Sl → Store → Res Sl} (ho : IxR X r) (hs : OpS ⟨X.K, cl⟩ r f) (ha : IE X cl Wx a ma) (hb : IE X cl Wx b mb) (hp : PlainIx b) : IE X cl Wx (.Subscript a b pos) (mOp f ma mb) := pe_weak (pe_ix ho ha hb hp) (tM_op hs)
theorem ie_un {op : UnaryOp} {r : V → Hp → VK → Prop} {f : Sl → Store → Res Sl} (ho : UnR X (unaryOp op) r) (hs : UnS ⟨X.K, cl⟩ r f) (ha : IE X cl Wx a ma) : IE X cl Wx (.UnaryOp op a pos) (mUn f ma) :=
  pe_weak (pe_un ho ha) fun σ H Q ⟨env, ρ, G, st, rel, er, p⟩ => ⟨env, ρ, G, st, rel, er, p.bind fun x st1 ρ1 G1 H1 u f1 r1 s1 p1 => hs ρ1 G1 H1 st1 x u Q _ r1 s1 p1⟩
/-- a value that is True or False, as a test -/
theorem it_cmp {op : CmpOp} {r : R2} {f : Sl → Sl → Store → Res Sl} (ho : OpR X (compareOp op) r) (hs : OpS ⟨X.K, cl⟩ r f) (ha : IE X cl Wx a ma) (hb : IE X cl Wx b mb) (hm : behindInMarks op b = false) : IT X cl Wx (.Compare a [op] [b] pos) (mTest (mOp f ma mb)) :=
  pt_weak (pt_cmpR ho ha hb hm) fun σ H Q ⟨env, ρ, G, st, rel, er, p⟩ => tM_op hs σ H _ ⟨env, ρ, G, st, rel, er, p.bind fun x st1 ρ1 G1 H1 u f1 r1 s1 p1 => by
    obtain ⟨k, h1, h2⟩ := PostR.tru (k := fun b st => .ok b st) (by
      have e : ((Mz.tru x st1).bind fun b st => Res.ok b st) = Mz.tru x st1 := by cases Mz.tru x st1 <;> rfl
      rw [e]; exact p1) s1
    exact ⟨k, h1, h2.give r1 rfl⟩⟩
theorem it_val (ha : IE X cl Wx a ma) (he : ∀ whole, isTrue a X.env whole = (do let v ← whole; standAt a.pos; holding [v] (truthy v)) := by intro _; rfl) : IT X cl Wx a (mTest ma) :=
  pt_weak (pt_val ha he) fun σ H Q ⟨env, ρ, G, st, rel, er, p⟩ => ⟨env, ρ, G, st, rel, er, p.bind fun x st1 ρ1 G1 H1 u f1 r1 s1 p1 => by
    obtain ⟨k, h1, h2⟩ := PostR.tru (k := fun b st => .ok b st) (by
      have e : ((Mz.tru x st1).bind fun b st => Res.ok b st) = Mz.tru x st1 := by cases Mz.tru x st1 <;> rfl
      rw [e]; exact p1) s1
    exact ⟨k, h1, h2.give r1 rfl⟩⟩
theorem tM_chain {r r' : R2} {f g : Sl → Sl → Store → Res Sl} (hs : OpS ⟨X.K, cl⟩ r f) (hs' : OpS ⟨X.K, cl⟩ r' g) :
    ∀ σ H Q, tM ⟨X.K, cl⟩ Wx (mChain f g ma mb mc) σ H Q → tChain r r' (tM ⟨X.K, cl⟩ Wx ma) (tM ⟨X.K, cl⟩ Wx mb) (tM ⟨X.K, cl⟩ Wx mc) σ H Q := fun σ H Q ⟨env, ρ, G, st, rel, er, p⟩ =>
  ⟨env, ρ, G, st, rel, er, p.bind fun x st1 ρ1 G1 H1 u f1 r1 s1 p1 => ⟨env, ρ1, G1, st1, r1, er.mono f1, p1.bind fun y st2 ρ2 G2 H2 v f2 r2 s2 p2 =>
    hs ρ2 G2 H2 st2 x y u v _ _ r2 (s1.mono f2) s2 (PostR.bind (R1 := SlR ⟨X.K, cl⟩) p2 fun z st3 ρ3 G3 H3 w f3 r3 s3 p3 => by
      obtain ⟨k, h1, h2⟩ := PostR.tru p3 s3
      refine ⟨k, h1, ?_⟩
      cases k with
      | true =>
        show tM _ _ _ _ _ _
        exact ⟨env, ρ3, G3, st3, r3, (er.mono f1).mono (f2.trans f3), PostR.bind (R1 := SlR ⟨X.K, cl⟩) h2 fun w4 st4 ρ4 G4 H4 u4 f4 r4 s4 p4 => hs' ρ4 G4 H4 st4 y w4 v u4 Q _ r4 (s2.mono (f3.trans f4)) s4 p4⟩
      | false => exact PostR.give h2 r3 (by unfold SlR Rep; rfl))⟩⟩
theorem ie_chain {op op' : CmpOp} {r r' : R2} {f g : Sl → Sl → Store → Res Sl} (ho : OpR X (compareOp op) r) (ho' : OpR X (compareOp op') r') (hs : OpS ⟨X.K, cl⟩ r f) (hs' : OpS ⟨X.K, cl⟩ r' g) (ha : IE X cl Wx a ma) (hb : IE X cl Wx b mb) (hc : IE X cl Wx c mc)
    (hm : lastMarks [op, op'] [b, c] = false := by with_unfolding_all rfl) : IE X cl Wx (.Compare a [op, op'] [b, c] pos) (mChain f g ma mb mc) := pe_weak (pe_chain ho ho' ha hb hc hm) (tM_chain hs hs')
theorem it_chain {op op' : CmpOp} {r r' : R2} {f g : Sl → Sl → Store → Res Sl} (ho : OpR X (compareOp op) r) (ho' : OpR X (compareOp op') r') (hs : OpS ⟨X.K, cl⟩ r f) (hs' : OpS ⟨X.K, cl⟩ r' g) (ha : IE X cl Wx a ma) (hb : IE X cl Wx b mb) (hc : IE X cl Wx c mc)
    (hm : lastMarks [op, op'] [b, c] = false := by with_unfolding_all rfl) : IT X cl Wx (.Compare a [op, op'] [b, c] pos) (mTest (mChain f g ma mb mc)) :=
  pt_weak (pt_chain ho ho' ha hb hc hm) fun σ H Q ⟨env, ρ, G, st, rel, er, p⟩ => tM_chain hs hs' σ H _ ⟨env, ρ, G, st, rel, er, p.bind fun x st1 ρ1 G1 H1 u f1 r1 s1 p1 => by
    obtain ⟨k, h1, h2⟩ := PostR.tru (k := fun b st => .ok b st) (by
      have e : ((Mz.tru x st1).bind fun b st => Res.ok b st) = Mz.tru x st1 := by cases Mz.tru x st1 <;> rfl
      rw [e]; exact p1) s1
    exact ⟨k, h1, h2.give r1 rfl⟩⟩
end
section
variable {X : Cx} {cl : Nat → Addr} {Wx : WX} {a b c : Expr} {ma mb mc : ME} {pos : Pos} {rest : List Expr} {ta tb : MT}
/-! tests -/
theorem iw_and1 (ha : IT X cl Wx a ta) : IW X cl Wx (.BoolOp .And [a] pos) ta := pw_and1 ha
theorem iw_or1 (ha : IT X cl Wx a ta) : IW X cl Wx (.BoolOp .Or [a] pos) ta := pw_or1 ha
theorem iw_and (ha : IT X cl Wx a ta) (hb : IW X cl Wx (.BoolOp .And (b :: rest) pos) tb) : IW X cl Wx (.BoolOp .And (a :: b :: rest) pos) (mAnd ta tb) :=
  pw_weak (pw_and ha hb) fun σ H Q ⟨env, ρ, G, st, rel, er, p⟩ => ⟨env, ρ, G, st, rel, er, p.bind fun x st1 ρ1 G1 H1 u f1 r1 s1 p1 => by
    subst s1
    cases x with
    | true => exact ⟨env, ρ1, G1, st1, r1, er.mono f1, p1⟩
    | false => exact p1.give r1 rfl⟩
theorem iw_or (ha : IT X cl Wx a ta) (hb : IW X cl Wx (.BoolOp .Or (b :: rest) pos) tb) : IW X cl Wx (.BoolOp .Or (a :: b :: rest) pos) (mOr ta tb) :=
  pw_weak (pw_or ha hb) fun σ H Q ⟨env, ρ, G, st, rel, er, p⟩ => ⟨env, ρ, G, st, rel, er, p.bind fun x st1 ρ1 G1 H1 u f1 r1 s1 p1 => by
    subst s1
    cases x with
    | true => exact p1.give r1 rfl
    | false => exact ⟨env, ρ1, G1, st1, r1, er.mono f1, p1⟩⟩
theorem it_not (ha : IT X cl Wx a ta) : IT X cl Wx (.UnaryOp .Not a pos) (mNot ta) :=
  pt_weak (pt_not ha) fun σ H Q ⟨env, ρ, G, st, rel, er, p⟩ => ⟨env, ρ, G, st, rel, er, p.bind fun x st1 ρ1 G1 H1 u f1 r1 s1 p1 => by
    subst s1; exact p1.give r1 rfl⟩
theorem ie_one {op} (h : IE X cl Wx a ma) : IE X cl Wx (.BoolOp op [a] pos) ma := pe_one h
theorem ie_and (ha : IE X cl Wx a ma) (hb : IE X cl Wx (.BoolOp .And (b :: rest) pos) mb) : IE X cl Wx (.BoolOp .And (a :: b :: rest) pos) (mAndV ma mb) :=
  pe_weak (pe_and ha hb) fun σ H Q ⟨env, ρ, G, st, rel, er, p⟩ => ⟨env, ρ, G, st, rel, er, p.bind fun x st1 ρ1 G1 H1 u f1 r1 s1 p1 => by
    obtain ⟨k, h1, h2⟩ := PostR.tru p1 s1
    refine ⟨k, h1, ?_⟩
    cases k with
    | true => exact ⟨env, ρ1, G1, st1, r1, er.mono f1, h2⟩
    | false => exact PostR.give h2 r1 (by unfold SlR Rep; rfl)⟩
theorem ie_or (ha : IE X cl Wx a ma) (hb : IE X cl Wx (.BoolOp .Or (b :: rest) pos) mb) : IE X cl Wx (.BoolOp .Or (a :: b :: rest) pos) (mOrV ma mb) :=
  pe_weak (pe_or ha hb) fun σ H Q ⟨env, ρ, G, st, rel, er, p⟩ => ⟨env, ρ, G, st, rel, er, p.bind fun x st1 ρ1 G1 H1 u f1 r1 s1 p1 => by
    obtain ⟨k, h1, h2⟩ := PostR.tru p1 s1
    refine ⟨k, h1, ?_⟩
    cases k with
    | true => exact PostR.give h2 r1 (by unfold SlR Rep; rfl)
    | false => exact ⟨env, ρ1, G1, st1, r1, er.mono f1, h2⟩⟩
theorem ie_not (ha : IE X cl Wx a ma) : IE X cl Wx (.UnaryOp .Not a pos) (mNotV ma) :=
  pe_weak (pe_not ha) fun σ H Q ⟨env, ρ, G, st, rel, er, p⟩ => ⟨env, ρ, G, st, rel, er, p.bind fun x st1 ρ1 G1 H1 u f1 r1 s1 p1 => by
    obtain ⟨k, h1, h2⟩ := PostR.tru p1 s1
    exact ⟨k, h1, PostR.give h2 r1 (by unfold SlR Rep; rfl)⟩⟩
theorem ie_if (hc : IT X cl Wx c ta) (ha : IE X cl Wx a ma) (hb : IE X cl Wx b mb) : IE X cl Wx (.IfExp c a b pos) (mIf ta ma mb) :=
  pe_weak (pe_ifExp hc ha hb) fun σ H Q ⟨env, ρ, G, st, rel, er, p⟩ => ⟨env, ρ, G, st, rel, er, p.bind fun x st1 ρ1 G1 H1 u f1 r1 s1 p1 => by
    subst s1
    cases x with
    | true => exact ⟨env, ρ1, G1, st1, r1, er.mono f1, p1⟩
    | false => exact ⟨env, ρ1, G1, st1, r1, er.mono f1, p1⟩⟩
/-! arguments, displays -/
theorem ia_nil : IA X cl Wx [] mNil := pa_weak pa_nil fun σ H Q ⟨env, ρ, G, st, rel, er, p⟩ => p.give rel (by rfl)
theorem ia_cons {ra : MA} (ha : IE X cl Wx a ma) (hr : IA X cl Wx rest ra) (hs : starEach (a :: rest) X.env = (false, eval a X.env) :: starEach rest X.env := by rfl) : IA X cl Wx (a :: rest) (mCons ma ra) :=
  pa_weak (pa_cons ha hr hs) fun σ H Q ⟨env, ρ, G, st, rel, er, p⟩ => ⟨env, ρ, G, st, rel, er, p.bind fun x st1 ρ1 G1 H1 u f1 r1 s1 p1 => ⟨env, ρ1, G1, st1, r1, er.mono f1, PostR.bind (R1 := SlRs ⟨X.K, cl⟩) p1 fun xs st2 ρ2 G2 H2 us f2 r2 s2 p2 =>
    p2.give r2 ⟨u, us, rfl, s1.mono f2, s2⟩⟩⟩
theorem ie_tup {es : List Expr} {x1} {ra : MA} (h : IA X cl Wx es ra) : IE X cl Wx (.Tuple es x1 pos) (mTup ra) :=
  pe_weak (pe_tup h) fun σ H Q ⟨env, ρ, G, st, rel, er, p⟩ => ⟨env, ρ, G, st, rel, er, PostR.bind (R1 := SlRs ⟨X.K, cl⟩) p fun xs st1 ρ1 G1 H1 us f1 r1 s1 p1 => by
    split at p1
    · rename_i ws e
      split at p1
      · rename_i hb
        have hr := vals_reps e s1
        refine ⟨by rw [big_line, ← hr.length]; exact hb, fun q hq => ?_⟩
        obtain ⟨f2, r2⟩ := r1.newG (o := .tup us) hq
        exact p1 _ _ _ _ f2 r2 (by unfold SlR Rep; exact ⟨q, us, rfl, SqT.of upd_same, Reps.mono f2.ex _ _ hr⟩)
      · exact p1.elim
    · exact p1.elim⟩
theorem ie_lst {es : List Expr} {ra : MA} (h : IA X cl Wx es ra) : IE X cl Wx (.List es pos) (mLst ra) :=
  pe_weak (pe_lst h) fun σ H Q ⟨env, ρ, G, st, rel, er, p⟩ => ⟨env, ρ, G, st, rel, er, PostR.bind (R1 := SlRs ⟨X.K, cl⟩) p fun xs st1 ρ1 G1 H1 us f1 r1 s1 p1 => by
    split at p1
    · rename_i ws e
      split at p1
      · rename_i hb
        have hr := vals_reps e s1
        refine ⟨by rw [big_line, ← hr.length]; exact hb, fun q hq => ?_⟩
        obtain ⟨f2, r2⟩ := r1.newG (o := .lst us) hq
        exact p1 _ _ _ _ f2 r2 (by unfold SlR Rep; exact ⟨q, us, rfl, upd_same, Reps.mono f2.ex _ _ hr⟩)
      · exact p1.elim
    · exact p1.elim⟩
theorem ie_lstM {es : List Expr} {ra : MA} (h : IA X cl Wx es ra) : IE X cl Wx (.List es pos) (mLstM ra) :=
  pe_weak (pe_lst h) fun σ H Q ⟨env, ρ, G, st, rel, er, p⟩ => ⟨env, ρ, G, st, rel, er, PostR.bind (R1 := SlRs ⟨X.K, cl⟩) p fun xs st1 ρ1 G1 H1 us f1 r1 s1 p1 => by
    split at p1
    · rename_i ws e
      split at p1
      · rename_i hb
        have hr := vals_reps e s1
        refine ⟨by rw [big_line, ← hr.length]; exact hb, fun q hq => ?_⟩
        obtain ⟨f2, r2⟩ := r1.newL (o := .lst us) (x := .lst ws) hq ⟨us, rfl, hr⟩
        exact p1 _ _ _ _ f2 r2 ⟨q, by show (ρ1.l ++ [q])[st1.l.length]? = some q; rw [← r1.ll]; simp, rfl⟩
      · exact p1.elim
    · exact p1.elim⟩
/-! calls -/
def spM (T : Tx) (n : Nat) (F : MF) : Sp := fun vs H Q E => ∃ ρ G st args, Rel T ρ G H st ∧ SlRs T ρ G args vs ∧ args.length = n ∧ PostR T ρ G (SlR T) (F args st) Q E
/-- how many arguments a function takes -/
def Ar (F : MF) (n : Nat) : Prop := ∀ args st, args.length ≠ n → F args st = .bad
theorem ie_call {F : MF} {k n : Nat} {f : Addr} {fd : FuncData} {ps : List Str} {x : Str} {p pos : Pos} {e : Expr} {es : List Expr} {ra : MA} (hF : FnOk X.prog X.w X.K X.mg X.base (L2.CX X.prog X.w) k f fd ps (spM ⟨X.K, cl⟩ n F)) (hn : Ar F n) (tk : Takes X Wx) (hr : Room k X.A) (hg : Gl X x) (hm : X.mg x = some (.ref f)) (hk : PySem.W.keepIn X.K (.ref f) = true) (hb : Binds X.K fd ps [])
    (ha : IA X cl Wx (e :: es) ra) (hdb : (x == ("__debug__" : Str)) = false := by decide) (he : starEach (e :: es) X.env = (false, eval e X.env) :: starEach es X.env := by rfl) (hpl : (backTo pos (starEach es X.env)).any (·.1) = false := by rfl) :
    IE X cl Wx (.Call (.Name x p) (e :: es) [] pos) (mCall F ra) :=
  pe_weak (pe_callS hF hr hg hm hk hb (fun σ => passAt tk σ) ha hdb he hpl) fun σ H Q ⟨env, ρ, G, st, rel, er, p⟩ => ⟨env, ρ, G, st, rel, er, PostR.bind (R1 := SlRs ⟨X.K, cl⟩) p fun xs st1 ρ1 G1 H1 us f1 r1 s1 p1 => by
    refine ⟨ρ1, G1, st1, xs, r1, s1, ?_, p1⟩
    by_cases h : xs.length = n
    · exact h
    · rw [hn xs st1 h] at p1; exact p1.elim⟩
theorem ie_callB {id : String} {r : List V → Hp → VK → Prop} {F : MF} {x : Str} {p pos : Pos} {e : Expr} {es : List Expr} {ra : MA} (hc : CallR X (.builtin id) r) (hs : CaS ⟨X.K, cl⟩ r F) (hg : Gl X x) (hm : X.mg x = none) (hv : bootBuiltins x = some (.builtin id)) (ha : IA X cl Wx (e :: es) ra) (hn : x ≠ "__name__" := by decide) (hdb : (x == ("__debug__" : Str)) = false := by decide)
    (he : starEach (e :: es) X.env = (false, eval e X.env) :: starEach es X.env := by rfl) (hpl : (backTo pos (starEach es X.env)).any (·.1) = false := by rfl) : IE X cl Wx (.Call (.Name x p) (e :: es) [] pos) (mCall F ra) :=
  pe_weak (pe_callB hc hg hm hv ha hn hdb he hpl) fun σ H Q ⟨env, ρ, G, st, rel, er, p⟩ => ⟨env, ρ, G, st, rel, er, PostR.bind (R1 := SlRs ⟨X.K, cl⟩) p fun xs st1 ρ1 G1 H1 us f1 r1 s1 p1 => hs ρ1 G1 H1 st1 xs us Q _ r1 s1 p1⟩
theorem ie_callTy {id : String} {r : List V → Hp → VK → Prop} {F : MF} {x : Str} {p pos : Pos} {e : Expr} {es : List Expr} {ra : MA} (hc : CallR X (.type id) r) (hs : CaS ⟨X.K, cl⟩ r F) (hg : Gl X x) (hm : X.mg x = none) (hv : bootBuiltins x = some (.type id)) (ha : IA X cl Wx (e :: es) ra) (hn : x ≠ "__name__" := by decide) (hdb : (x == ("__debug__" : Str)) = false := by decide)
    (he : starEach (e :: es) X.env = (false, eval e X.env) :: starEach es X.env := by rfl) (hpl : (backTo pos (starEach es X.env)).any (·.1) = false := by rfl) : IE X cl Wx (.Call (.Name x p) (e :: es) [] pos) (mCall F ra) :=
  pe_weak (pe_callTy hc hg hm hv ha hn hdb he hpl) fun σ H Q ⟨env, ρ, G, st, rel, er, p⟩ => ⟨env, ρ, G, st, rel, er, PostR.bind (R1 := SlRs ⟨X.K, cl⟩) p fun xs st1 ρ1 G1 H1 us f1 r1 s1 p1 => hs ρ1 G1 H1 st1 xs us Q _ r1 s1 p1⟩
end
end Mz

set_option Elab.async false
set_option linter.all false
set_option maxRecDepth 100000
set_option maxHeartbeats 4000000
namespace Mz
open PySem PySem.Spec PyProof.Rows L2

/-! ## 6. targets and statements -/
inductive Pat where
  | nm (i : Nat) | tp (ps : List Pat)
mutual
def bindP : Pat → W → Env → Option Env
  | .nm i, w, env => some (env.set i (some (.v w)))
  | .tp ps, .tup ws, env => bindPs ps ws env
  | .tp _, _, _ => none
def bindPs : List Pat → List W → Env → Option Env
  | [], [], env => some env
  | p :: ps, w :: ws, env => match bindP p w env with
    | some env1 => bindPs ps ws env1
    | none => none
  | _, _, _ => none
end
mutual
def Pat.slots : Pat → List Nat
  | .nm i => [i]
  | .tp ps => Pat.slotss ps
def Pat.slotss : List Pat → List Nat
  | [] => []
  | p :: ps => Pat.slots p ++ Pat.slotss ps
end
theorem wipe_at (σ : L2.St) : ∀ (vs : List Nat) (i : Nat), (wipe σ vs)[i]? = if i ∈ vs ∧ i < σ.length then some none else σ[i]?
  | [], i => by simp [wipe]
  | v :: vs, i => by
    unfold wipe
    by_cases h : v = i
    · subst h
      by_cases hl : v < σ.length
      · rw [List.getElem?_set_self (by rw [wipe_length]; exact hl), if_pos ⟨List.mem_cons_self, hl⟩]
      · rw [List.getElem?_eq_none (by rw [List.length_set, wipe_length]; omega), if_neg (fun z => hl z.2), List.getElem?_eq_none (by omega)]
    · rw [List.getElem?_set_ne h, wipe_at σ vs i]
      have e : (i ∈ v :: vs) ↔ (i ∈ vs) := by
        rw [List.mem_cons]
        exact ⟨fun z => z.elim (fun z => absurd z.symm h) id, Or.inr⟩
      simp only [e]
theorem wipe_eq {σ τ : L2.St} {vs : List Nat} (hl : σ.length = τ.length) (h : ∀ i, i ∉ vs → σ[i]? = τ[i]?) : wipe σ vs = wipe τ vs := by
  apply List.ext_getElem?
  intro i
  rw [wipe_at, wipe_at, hl]
  by_cases hv : i ∈ vs
  · by_cases hi : i < τ.length
    · rw [if_pos ⟨hv, hi⟩, if_pos ⟨hv, hi⟩]
    · rw [if_neg (fun z => hi z.2), if_neg (fun z => hi z.2), List.getElem?_eq_none (by omega), List.getElem?_eq_none (by omega)]
  · rw [if_neg (fun z => hv z.1), if_neg (fun z => hv z.1)]
    exact h i hv
/-- σ' differs from σ in the places vs alone -/
def Only (vs : List Nat) (σ σ' : L2.St) : Prop := σ'.length = σ.length ∧ ∀ i, i ∉ vs → σ'[i]? = σ[i]?
theorem Only.refl (vs : List Nat) (σ : L2.St) : Only vs σ σ := ⟨rfl, fun _ _ => rfl⟩
theorem Only.trans {v1 v2 : List Nat} {σ σ1 σ2 : L2.St} (a : Only v1 σ σ1) (b : Only v2 σ1 σ2) : Only (v1 ++ v2) σ σ2 := ⟨b.1.trans a.1, fun i hi => (b.2 i (fun z => hi (List.mem_append_right _ z))).trans (a.2 i (fun z => hi (List.mem_append_left _ z)))⟩
theorem Only.wipe {v vs : List Nat} {σ σ' : L2.St} (h : Only v σ σ') (hs : ∀ i ∈ v, i ∈ vs) : wipe σ' vs = wipe σ vs := wipe_eq h.1 fun i hi => h.2 i fun z => hi (hs i z)
def GoS (T : Tx) (g : TG) (p : Pat) : Prop := ∀ ρ G H st w u env env' σ Q, Rel T ρ G H st → Rep T G w u → EnvR T ρ G env σ → bindP p w env = some env' → (∀ σ', EnvR T ρ G env' σ' → Only p.slots σ σ' → Q σ' H) → g u σ H Q
def GosS (T : Tx) (g : TGs) (ps : List Pat) : Prop := ∀ ρ G H st ws us env env' σ Q, Rel T ρ G H st → Reps T G ws us → EnvR T ρ G env σ → bindPs ps ws env = some env' → (∀ σ', EnvR T ρ G env' σ' → Only (Pat.slotss ps) σ σ' → Q σ' H) → g us σ H Q
theorem go_nm {T : Tx} {i : Nat} : GoS T (gName i) (.nm i) := fun ρ G H st w u env env' σ Q r hw er hb k => by
  unfold bindP at hb; cases hb
  exact k _ (er.set i (show SlR T ρ G (.v w) u from hw)) ⟨List.length_set, fun j hj => List.getElem?_set_ne (fun z => hj (by rw [z]; unfold Pat.slots; simp))⟩
theorem gos_nil {T : Tx} : GosS T gNil [] := fun ρ G H st ws us env env' σ Q r hw er hb k => by
  cases ws with
  | nil => unfold bindPs at hb; cases hb; unfold Reps at hw; exact ⟨hw, k σ er (Only.refl _ _)⟩
  | cons w ws => unfold bindPs at hb; cases hb
theorem gos_cons {T : Tx} {g : TG} {gs : TGs} {p : Pat} {ps : List Pat} (h : GoS T g p) (hs : GosS T gs ps) : GosS T (gCons g gs) (p :: ps) := fun ρ G H st ws us env env' σ Q r hw er hb k => by
  cases ws with
  | nil => unfold bindPs at hb; cases hb
  | cons w ws =>
    unfold bindPs at hb
    split at hb
    · rename_i env1 e1
      unfold Reps at hw
      obtain ⟨v, q, rfl, h1, h2⟩ := hw
      exact ⟨v, q, rfl, h ρ G H st w v env env1 σ _ r h1 er e1 fun σ1 er1 o1 => hs ρ G H st ws q env1 env' σ1 Q r h2 er1 hb fun σ2 er2 o2 => k σ2 er2 (by unfold Pat.slotss; exact o1.trans o2)⟩
    · cases hb
theorem bindPs_len : ∀ {ps : List Pat} {ws : List W} {env env' : Env}, bindPs ps ws env = some env' → ws.length = ps.length
  | [], [], _, _, _ => rfl
  | [], _ :: _, _, _, h => by unfold bindPs at h; cases h
  | _ :: _, [], _, _, h => by unfold bindPs at h; cases h
  | p :: ps, w :: ws, env, env', h => by
    unfold bindPs at h
    split at h
    · rw [List.length_cons, List.length_cons, bindPs_len h]
    · cases h
theorem go_tp {T : Tx} {g : TGs} {ps : List Pat} {n : Nat} (hn : n = ps.length) (h : GosS T g ps) : GoS T (gTup T.K n g) (.tp ps) := fun ρ G H st w u env env' σ Q r hw er hb k => by
  cases w with
  | tup ws =>
    unfold bindP at hb
    unfold Rep at hw
    obtain ⟨a, vs, h1, h2, h3⟩ := hw
    refine ⟨a, vs, h1, sqt_mono r.ext h2, ?_, h ρ G H st ws vs env env' σ Q r h3 er hb fun σ' e' o' => k σ' e' (by unfold Pat.slots; exact o')⟩
    rw [hn, ← h3.length, bindPs_len hb]
  | _ => unfold bindP at hb; cases hb

def mSeq (a b : MS) : MS := fun env st => match a env st with
  | .nx env1 st1 => b env1 st1
  | r => r
def mPass : MS := fun env st => .nx env st
def mBrk : MS := fun env st => .bk env st
def mCont : MS := fun env st => .ct env st
def ofR {α : Type} (env : Env) (r : Res α) (k : α → Store → SR) : SR := match r with
  | .ok a st => k a st
  | .ex c ns ws st => .ex c ns ws env st
  | .bad => .bad
def mAsg (i : Nat) (a : ME) : MS := fun env st => ofR env (a env st) fun x st1 => .nx (env.set i (some x)) st1
def mAsgP (p : Pat) (a : ME) : MS := fun env st => ofR env (a env st) fun x st1 => match x with
  | .v w => match bindP p w env with
    | some env1 => .nx env1 st1
    | none => .bad
  | _ => .bad
def mDrop (a : ME) : MS := fun env st => ofR env (a env st) fun _ st1 => .nx env st1
def mRet (a : ME) : MS := fun env st => ofR env (a env st) fun x st1 => .rt x st1
def mRetN : MS := fun _ st => .rt (.v .non) st
def mIfS (t : MT) (a b : MS) : MS := fun env st => ofR env (t env st) fun c st1 => if c = true then a env st1 else b env st1

section
variable {T : Tx} {ρ ρ' : Mp} {G G' H : Hp} {st : Store}
theorem PostS.ofR {α β : Type} {R : Mp → Hp → α → β → Prop} {r : Res α} {k : α → Store → SR} {env : Env} {σ : L2.St} {D : Ends} {Wx : WX} {Q' : β → Hp → Prop} (er : EnvR T ρ G env σ) (h : PostS T ρ G (Mz.ofR env r k) D Wx)
    (hk : ∀ a st' ρ' G' H' u, Fr ρ ρ' G G' → Rel T ρ' G' H' st' → R ρ' G' a u → PostS T ρ' G' (k a st') D Wx → Q' u H') : PostR T ρ G R r Q' fun c d H' => Wx c d σ H' := by
  cases r with
  | ok a st => exact fun ρ1 G1 H1 u f1 rel r1 => hk a st ρ1 G1 H1 u f1 rel r1 (PostS.mono f1 h)
  | ex c ns ws st => exact fun ρ1 G1 H1 d f1 rel hx => h ρ1 G1 H1 σ d f1 rel (er.mono f1) hx
  | bad => exact h
theorem PostS.nx {env : Env} {σ : L2.St} {D : Ends} {Wx : WX} (h : PostS T ρ G (.nx env st) D Wx) (r : Rel T ρ G H st) (er : EnvR T ρ G env σ) : D.nx σ H := h ρ G H σ (Fr.refl ρ G) r er
theorem PostS.seq {a : SR} {b : MS} {D : Ends} {Wx : WX} {P : L2.St → Hp → Prop} (h : PostS T ρ G (match a with | .nx env1 st1 => b env1 st1 | r => r) D Wx)
    (hk : ∀ env1 st1 ρ' G' H' σ', Fr ρ ρ' G G' → Rel T ρ' G' H' st1 → EnvR T ρ' G' env1 σ' → PostS T ρ' G' (b env1 st1) D Wx → P σ' H') : PostS T ρ G a { D with nx := P } Wx := by
  cases a with
  | nx env1 st1 => exact fun ρ1 G1 H1 σ1 f1 r1 e1 => hk env1 st1 ρ1 G1 H1 σ1 f1 r1 e1 (PostS.mono f1 h)
  | rt s st1 => exact h
  | bk env1 st1 => exact h
  | ct env1 st1 => exact h
  | ex c ns ws env1 st1 => exact h
  | bad => exact h
end
section
variable {X : Cx} {cl : Nat → Addr} {Wx : WX} {s : Stmt} {ss : List Stmt} {ms mss : MS} {e c : Expr} {me : ME} {mt : MT} {pos : Pos}
theorem is_nil : ISs X cl Wx [] mPass := pss_weak pss_nil fun D σ H ⟨env, ρ, G, st, r, er, p⟩ => PostS.nx p r er
theorem is_one (h : IS X cl Wx s ms) : ISs X cl Wx [s] ms := pss_one h
theorem is_cons (h : IS X cl Wx s ms) (hs : ISs X cl Wx ss mss) : ISs X cl Wx (s :: ss) (mSeq ms mss) :=
  pss_weak (pss_cons h hs) fun D σ H ⟨env, ρ, G, st, r, er, p⟩ => ⟨env, ρ, G, st, r, er, PostS.seq p fun env1 st1 ρ1 G1 H1 σ1 f1 r1 e1 p1 => ⟨env1, ρ1, G1, st1, r1, e1, p1⟩⟩
theorem is_pass : IS X cl Wx (.Pass pos) mPass := ps_weak ps_pass fun D σ H ⟨env, ρ, G, st, r, er, p⟩ => PostS.nx p r er
theorem is_brk : IS X cl Wx (.Break pos) mBrk := ps_weak ps_break fun D σ H ⟨env, ρ, G, st, r, er, p⟩ => p ρ G H σ (Fr.refl ρ G) r er
theorem is_cont : IS X cl Wx (.Continue pos) mCont := ps_weak ps_continue fun D σ H ⟨env, ρ, G, st, r, er, p⟩ => p ρ G H σ (Fr.refl ρ G) r er
theorem is_doc {x j pos pos'} : IS X cl Wx (.Expr (.Constant (.str x) j pos) pos') mPass := ps_weak ps_doc fun D σ H ⟨env, ρ, G, st, r, er, p⟩ => PostS.nx p r er
theorem is_asg (i : Nat) {x : Str} {pos' : Pos} (hN : X.N.Nodup) (he : IE X cl Wx e me) (hi : X.N[i]? = some x := by rfl) (hx : Loc X.env.scope x := by first | exact Or.inl rfl | exact Or.inr rfl) (hs : swapsWith e (some (.Name x pos')) pos.line X.env = pure false := by rfl)
    (hf : X.fn x = true ∨ X.env.scope.names.lookup x = some .local := by first | exact .inl rfl | exact .inr rfl | assumption) : IS X cl Wx (.Assign [.Name x pos'] e pos) (mAsg i me) :=
  ps_weak (ps_set hN hi hx he hs hf) fun D σ H ⟨env, ρ, G, st, r, er, p⟩ => ⟨env, ρ, G, st, r, er, PostS.ofR er p fun x st1 ρ1 G1 H1 u f1 r1 s1 p1 => PostS.nx p1 r1 ((er.mono f1).set i s1)⟩
theorem is_asgP {tg : Expr} {g : TG} {pt : Pat} (he : IE X cl Wx e me) (hg : PG X tg g) (hp : GoS ⟨X.K, cl⟩ g pt) (hs : swapsWithSole [tg] e pos.line X.env = pure false := by rfl) (hw : swappedStores [tg] e X.env = pure none := by rfl) (h1 : List.map (fun x => x.snd) (assignEach [tg] X.env) = [assign tg X.env] := by rfl) : IS X cl Wx (.Assign [tg] e pos) (mAsgP pt me) :=
  ps_weak (ps_asg he hg hs hw (h1 := h1)) fun D σ H ⟨env, ρ, G, st, r, er, p⟩ => ⟨env, ρ, G, st, r, er, PostS.ofR (R := SlR ⟨X.K, cl⟩) er p fun x st1 ρ1 G1 H1 u f1 r1 s1 p1 => by
    split at p1
    · split at p1
      · rename_i env1 e1
        exact hp ρ1 G1 H1 st1 _ u env env1 σ _ r1 s1 (er.mono f1) e1 fun σ' er' _ => PostS.nx p1 r1 er'
      · exact p1.elim
    · exact p1.elim⟩
theorem is_expr (he : IE X cl Wx e me) (hs : swapsWith e none pos.line X.env = pure false := by rfl) : IS X cl Wx (.Expr e pos) (mDrop me) :=
  ps_weak (ps_expr he hs) fun D σ H ⟨env, ρ, G, st, r, er, p⟩ => ⟨env, ρ, G, st, r, er, PostS.ofR (R := SlR ⟨X.K, cl⟩) er p fun x st1 ρ1 G1 H1 u f1 r1 s1 p1 => PostS.nx p1 r1 (er.mono f1)⟩
theorem is_ret (he : IE X cl Wx e me) : IS X cl Wx (.Return (some e) pos) (mRet me) :=
  ps_weak (ps_ret he) fun D σ H ⟨env, ρ, G, st, r, er, p⟩ => ⟨env, ρ, G, st, r, er, PostS.ofR (R := SlR ⟨X.K, cl⟩) er p fun x st1 ρ1 G1 H1 u f1 r1 s1 p1 => p1 ρ1 G1 H1 u (Fr.refl _ _) r1 s1⟩
theorem is_retN : IS X cl Wx (.Return none pos) mRetN := ps_weak ps_retN fun D σ H ⟨env, ρ, G, st, r, er, p⟩ => p ρ G H _ (Fr.refl _ _) r (by unfold SlR Rep; rfl)
theorem is_if {a b : List Stmt} {ma mb : MS} (hc : IT X cl Wx c mt) (ha : ISs X cl Wx a ma) (hb : ISs X cl Wx b mb) : IS X cl Wx (.If c a b pos) (mIfS mt ma mb) :=
  ps_weak (ps_if hc ha hb) fun D σ H ⟨env, ρ, G, st, r, er, p⟩ => ⟨env, ρ, G, st, r, er, PostS.ofR (R := fun _ _ a b => a = b) er p fun x st1 ρ1 G1 H1 u f1 r1 s1 p1 => by
    subst s1
    cases x with
    | true => exact ⟨env, ρ1, G1, st1, r1, er.mono f1, p1⟩
    | false => exact ⟨env, ρ1, G1, st1, r1, er.mono f1, p1⟩⟩
end

/-! ## 7. what is walked, for, while, comprehensions -/
structure Src where
  xs : List W
  gd : Store → Prop
structure ItS (T : Tx) (ρ : Mp) (G : Hp) (s : Src) (J : It) : Prop where
  stop : ∀ i H st ρ' G', Fr ρ ρ' G G' → Rel T ρ' G' H st → s.gd st → s.xs.length ≤ i → J.stop i H
  go : ∀ i w H st ρ' G', Fr ρ ρ' G G' → Rel T ρ' G' H st → s.gd st → s.xs[i]? = some w → J.go i H ∧ ∀ x H', J.yld i H x H' → ∃ G'', Fr ρ' ρ' G' G'' ∧ Rel T ρ' G'' H' st ∧ Rep T G'' w x
theorem ItS.mono {T : Tx} {ρ ρ' : Mp} {G G' : Hp} {s : Src} {J : It} (f : Fr ρ ρ' G G') (h : ItS T ρ G s J) : ItS T ρ' G' s J :=
  ⟨fun i H st ρ1 G1 f1 => h.stop i H st ρ1 G1 (f.trans f1), fun i w H st ρ1 G1 f1 => h.go i w H st ρ1 G1 (f.trans f1)⟩
abbrev MI := Env → Store → Res Src
def tI (T : Tx) (Wx : WX) (m : MI) : TI := fun σ H R => ∃ env ρ G st, Rel T ρ G H st ∧ EnvR T ρ G env σ ∧ PostR T ρ G (ItS T) (m env st) R fun c d H' => Wx c d σ H'
abbrev II (X : Cx) (cl : Nat → Addr) (Wx : WX) (tg iter : Expr) (m : MI) : Prop := PI X tg iter (tI ⟨X.K, cl⟩ Wx m)
theorem pi_weak {X : Cx} {tg e : Expr} {t t' : TI} (h : PI X tg e t) (k : ∀ σ H Q, t' σ H Q → t σ H Q) : PI X tg e t' := ⟨fun pins s σ H Q I q => h.run pins s σ H Q I (k σ H Q q)⟩
def stands (s : Sl) (xs : List W) (st : Store) : Prop := match s with
  | .l n => st.lget n = some xs
  | _ => True
/-- a list -/
def mIt (a : ME) : MI := fun env st => (a env st).bind fun x st1 => match litems st1 x with
  | some xs => .ok ⟨xs, stands x xs⟩ st1
  | none => .bad
/-- a tuple -/
def mItT (a : ME) : MI := fun env st => (a env st).bind fun x st1 => match x with
  | .v (.tup xs) => .ok ⟨xs, fun _ => True⟩ st1
  | _ => .bad
def rangeW (lo : Int) (n : Nat) : List W := (List.range n).map fun i => .int (lo + (i : Nat))
def mItR1 (a : MA) : MI := fun env st => (a env st).bind fun xs st1 => match xs with
  | [.v (.int n)] => if -(2 ^ 62) ≤ n ∧ n < 2 ^ 62 then .ok ⟨rangeW 0 n.toNat, fun _ => True⟩ st1 else .bad
  | _ => .bad
def mItR2 (a : MA) : MI := fun env st => (a env st).bind fun xs st1 => match xs with
  | [.v (.int i), .v (.int j)] => if -(2 ^ 62) ≤ i ∧ i < 2 ^ 62 ∧ -(2 ^ 62) ≤ j ∧ j < 2 ^ 62 then .ok ⟨rangeW i (j - i).toNat, fun _ => True⟩ st1 else .bad
  | _ => .bad
theorem litems_stand {st st' : Store} {x : Sl} {xs : List W} (h : litems st x = some xs) (hs : stands x xs st') : litems st' x = some xs := by
  cases x with
  | v w => cases w <;> exact h
  | l n => exact hs
  | o n => cases h
theorem its_list {T : Tx} {ρ : Mp} {G H : Hp} {st : Store} {x : Sl} {u : V} {xs : List W} {a : Addr} (hx : SlR T ρ G x (.ref a)) (h : litems st x = some xs) : ItS T ρ G ⟨xs, stands x xs⟩ (Itl T.K a) := by
  refine ⟨fun i H st' ρ' G' f r g hi => ?_, fun i w H st' ρ' G' f r g hw => ?_⟩
  · obtain ⟨b, vs, e, hq, hr⟩ := litems_at r (hx.mono f) (litems_stand h g)
    cases e
    exact ⟨vs, hq, by rw [← hr.length]; exact hi⟩
  · obtain ⟨b, vs, e, hq, hr⟩ := litems_at r (hx.mono f) (litems_stand h g)
    cases e
    obtain ⟨v, hv, rv⟩ := Reps.get' hr hw
    refine ⟨⟨vs, v, hq, hv⟩, fun y H' hy => ?_⟩
    obtain ⟨rfl, hy⟩ := hy
    have e := hy vs hq
    rw [hv] at e
    cases e
    exact ⟨G', Fr.refl _ _, r, rv⟩
theorem its_tup {T : Tx} {ρ : Mp} {G : Hp} {xs : List W} {a : Addr} {vs : List V} (hq : SqT T.K G a vs) (hr : Reps T G xs vs) : ItS T ρ G ⟨xs, fun _ => True⟩ (Itt T.K a) := by
  refine ⟨fun i H st' ρ' G' f r g hi => ?_, fun i w H st' ρ' G' f r g hw => ?_⟩
  · exact ⟨vs, sqt_mono r.ext (sqt_mono f.ex hq), by rw [← hr.length]; exact hi⟩
  · obtain ⟨v, hv, rv⟩ := Reps.get' hr hw
    have hq' := sqt_mono r.ext (sqt_mono f.ex hq)
    refine ⟨⟨vs, v, hq', hv⟩, fun y H' hy => ?_⟩
    obtain ⟨rfl, hy⟩ := hy
    have e := hy vs hq'
    rw [hv] at e
    cases e
    exact ⟨G', Fr.refl _ _, r, Rep.mono f.ex _ _ rv⟩
theorem its_range {T : Tx} {ρ : Mp} {G : Hp} {lo : Int} {n : Nat} : ItS T ρ G ⟨rangeW lo n, fun _ => True⟩ (Itr lo n) := by
  refine ⟨fun i H st' ρ' G' f r g hi => ?_, fun i w H st' ρ' G' f r g hw => ?_⟩
  · unfold rangeW at hi; simp at hi; exact hi
  · have hw' : (rangeW lo n)[i]? = some w := hw
    have hl := get_lt hw'
    unfold rangeW at hw' hl
    simp at hl
    rw [List.getElem?_map, List.getElem?_range hl] at hw'
    cases hw'
    refine ⟨hl, fun y H' hy => ?_⟩
    obtain ⟨rfl, rfl⟩ := hy
    exact ⟨G', Fr.refl _ _, r, by unfold Rep; rfl⟩
section
variable {X : Cx} {cl : Nat → Addr} {Wx : WX} {tg e : Expr} {me : ME} {ma : MA} {pos : Pos}
theorem ii_list (h : IE X cl Wx e me) : II X cl Wx tg e (mIt me) :=
  pi_weak (pi_list h) fun σ H Q ⟨env, ρ, G, st, rel, er, p⟩ => ⟨env, ρ, G, st, rel, er, PostR.bind (R1 := SlR ⟨X.K, cl⟩) p fun x st1 ρ1 G1 H1 u f1 r1 s1 p1 => by
    split at p1
    · rename_i xs hx
      obtain ⟨a, vs, rfl, hq, hr⟩ := litems_at r1 s1 hx
      exact ⟨a, rfl, ⟨vs, hq⟩, p1.give r1 (its_list (H := H) (u := .ref a) s1 hx)⟩
    · exact p1.elim⟩
theorem ii_tup (h : IE X cl Wx e me) : II X cl Wx tg e (mItT me) :=
  pi_weak (pi_tup h) fun σ H Q ⟨env, ρ, G, st, rel, er, p⟩ => ⟨env, ρ, G, st, rel, er, PostR.bind (R1 := SlR ⟨X.K, cl⟩) p fun x st1 ρ1 G1 H1 u f1 r1 s1 p1 => by
    split at p1
    · rename_i xs
      unfold SlR Rep at s1
      obtain ⟨a, vs, rfl, hq, hr⟩ := s1
      exact ⟨a, rfl, ⟨vs, sqt_mono r1.ext hq⟩, p1.give r1 (its_tup hq hr)⟩
    · exact p1.elim⟩
theorem slrs1 {T : Tx} {ρ : Mp} {G : Hp} {x : Sl} {us : List V} (h : SlRs T ρ G [x] us) : ∃ u, us = [u] ∧ SlR T ρ G x u := by
  obtain ⟨v, r, rfl, h1, rfl⟩ := h; exact ⟨v, rfl, h1⟩
theorem slrs2 {T : Tx} {ρ : Mp} {G : Hp} {x y : Sl} {us : List V} (h : SlRs T ρ G [x, y] us) : ∃ u v, us = [u, v] ∧ SlR T ρ G x u ∧ SlR T ρ G y v := by
  obtain ⟨v, r, rfl, h1, h2⟩ := h; obtain ⟨w, rfl, h3⟩ := slrs1 h2; exact ⟨v, w, rfl, h1, h3⟩
theorem ii_range1 {a : Expr} {p pos : Pos} (hg : Gl X "range") (hm : X.mg "range" = none) (ha : IA X cl Wx [a] ma) (hs : starEach [a] X.env = [(false, eval a X.env)] := by rfl) : II X cl Wx tg (.Call (.Name "range" p) [a] [] pos) (mItR1 ma) :=
  pi_weak (pi_range1 hg hm ha hs) fun σ H Q ⟨env, ρ, G, st, rel, er, p⟩ => ⟨env, ρ, G, st, rel, er, PostR.bind (R1 := SlRs ⟨X.K, cl⟩) p fun xs st1 ρ1 G1 H1 us f1 r1 s1 p1 => by
    split at p1
    · split at p1
      · rename_i n hb
        obtain ⟨u, rfl, h1⟩ := slrs1 s1
        unfold SlR Rep at h1
        subst h1
        exact ⟨n, rfl, hb.1, hb.2, p1.give r1 its_range⟩
      · exact p1.elim
    · exact p1.elim⟩
theorem ii_range2 {a b : Expr} {p pos : Pos} (hg : Gl X "range") (hm : X.mg "range" = none) (ha : IA X cl Wx [a, b] ma) (hs : starEach [a, b] X.env = [(false, eval a X.env), (false, eval b X.env)] := by rfl) (hs2 : starEach [b] X.env = [(false, eval b X.env)] := by rfl) : II X cl Wx tg (.Call (.Name "range" p) [a, b] [] pos) (mItR2 ma) :=
  pi_weak (pi_range2 hg hm ha hs hs2) fun σ H Q ⟨env, ρ, G, st, rel, er, p⟩ => ⟨env, ρ, G, st, rel, er, PostR.bind (R1 := SlRs ⟨X.K, cl⟩) p fun xs st1 ρ1 G1 H1 us f1 r1 s1 p1 => by
    split at p1
    · split at p1
      · rename_i i j hb
        obtain ⟨u, v, rfl, h1, h2⟩ := slrs2 s1
        unfold SlR Rep at h1 h2
        subst h1 h2
        exact ⟨i, j, rfl, hb, p1.give r1 its_range⟩
      · exact p1.elim
    · exact p1.elim⟩
end

/-! ### for -/
open Classical in
noncomputable def loopL (gd : Store → Prop) (pt : Pat) (mb : MS) : List W → MS
  | [], env, st => if gd st then .nx env st else .bad
  | x :: xs, env, st => if gd st then (match bindP pt x env with
    | some env1 => match mb env1 st with
      | .nx env2 st2 => loopL gd pt mb xs env2 st2
      | .ct env2 st2 => loopL gd pt mb xs env2 st2
      | .bk env2 st2 => .nx env2 st2
      | r => r
    | none => .bad) else .bad
noncomputable def mFor (mi : MI) (pt : Pat) (mb : MS) : MS := fun env st => ofR env (mi env st) fun s st1 => loopL s.gd pt mb s.xs env st1
section
variable {T : Tx} {ρ ρ' : Mp} {G G' H : Hp} {st : Store}
theorem loop_gd {gd : Store → Prop} {pt : Pat} {mb : MS} {xs : List W} {env : Env} {D : Ends} {Wx : WX} (h : PostS T ρ G (loopL gd pt mb xs env st) D Wx) : gd st := by
  by_cases g : gd st
  · exact g
  · cases xs with
    | nil => unfold loopL at h; rw [if_neg g] at h; exact h.elim
    | cons x xs => unfold loopL at h; rw [if_neg g] at h; exact h.elim
theorem drop_at {α : Type} {xs : List α} {i : Nat} (h : i < xs.length) : xs.drop i = xs[i] :: xs.drop (i + 1) := List.drop_eq_getElem_cons h
end
section
variable {X : Cx} {cl : Nat → Addr} {Wx : WX} {tg iter : Expr} {body : List Stmt} {mi : MI} {mb : MS} {g : TG} {pt : Pat} {pos : Pos} {mt : MT} {c : Expr}
theorem is_for (hp : PassesOwn (model X.prog X.w) X.A X.env X.xe) (hc : X.calm = true) (hi : II X cl Wx tg iter mi) (hg : PG X tg g) (hgs : GoS ⟨X.K, cl⟩ g pt) (hb : ISs X cl Wx body mb) (hs : ∀ x, foldedSetIterable iter X.env x = pure x := by intro _; rfl) : IS X cl Wx (.For tg iter body [] pos) (mFor mi pt mb) :=
  ps_weak (ps_for hp hc hi hg hb hs) fun D σ H ⟨env, ρ, G, st, rel, er, p⟩ => ⟨env, ρ, G, st, rel, er, PostS.ofR (R := ItS ⟨X.K, cl⟩) er p fun s st1 ρ1 G1 H1 J f1 r1 its p1 => by
    refine ⟨fun i m σ' H' => ∃ env' ρ' G' st', m = s.xs.length - i ∧ i ≤ s.xs.length ∧ Fr ρ1 ρ' G1 G' ∧ Rel ⟨X.K, cl⟩ ρ' G' H' st' ∧ EnvR ⟨X.K, cl⟩ ρ' G' env' σ' ∧ PostS ⟨X.K, cl⟩ ρ' G' (loopL s.gd pt mb (s.xs.drop i) env' st') D Wx,
      ⟨s.xs.length, env, ρ1, G1, st1, by simp, Nat.zero_le _, Fr.refl _ _, r1, er.mono f1, p1⟩, ?_⟩
    rintro i m σ' H' ⟨env', ρ', G', st', rfl, hi, f, r, e, q⟩
    have g' := loop_gd q
    by_cases hlt : i < s.xs.length
    · obtain ⟨h1, h2⟩ := its.go i s.xs[i] H' st' ρ' G' f r g' (List.getElem?_eq_getElem hlt)
      refine .inr ⟨h1, fun σ2 H2 => ∃ env' ρ' G' st', Fr ρ1 ρ' G1 G' ∧ Rel ⟨X.K, cl⟩ ρ' G' H2 st' ∧ EnvR ⟨X.K, cl⟩ ρ' G' env' σ2 ∧ PostS ⟨X.K, cl⟩ ρ' G' (loopL s.gd pt mb (s.xs.drop (i + 1)) env' st') D Wx,
        fun σ2 H2 ⟨env2, ρ2, G2, st2, f2, r2, e2, q2⟩ => ⟨s.xs.length - (i + 1), by omega, env2, ρ2, G2, st2, rfl, hlt, f2, r2, e2, q2⟩, fun x H2 hy => ?_⟩
      obtain ⟨G2, f2, r2, hx⟩ := h2 x H2 hy
      rw [drop_at hlt] at q
      unfold loopL at q
      rw [if_pos g'] at q
      split at q
      · rename_i env1 e1
        refine hgs ρ' G2 H2 st' s.xs[i] x env' env1 σ' _ r2 hx (e.mono f2) e1 fun σ1 er1 _ => ⟨env1, ρ', G2, st', r2, er1, ?_⟩
        have q := PostS.mono f2 q
        revert q
        cases mb env1 st' with
        | nx env2 st2 => exact fun q ρ3 G3 H3 σ3 f3 r3 e3 => ⟨env2, ρ3, G3, st2, (f.trans f2).trans f3, r3, e3, PostS.mono f3 q⟩
        | ct env2 st2 => exact fun q ρ3 G3 H3 σ3 f3 r3 e3 => ⟨env2, ρ3, G3, st2, (f.trans f2).trans f3, r3, e3, PostS.mono f3 q⟩
        | bk env2 st2 => exact fun q => q
        | rt s' st2 => exact fun q => q
        | ex c' ns ws env2 st2 => exact fun q => q
        | bad => exact fun q => q
      · exact q.elim
    · have hi' : i = s.xs.length := by omega
      subst hi'
      rw [List.drop_length] at q
      unfold loopL at q
      rw [if_pos g'] at q
      exact .inl ⟨its.stop _ H' st' ρ' G' f r g' (Nat.le_refl _), PostS.nx q r e⟩⟩

/-! ### while -/
end
def whileN (t : MT) (b : MS) : Nat → Env → Store → Option SR
  | 0, _, _ => none
  | n + 1, env, st => match t env st with
    | .ok c st1 => if c = true then (match b env st1 with
        | .nx env2 st2 => whileN t b n env2 st2
        | .ct env2 st2 => whileN t b n env2 st2
        | .bk env2 st2 => some (.nx env2 st2)
        | r => some r) else some (.nx env st1)
    | .ex c ns ws st1 => some (.ex c ns ws env st1)
    | .bad => some .bad
open Classical in
noncomputable def mWhile (t : MT) (b : MS) : MS := fun env st => if h : ∃ n r, whileN t b n env st = some r then (Classical.choose_spec h).choose else .bad
theorem whileN_succ {t : MT} {b : MS} : ∀ {n : Nat} {env : Env} {st : Store} {r : SR}, whileN t b n env st = some r → whileN t b (n + 1) env st = some r
  | 0, _, _, _, h => by cases h
  | n + 1, env, st, r, h => by
    unfold whileN at h ⊢
    split
    · rename_i c st1 e
      rw [e] at h
      dsimp only at h
      split
      · rename_i hc
        rw [if_pos hc] at h
        split
        · rename_i env2 st2 e2; rw [e2] at h; exact whileN_succ h
        · rename_i env2 st2 e2; rw [e2] at h; exact whileN_succ h
        · rename_i env2 st2 e2; rw [e2] at h; exact h
        · rename_i n1 n2 n3
          revert h
          cases e2 : b env st1 with
          | nx x y => exact absurd e2 (n1 x y)
          | ct x y => exact absurd e2 (n2 x y)
          | bk x y => exact absurd e2 (n3 x y)
          | rt x y => exact fun h => h
          | ex x1 x2 x3 x4 x5 => exact fun h => h
          | bad => exact fun h => h
      · rename_i hc
        rw [if_neg hc] at h; exact h
    · rename_i e; rw [e] at h; exact h
    · rename_i e; rw [e] at h; exact h
theorem whileN_le {t : MT} {b : MS} {n m : Nat} {env : Env} {st : Store} {r : SR} (h : whileN t b n env st = some r) (hm : n ≤ m) : whileN t b m env st = some r := by
  obtain ⟨k, rfl⟩ := Nat.le.dest hm
  clear hm
  induction k with
  | zero => exact h
  | succ k ih => exact whileN_succ ih
theorem mWhile_of {t : MT} {b : MS} {n : Nat} {env : Env} {st : Store} {r : SR} (h : whileN t b n env st = some r) : mWhile t b env st = r := by
  have hx : ∃ n r, whileN t b n env st = some r := ⟨n, r, h⟩
  unfold mWhile
  rw [dif_pos hx]
  have e := (Classical.choose_spec hx).choose_spec
  have e1 := whileN_le e (Nat.le_max_left _ n)
  have e2 := whileN_le h (Nat.le_max_right (Classical.choose hx) n)
  rw [e1] at e2
  exact Option.some.inj e2
theorem mWhile_get {t : MT} {b : MS} {env : Env} {st : Store} (h : mWhile t b env st ≠ .bad) : ∃ n, whileN t b n env st = some (mWhile t b env st) := by
  by_cases hx : ∃ n r, whileN t b n env st = some r
  · obtain ⟨n, r, e⟩ := hx
    exact ⟨n, by rw [mWhile_of e]; exact e⟩
  · unfold mWhile at h
    rw [dif_neg hx] at h
    exact absurd rfl h
section
variable {X : Cx} {cl : Nat → Addr} {Wx : WX} {body : List Stmt} {mb : MS} {pos : Pos} {mt : MT} {c : Expr}
theorem is_while (hp : PassesOwn (model X.prog X.w) X.A X.env X.xe) (hc : IT X cl Wx c mt) (hb : ISs X cl Wx body mb) : IS X cl Wx (.While c body [] pos) (mWhile mt mb) :=
  ps_weak (ps_while hp hc hb) fun D σ H ⟨env, ρ, G, st, rel, er, p⟩ => by
    have hne : mWhile mt mb env st ≠ .bad := fun z => by rw [z] at p; exact p
    obtain ⟨n, hn⟩ := mWhile_get hne
    refine ⟨fun m σ' H' => ∃ env' ρ' G' st' r, whileN mt mb m env' st' = some r ∧ Rel ⟨X.K, cl⟩ ρ' G' H' st' ∧ EnvR ⟨X.K, cl⟩ ρ' G' env' σ' ∧ PostS ⟨X.K, cl⟩ ρ' G' r D Wx, ⟨n, env, ρ, G, st, _, hn, rel, er, p⟩, ?_⟩
    rintro m σ' H' ⟨env', ρ', G', st', r, h, r1, e1, q⟩
    cases m with
    | zero => cases h
    | succ m =>
      refine ⟨env', ρ', G', st', r1, e1, ?_⟩
      unfold whileN at h
      revert h
      cases mt env' st' with
      | ok c st1 =>
        intro h ρ2 G2 H2 u f2 r2 hu
        subst hu
        dsimp only at h
        have q2 := PostS.mono f2 q
        have e2 := e1.mono f2
        cases c with
        | true =>
          rw [if_pos rfl] at h
          refine ⟨fun σ3 H3 => ∃ env' ρ' G' st' r, whileN mt mb m env' st' = some r ∧ Rel ⟨X.K, cl⟩ ρ' G' H3 st' ∧ EnvR ⟨X.K, cl⟩ ρ' G' env' σ3 ∧ PostS ⟨X.K, cl⟩ ρ' G' r D Wx, fun σ3 H3 w => ⟨m, Nat.lt_succ_self _, w⟩, env', ρ2, G2, st1, r2, e2, ?_⟩
          revert h
          cases mb env' st1 with
          | nx env2 st2 => exact fun h ρ3 G3 H3 σ3 f3 r3 e3 => ⟨env2, ρ3, G3, st2, r, h, r3, e3, PostS.mono f3 q2⟩
          | ct env2 st2 => exact fun h ρ3 G3 H3 σ3 f3 r3 e3 => ⟨env2, ρ3, G3, st2, r, h, r3, e3, PostS.mono f3 q2⟩
          | bk env2 st2 => intro h; cases h; exact q2
          | rt s' st2 => intro h; cases h; exact q2
          | ex c' ns ws env2 st2 => intro h; cases h; exact q2
          | bad => intro h; cases h; exact q2
        | false =>
          rw [if_neg Bool.false_ne_true] at h
          cases h
          exact PostS.nx q2 r2 e2
      | ex c ns ws st1 =>
        intro h
        cases h
        exact fun ρ1 G1 H1 d f1 rel hx => q ρ1 G1 H1 σ' d f1 rel (e1.mono f1) hx
      | bad =>
        intro h
        cases h
        exact q
end
end Mz

set_option Elab.async false
set_option linter.all false
set_option maxRecDepth 100000
set_option maxHeartbeats 4000000
namespace Mz
open PySem PySem.Spec PyProof.Rows L2

/-! ## 8. comprehensions -/
def wipeE (env : Env) : List Nat → Env
  | [] => env
  | v :: vs => (wipeE env vs).set v none
theorem EnvR.wipe {T : Tx} {ρ : Mp} {G : Hp} {env : Env} {σ : L2.St} (h : EnvR T ρ G env σ) : ∀ vs, EnvR T ρ G (wipeE env vs) (L2.wipe σ vs)
  | [] => h
  | v :: vs => EnvR.unset v none (EnvR.wipe h vs)
def Res.then {α β : Type} (r : Res α) (k : α → Store → Res β) : Res β := match r with
  | .ok a st => k a st
  | _ => .bad
open Classical in
noncomputable def lcL {β : Type} (gd : Store → Prop) (pt : Pat) (mt : MT) (me : ME) (env : Env) (n : Nat) (fin : Store → Res β) : List W → Store → Res β
  | [], st => if gd st then fin st else .bad
  | x :: xs, st => if gd st then (match bindP pt x env with
    | some env1 => (mt env1 st).then fun c st1 => if c = true then (me env1 st1).then fun y st2 => match y, st2.lget n with
        | .v w, some acc => if acc.length < big then lcL gd pt mt me env n fin xs (st2.setl n (.lst (acc ++ [w]))) else .bad
        | _, _ => .bad
      else lcL gd pt mt me env n fin xs st1
    | none => .bad) else .bad
open Classical in
/-- the list that was made last is kept as a value -/
noncomputable def freezeF (n : Nat) (o : List In) (st : Store) : Res Sl := match st.lget n with
  | some xs => if st.l.length = n + 1 ∧ st.o = o then .ok (.v (.lst xs)) ⟨st.l.take n, o⟩ else .bad
  | none => .bad
noncomputable def mLc (mi : MI) (pt : Pat) (mt : MT) (me : ME) (vs : List Nat) : ME := fun env st => (mi env st).bind fun s st1 =>
  lcL s.gd pt mt me (wipeE env vs) st1.l.length (freezeF st1.l.length st1.o) s.xs (st1.push (.lst []))
noncomputable def mLcM (mi : MI) (pt : Pat) (mt : MT) (me : ME) (vs : List Nat) : ME := fun env st => (mi env st).bind fun s st1 =>
  lcL s.gd pt mt me (wipeE env vs) st1.l.length (fun st2 => .ok (.l st1.l.length) st2) s.xs (st1.push (.lst []))
def mYes : MT := fun _ st => .ok true st
abbrev WF : WX := fun _ _ _ _ => False

section
variable {T : Tx} {ρ ρ' : Mp} {G G' H : Hp} {st : Store}
theorem PostR.then {α β γ δ : Type} {ρb : Mp} {Gb : Hp} {R1 : Mp → Hp → α → β → Prop} {R2 : Mp → Hp → γ → δ → Prop} {r : Res α} {k : α → Store → Res γ} {Q : δ → Hp → Prop} {Q' : β → Hp → Prop} {E : XK}
    (h : PostR T ρb Gb R2 (r.then k) Q E)
    (hk : ∀ a st' ρ' G' H' u, Fr ρ ρ' G G' → Rel T ρ' G' H' st' → R1 ρ' G' a u → PostR T ρb Gb R2 (k a st') Q E → Q' u H') : PostR T ρ G R1 r Q' fun _ _ _ => False := by
  cases r with
  | ok a st => exact fun ρ1 G1 H1 u f1 rel r1 => hk a st ρ1 G1 H1 u f1 rel r1 h
  | ex c ns ws st => exact h.elim
  | bad => exact h
theorem lc_gd {β γ : Type} {R : Mp → Hp → β → γ → Prop} {gd : Store → Prop} {pt : Pat} {mt : MT} {me : ME} {env : Env} {n : Nat} {fin : Store → Res β} {xs : List W} {Q : γ → Hp → Prop} {E : XK} (h : PostR T ρ G R (lcL gd pt mt me env n fin xs st) Q E) : gd st := by
  by_cases g : gd st
  · exact g
  · cases xs with
    | nil => unfold lcL at h; rw [if_neg g] at h; exact h.elim
    | cons x xs => unfold lcL at h; rw [if_neg g] at h; exact h.elim
/-- an object that is followed no more and stays as it is -/
theorem Rel.addG (r : Rel T ρ G H st) {p : Addr} {o : HO} (hp : H p = some o) (hG : G p = none) (hl : ∀ n : Nat, ρ.l[n]? ≠ some p) (ho : ∀ n : Nat, ρ.o[n]? ≠ some p) (hnt : ∀ ps, o ≠ .tbl ps := by first | (intro _ z; cases z; done) | (intro _ z; unfold ItA at z; cases z) | assumption) : Fr ρ ρ G (upd G p o) ∧ Rel T ρ (upd G p o) H st := by
  have f : Fr ρ ρ G (upd G p o) := ⟨(Fr.refl ρ G).le, updG_ex hG⟩
  refine ⟨f, fun b u e => ?_, r.ll, r.lo, fun m b y hm hy => ?_, fun m b y hm hy => ?_, r.nl, r.no, r.tb, nt_upd r.nt hnt⟩
  · by_cases hb : b = p
    · subst hb; rw [upd_same] at e; rw [← e]; exact hp
    · rw [upd_ne hb] at e; exact r.ext b u e
  · obtain ⟨h1, o', h2, h3⟩ := r.la m b y hm hy
    have hb : b ≠ p := fun z => hl m (z ▸ hm)
    exact ⟨fun hd => by rw [upd_ne hb]; exact h1 hd, o', h2, h3.mono f.ex⟩
  · obtain ⟨h1, o', h2, h3⟩ := r.oa m b y hm hy
    have hb : b ≠ p := fun z => ho m (z ▸ hm)
    exact ⟨by rw [upd_ne hb]; exact h1, o', h2, h3.mono f⟩
/-- a list that is cut off the store stays as a value -/
theorem Rel.keep {ρ1 : Mp} {G1 H1 : Hp} {st1 : Store} {H0 : Hp} {k : Nat} {xs : List W} (r : Rel T ρ G H0 st) (r1 : Rel T ρ1 G1 H1 st1) (f : Fr ρ ρ1 G G1) (ho : st1.o.take st.o.length = st.o) (hk : st.l.length ≤ k) (hx : st1.lget k = some xs) {a : Addr} (ha : ρ1.l[k]? = some a) :
    ∃ ρ2 vs, Fr ρ ρ2 G (upd G1 a (.lst vs)) ∧ Rel T ρ2 (upd G1 a (.lst vs)) H1 ⟨st1.l.take st.l.length, st.o⟩ ∧ upd G1 a (.lst vs) a = some (.lst vs) ∧ Reps T (upd G1 a (.lst vs)) xs vs := by
  obtain ⟨hG, o, h1, vs, rfl, h2⟩ := r1.la k a _ ha (Store.lget_of hx)
  replace hG := hG (fun z => by cases z)
  obtain ⟨ρ2, f2, r2, _⟩ := Rel.trunc r r1 f ho
  have hf1 := r1
  have hlt : ∀ n, ρ2.l[n]? ≠ some a := fun n hn => by
    have hl := get_lt hn
    rw [r2.ll, List.length_take] at hl
    have hl0 : n < st.l.length := by omega
    obtain ⟨x2, hx2⟩ := r2.lat' hn
    -- the place n stands ahead of st's length, and the same address stands at n in ρ1
    have e0 : ∃ b, ρ.l[n]? = some b := ⟨ρ.l[n]'(by rw [r.ll]; exact hl0), List.getElem?_eq_getElem _⟩
    obtain ⟨b, hb⟩ := e0
    have hb2 := f2.le.1 n b hb
    rw [hn] at hb2
    cases hb2
    have hb1 := f.le.1 n a hb
    have := nodup_get r1.nl hb1 ha
    omega
  have hlo : ∀ n, ρ2.o[n]? ≠ some a := fun n hn => by
    obtain ⟨y, hy⟩ := r2.oat' hn
    obtain ⟨_, o', g2, dx, us, e1, _⟩ := r2.oa n a y hn hy
    rw [h1] at g2; cases g2; cases e1
  obtain ⟨f3, r3⟩ := r2.addG (o := .lst vs) h1 hG hlt hlo
  exact ⟨ρ2, vs, f2.trans f3, r3, upd_same, Reps.mono f3.ex _ _ h2⟩
/-- the fields of an instance that is handed back for good: its lists are frozen -/
def frzO (st1 : Store) (base : Nat) : List Sl → Option (List W)
  | [] => some []
  | .v w :: r => (frzO st1 base r).map (w :: ·)
  | .l n :: r => if base ≤ n then (match st1.lget n with
    | some xs => (frzO st1 base r).map (W.lst xs :: ·)
    | none => none) else none
  | .o _ :: _ => none
theorem Rel.keepO {ρ1 : Mp} {G1 H1 : Hp} {st1 : Store} {H0 : Hp} {k : Nat} {y : In} {ws : List W} (r : Rel T ρ G H0 st) (r1 : Rel T ρ1 G1 H1 st1) (f : Fr ρ ρ1 G G1) (ho : st1.o.take st.o.length = st.o) (hk : st.o.length ≤ k) (hy : st1.o[k]? = some y) (hw : frzO st1 st.l.length y.vs = some ws) {a : Addr} (ha : ρ1.o[k]? = some a) :
    ∃ ρ2 G', Fr ρ ρ2 G G' ∧ Rel T ρ2 G' H1 ⟨st1.l.take st.l.length, st.o⟩ ∧ Rep T G' (.ins y.c y.ns ws) (.ref a) := by
  obtain ⟨hG, o, h1, dx, us, rfl, hlen, hs⟩ := r1.oa k a y ha hy
  obtain ⟨ρ2, f2, r2, _⟩ := Rel.trunc r r1 f ho
  have aux : ∀ (ss : List Sl) (us : List V) (ws : List W) (Gc : Hp), SlRs T ρ1 G1 ss us → frzO st1 st.l.length ss = some ws → (∀ p o, G1 p = some o → Gc p = some o) → (∀ p o, Gc p = some o → G1 p = some o ∨ ∃ vs, o = .lst vs ∧ H1 p = some o) → Rel T ρ2 Gc H1 ⟨st1.l.take st.l.length, st.o⟩ →
      ∃ G', (∀ p o, Gc p = some o → G' p = some o) ∧ (∀ p o, G' p = some o → G1 p = some o ∨ ∃ vs, o = .lst vs ∧ H1 p = some o) ∧ Rel T ρ2 G' H1 ⟨st1.l.take st.l.length, st.o⟩ ∧ Reps T G' ws us := by
    intro ss
    induction ss with
    | nil =>
      intro us ws Gc h e m1 m2 rc
      cases e
      have : us = [] := h
      subst this
      exact ⟨Gc, fun _ _ h => h, m2, rc, by unfold Reps; rfl⟩
    | cons s ss ih =>
      intro us ws Gc h e m1 m2 rc
      obtain ⟨v, q, rfl, e2, e3⟩ := h
      cases s with
      | v w =>
        unfold frzO at e
        obtain ⟨zs, hz, rfl⟩ := Option.map_eq_some_iff.mp e
        obtain ⟨G', g1, g2, g3, g4⟩ := ih q zs Gc e3 hz m1 m2 rc
        exact ⟨G', g1, g2, g3, by unfold Reps; exact ⟨v, q, rfl, Rep.mono (fun p o h => g1 p o (m1 p o h)) w v e2, g4⟩⟩
      | l n =>
        unfold frzO at e
        split at e
        · rename_i hn
          split at e
          · rename_i xs hx
            obtain ⟨zs, hz, rfl⟩ := Option.map_eq_some_iff.mp e
            obtain ⟨b, hb, rfl⟩ := e2
            obtain ⟨hGb, o, hHb, vs, rfl, hr⟩ := r1.la n b _ hb (Store.lget_of hx)
            replace hGb := hGb (fun z => by cases z)
            obtain ⟨Gd, d1, d2, d3, d4⟩ : ∃ Gd, (∀ p o, Gc p = some o → Gd p = some o) ∧ (∀ p o, Gd p = some o → G1 p = some o ∨ ∃ vs, o = .lst vs ∧ H1 p = some o) ∧ Rel T ρ2 Gd H1 ⟨st1.l.take st.l.length, st.o⟩ ∧ Gd b = some (.lst vs) := by
              cases hc : Gc b with
              | some o =>
                refine ⟨Gc, fun _ _ h => h, m2, rc, ?_⟩
                rcases m2 b o hc with z | ⟨vs', rfl, z⟩
                · rw [hGb] at z; cases z
                · rw [hHb] at z; cases z; exact hc
              | none =>
                have hlt : ∀ m, ρ2.l[m]? ≠ some b := fun m hm => by
                  have hl := get_lt hm
                  rw [r2.ll, List.length_take] at hl
                  have hl0 : m < st.l.length := by omega
                  have e0 : ∃ b, ρ.l[m]? = some b := ⟨ρ.l[m]'(by rw [r.ll]; exact hl0), List.getElem?_eq_getElem _⟩
                  obtain ⟨b', hb'⟩ := e0
                  have hb2 := f2.le.1 m b' hb'
                  rw [hm] at hb2
                  cases hb2
                  have hb1 := f.le.1 m b hb'
                  have := nodup_get r1.nl hb1 hb
                  omega
                have hlo : ∀ m, ρ2.o[m]? ≠ some b := fun m hm => by
                  obtain ⟨y, hy⟩ := r2.oat' hm
                  obtain ⟨_, o', g2, dx, us, e1, _⟩ := r2.oa m b y hm hy
                  rw [hHb] at g2; cases g2; cases e1
                obtain ⟨f3, r3⟩ := rc.addG (o := .lst vs) hHb hc hlt hlo
                refine ⟨_, f3.ex, fun p o h => ?_, r3, upd_same⟩
                by_cases z : p = b
                · subst z
                  rw [upd_same] at h
                  cases h
                  exact .inr ⟨vs, rfl, hHb⟩
                · rw [upd_ne z] at h
                  exact m2 p o h
            obtain ⟨G', g1, g2, g3, g4⟩ := ih q zs Gd e3 hz (fun p o h => d1 p o (m1 p o h)) d2 d3
            refine ⟨G', fun p o h => g1 p o (d1 p o h), g2, g3, ?_⟩
            unfold Reps
            refine ⟨.ref b, q, rfl, ?_, g4⟩
            unfold Rep
            exact ⟨b, vs, rfl, g1 _ _ d4, Reps.mono (fun p o h => g1 p o (d1 p o (m1 p o h))) _ _ hr⟩
          · cases e
        · cases e
      | o n => unfold frzO at e; cases e
  obtain ⟨G', g1, g2, g3, g4⟩ := aux y.vs us ws G1 hs hw (fun _ _ h => h) (fun _ _ h => .inl h) r2
  have hGa : G' a = none := by
    cases z : G' a with
    | none => rfl
    | some o =>
      rcases g2 a o z with q | ⟨vs, rfl, q⟩
      · rw [hG] at q; cases q
      · rw [h1] at q; cases q
  have hlt : ∀ m, ρ2.l[m]? ≠ some a := fun m hm => by
    obtain ⟨x2, hx2⟩ := r2.lat' hm
    obtain ⟨_, o, q1, q2⟩ := r2.la m a x2 hm hx2
    rw [h1] at q1
    cases q1
    cases x2 with
    | lst xs => obtain ⟨_, z, _⟩ := q2; cases z
    | dct ks xs => obtain ⟨_, z, _⟩ := q2; cases z
    | dead => rcases q2 with ⟨_, z⟩ | ⟨_, z⟩ <;> cases z
  have hlo : ∀ m, ρ2.o[m]? ≠ some a := fun m hm => by
    have hl := get_lt hm
    rw [r2.lo] at hl
    have e0 : ∃ b, ρ.o[m]? = some b := ⟨ρ.o[m]'(by rw [r.lo]; exact hl), List.getElem?_eq_getElem _⟩
    obtain ⟨b, hb⟩ := e0
    have hb2 := f2.le.2 m b hb
    rw [hm] at hb2
    cases hb2
    have hb1 := f.le.2 m a hb
    have := nodup_get r1.no hb1 ha
    show False
    have hl' : m < st.o.length := hl
    omega
  obtain ⟨f3, r3⟩ := g3.addG (o := .ins (T.cl y.c) dx (y.ns.zip us)) h1 hGa hlt hlo
  refine ⟨ρ2, _, ⟨f2.le, fun p o h => f3.ex p o (g1 p o (f2.ex p o h))⟩, r3, ?_⟩
  unfold Rep
  exact ⟨a, dx, us, rfl, upd_same, hlen, Reps.mono f3.ex _ _ g4⟩
end

section
variable {X : Cx} {cl : Nat → Addr} {Wx : WX} {tg iter elt : Expr} {ifs : List Expr} {mi : MI} {me : ME} {mt : MT} {g : TG} {pt : Pat} {pos : Pos} {scope : Scope} {own : List (Str × Nat)} {vs : List Nat}
/-- the readings -/
theorem tM_lc {fin : Nat → List In → Store → Res Sl} (hgs : GoS ⟨X.K, cl⟩ g pt) (hv : ∀ i ∈ pt.slots, i ∈ vs)
    (hfin : ∀ (ρ : Mp) G H st D n o Q E ρ0 G0 H0 l0, Rel ⟨X.K, cl⟩ ρ G H st → ρ.l[n]? = some D → Fr ρ0 ρ G0 G → Rel ⟨X.K, cl⟩ ρ0 G0 H0 ⟨l0, o⟩ → l0.length = n → PostR ⟨X.K, cl⟩ ρ0 G0 (SlR ⟨X.K, cl⟩) (fin n o st) Q E → Q (.ref D) H) :
    ∀ σ H Q, tM ⟨X.K, cl⟩ Wx (fun env st => (mi env st).bind fun s st1 => lcL s.gd pt mt me (wipeE env vs) st1.l.length (fin st1.l.length st1.o) s.xs (st1.push (.lst []))) σ H Q →
      tLc (tI ⟨X.K, cl⟩ Wx mi) g (tB ⟨X.K, cl⟩ WF mt) (tM ⟨X.K, cl⟩ WF me) vs σ H Q := fun σ H Q ⟨env, ρ, G, st, rel, er, p⟩ => by
  refine ⟨env, ρ, G, st, rel, er, PostR.bind (R1 := ItS ⟨X.K, cl⟩) p fun s st1 ρ1 G1 H1 J f1 r1 its p1 => fun D hD => ?_⟩
  obtain ⟨f2, r2⟩ := r1.newL (o := .lst []) (x := .lst []) hD ⟨[], rfl, Reps.nil⟩
  have hD2 : ((ρ1.l ++ [D])[st1.l.length]? : Option Addr) = some D := by rw [← r1.ll]; simp
  refine ⟨fun i m H' => ∃ ρ' G' st', m = s.xs.length - i ∧ i ≤ s.xs.length ∧ Fr ⟨ρ1.l ++ [D], ρ1.o⟩ ρ' G1 G' ∧ Rel ⟨X.K, cl⟩ ρ' G' H' st' ∧ PostR ⟨X.K, cl⟩ ρ1 G1 (SlR ⟨X.K, cl⟩) (lcL s.gd pt mt me (wipeE env vs) st1.l.length (fin st1.l.length st1.o) (s.xs.drop i) st') Q fun c d H' => Wx c d σ H',
    ⟨s.xs.length, _, G1, _, by simp, Nat.zero_le _, Fr.refl _ _, r2, p1⟩, ?_⟩
  rintro i m H' ⟨ρ', G', st', rfl, hi, f, r, q⟩
  have g' := lc_gd q
  have ff := f2.trans f
  by_cases hlt : i < s.xs.length
  · obtain ⟨h1, h2⟩ := its.go i s.xs[i] H' st' ρ' G' ff r g' (List.getElem?_eq_getElem hlt)
    refine .inr ⟨h1, fun H2 => ∃ ρ' G' st', Fr ⟨ρ1.l ++ [D], ρ1.o⟩ ρ' G1 G' ∧ Rel ⟨X.K, cl⟩ ρ' G' H2 st' ∧ PostR ⟨X.K, cl⟩ ρ1 G1 (SlR ⟨X.K, cl⟩) (lcL s.gd pt mt me (wipeE env vs) st1.l.length (fin st1.l.length st1.o) (s.xs.drop (i + 1)) st') Q fun c d H' => Wx c d σ H',
      fun H2 ⟨ρ2, G2, st2, f2, r2, q2⟩ => ⟨s.xs.length - (i + 1), by omega, ρ2, G2, st2, rfl, hlt, f2, r2, q2⟩, fun x H2 hy => ?_⟩
    obtain ⟨G2, fy, ry, hx⟩ := h2 x H2 hy
    rw [drop_at hlt] at q
    unfold lcL at q
    rw [if_pos g'] at q
    split at q
    · rename_i env1 e1
      have er2 := ((er.mono f1).mono (ff.trans fy)).wipe vs
      refine hgs ρ' G2 H2 st' s.xs[i] x (wipeE env vs) env1 (L2.wipe σ vs) _ ry hx er2 e1 fun σ1 er1 only => ⟨?_, ?_⟩
      · rw [Only.wipe only hv]
        exact wipe_eq (wipe_length σ vs) fun j hj => by rw [wipe_at, if_neg (fun z => hj z.1)]
      · refine ⟨env1, ρ', G2, st', ry, er1, PostR.then (R1 := fun _ _ a b => a = b) q fun c st3 ρ3 G3 H3 b f3 r3 hb q3 => ?_⟩
        subst hb
        cases c with
        | true =>
          show tM _ _ _ _ _ _
          refine ⟨env1, ρ3, G3, st3, r3, er1.mono f3, PostR.then (R1 := SlR ⟨X.K, cl⟩) q3 fun y st4 ρ4 G4 H4 u f4 r4 hu q4 => ?_⟩
          split at q4
          · rename_i w acc hacc
            split at q4
            · rename_i hz
              have hD4 : ρ4.l[st1.l.length]? = some D := (f.trans (fy.trans (f3.trans f4))).le.1 _ _ hD2
              obtain ⟨_, o, ho, vs', rfl, hr⟩ := r4.la _ D _ hD4 (Store.lget_of hacc)
              have hlo : LoR ⟨X.K, cl⟩ G4 (.lst (acc ++ [w])) (.lst (vs' ++ [u])) := ⟨_, rfl, hr.append (Reps.cons hu Reps.nil)⟩
              refine ⟨vs', ho, by rw [big_line, ← hr.length]; exact hz, ρ4, G4, _, f.trans (fy.trans (f3.trans f4)), r4.setl hD4 hlo (Store.lget_of hacc) (fun z => by cases z), q4⟩
            · exact q4.elim
          · exact q4.elim
        | false => exact ⟨ρ3, G3, st3, f.trans (fy.trans f3), r3, q3⟩
    · exact q.elim
  · have hi' : i = s.xs.length := by omega
    subst hi'
    rw [List.drop_length] at q
    unfold lcL at q
    rw [if_pos g'] at q
    exact .inl ⟨its.stop _ H' st' ρ' G' ff r g' (Nat.le_refl _), hfin ρ' G' H' st' D _ _ Q _ ρ1 G1 H1 st1.l r (f.le.1 _ _ hD2) ff r1 rfl q⟩
theorem fin_freeze : ∀ (ρ : Mp) G H st D n o Q E ρ0 G0 H0 l0, Rel ⟨X.K, cl⟩ ρ G H st → ρ.l[n]? = some D → Fr ρ0 ρ G0 G → Rel ⟨X.K, cl⟩ ρ0 G0 H0 ⟨l0, o⟩ → l0.length = n → PostR ⟨X.K, cl⟩ ρ0 G0 (SlR ⟨X.K, cl⟩) (freezeF n o st) Q E → Q (.ref D) H := fun ρ G H st D n o Q E ρ0 G0 H0 l0 r hD f0 r0 hl p => by
  unfold freezeF at p
  split at p
  · rename_i xs hx
    split at p
    · rename_i hc
      obtain ⟨h1, h2⟩ := hc
      subst hl
      have hoo : st.o.take (Store.mk l0 o).o.length = (Store.mk l0 o).o := by
        show st.o.take o.length = o
        rw [h2]; exact List.take_length
      obtain ⟨ρ2, vs, f2, r2, e2, hr⟩ := Rel.keep r0 r f0 hoo (Nat.le_refl _) hx hD
      exact p ρ2 _ H _ f2 r2 (by unfold SlR Rep; exact ⟨D, vs, rfl, e2, hr⟩)
    · exact p.elim
  · exact p.elim
theorem fin_live : ∀ (ρ : Mp) G H st D n o Q E ρ0 G0 H0 l0, Rel ⟨X.K, cl⟩ ρ G H st → ρ.l[n]? = some D → Fr ρ0 ρ G0 G → Rel ⟨X.K, cl⟩ ρ0 G0 H0 ⟨l0, o⟩ → l0.length = n → PostR ⟨X.K, cl⟩ ρ0 G0 (SlR ⟨X.K, cl⟩) ((fun n _ st => .ok (.l n) st : Nat → List In → Store → Res Sl) n o st) Q E → Q (.ref D) H := fun ρ G H st D n o Q E ρ0 G0 H0 l0 r hD f0 r0 hl p =>
  p ρ G H _ f0 r ⟨D, hD, rfl⟩
theorem its_true : IT X cl WF (.Constant (.bool true) 0 ⟨0, 0, 0, 0⟩) (mTest (mC (.bl true))) := it_val ie_bl
abbrev ITs (X : Cx) (cl : Nat → Addr) (Wx : WX) (e : List Expr) (m : MT) : Prop := PTs X e (tB ⟨X.K, cl⟩ Wx m)
theorem its_nil : ITs X cl Wx [] mYes := pts_weak pts_nil fun σ H Q ⟨env, ρ, G, st, rel, er, p⟩ => PostR.give p rel rfl
theorem its_one {c : Expr} {mc : MT} (h : IT X cl Wx c mc) : ITs X cl Wx [c] mc := pts_one h
abbrev blkCx (X : Cx) (scope : Scope) (s : Shared) (H : Hp) (C : Addr) (cs : List (Str × Addr)) (fp : List Addr) : Cx := X.blk s H scope (compEnvC scope cs C X.env) fp
theorem ie_lc (hc : X.calm = true) (hN : X.N.Nodup) (hi : II X cl Wx tg iter mi) (ok : BlkOk X.N X.env.scope scope own)
    (hg : ∀ s H C cs fp, PG (blkCx X scope s H C cs fp) tg g) (hgs : GoS ⟨X.K, cl⟩ g pt) (ht : ∀ s H C cs fp, ITs (blkCx X scope s H C cs fp) cl WF ifs mt) (he : ∀ s H C cs fp, IE (blkCx X scope s H C cs fp) cl WF elt me)
    (hv : ∀ i ∈ pt.slots, i ∈ own.map (·.2)) (hs : ∀ x, foldedSetIterable iter X.env x = pure x := by intro _; rfl) :
    IE X cl Wx (.ListComp elt [⟨tg, iter, ifs, 0⟩] scope pos) (mLc mi pt mt me (own.map (·.2))) := pe_weak (pe_lc hc hN hi ok hg ht he hs) (tM_lc hgs hv fin_freeze)
theorem ie_lcM (hc : X.calm = true) (hN : X.N.Nodup) (hi : II X cl Wx tg iter mi) (ok : BlkOk X.N X.env.scope scope own)
    (hg : ∀ s H C cs fp, PG (blkCx X scope s H C cs fp) tg g) (hgs : GoS ⟨X.K, cl⟩ g pt) (ht : ∀ s H C cs fp, ITs (blkCx X scope s H C cs fp) cl WF ifs mt) (he : ∀ s H C cs fp, IE (blkCx X scope s H C cs fp) cl WF elt me)
    (hv : ∀ i ∈ pt.slots, i ∈ own.map (·.2)) (hs : ∀ x, foldedSetIterable iter X.env x = pure x := by intro _; rfl) :
    IE X cl Wx (.ListComp elt [⟨tg, iter, ifs, 0⟩] scope pos) (mLcM mi pt mt me (own.map (·.2))) := pe_weak (pe_lc hc hN hi ok hg ht he hs) (tM_lc (fin := fun n _ st => .ok (.l n) st) hgs hv fin_live)
theorem tS_asg {i : Nat} {te : TE} {m : ME} (h : ∀ σ H Q, tM ⟨X.K, cl⟩ Wx m σ H Q → te σ H Q) : ∀ D σ H, tS ⟨X.K, cl⟩ Wx (mAsg i m) D σ H → tAsg te (gName i) D σ H := fun D σ H ⟨env, ρ, G, st, r, er, p⟩ =>
  h σ H _ ⟨env, ρ, G, st, r, er, PostS.ofR (R := SlR ⟨X.K, cl⟩) er p fun x st1 ρ1 G1 H1 u f1 r1 s1 p1 => PostS.nx p1 r1 ((er.mono f1).set i s1)⟩
theorem is_setLc {i : Nat} {y : Str} {py spos : Pos} (hc : X.calm = true) (hN : X.N.Nodup) (hy : X.N[i]? = some y) (hyl : X.env.scope.names.lookup y = some .local)
    (hsw : swapsWith (.ListComp elt [⟨tg, iter, ifs, 0⟩] scope pos) (some (.Name y py)) spos.line X.env = pure true) (hi : II X cl Wx tg iter mi) (ok : BlkOk X.N X.env.scope scope own)
    (hg : ∀ s H C cs fp, PG (blkCx X scope s H C cs fp) tg g) (hgs : GoS ⟨X.K, cl⟩ g pt) (ht : ∀ s H C cs fp, ITs (blkCx X scope s H C cs fp) cl WF ifs mt) (he : ∀ s H C cs fp, IE (blkCx X scope s H C cs fp) cl WF elt me)
    (hv : ∀ i ∈ pt.slots, i ∈ own.map (·.2)) (hs : ∀ x, foldedSetIterable iter X.env x = pure x := by intro _; rfl) :
    IS X cl Wx (.Assign [.Name y py] (.ListComp elt [⟨tg, iter, ifs, 0⟩] scope pos) spos) (mAsg i (mLc mi pt mt me (own.map (·.2)))) :=
  ps_weak (ps_setLc hc hN hy hyl hsw hi ok hg ht he hs) (tS_asg (tM_lc hgs hv fin_freeze))
theorem is_setLcM {i : Nat} {y : Str} {py spos : Pos} (hc : X.calm = true) (hN : X.N.Nodup) (hy : X.N[i]? = some y) (hyl : X.env.scope.names.lookup y = some .local)
    (hsw : swapsWith (.ListComp elt [⟨tg, iter, ifs, 0⟩] scope pos) (some (.Name y py)) spos.line X.env = pure true) (hi : II X cl Wx tg iter mi) (ok : BlkOk X.N X.env.scope scope own)
    (hg : ∀ s H C cs fp, PG (blkCx X scope s H C cs fp) tg g) (hgs : GoS ⟨X.K, cl⟩ g pt) (ht : ∀ s H C cs fp, ITs (blkCx X scope s H C cs fp) cl WF ifs mt) (he : ∀ s H C cs fp, IE (blkCx X scope s H C cs fp) cl WF elt me)
    (hv : ∀ i ∈ pt.slots, i ∈ own.map (·.2)) (hs : ∀ x, foldedSetIterable iter X.env x = pure x := by intro _; rfl) :
    IS X cl Wx (.Assign [.Name y py] (.ListComp elt [⟨tg, iter, ifs, 0⟩] scope pos) spos) (mAsg i (mLcM mi pt mt me (own.map (·.2)))) :=
  ps_weak (ps_setLc hc hN hy hyl hsw hi ok hg ht he hs) (tS_asg (tM_lc (fin := fun n _ st => .ok (.l n) st) hgs hv fin_live))
end

/-! ## 9. defs -/
inductive Md where
  | tr | kp | ini
def valsS : List Sl → Bool
  | [] => true
  | .v _ :: r => valsS r
  | _ => false
open Classical in
/-- the store behind a call: what was made in it is cut off -/
noncomputable def cut {α : Type} (st st1 : Store) (k : Store → Res α) : Res α := if st1.o.take st.o.length = st.o then k ⟨st1.l.take st.l.length, st.o⟩ else .bad
open Classical in
/-- the same, the last object (which is being made) may have got its attributes -/
noncomputable def cutI {α : Type} (st st1 : Store) (k : Store → Res α) : Res α := match st1.o[st.o.length - 1]? with
  | some y => if st1.o.take (st.o.length - 1) = st.o.take (st.o.length - 1) ∧ valsS y.vs = true ∧ 0 < st.o.length then k ⟨st1.l.take st.l.length, st.o.take (st.o.length - 1) ++ [y]⟩ else .bad
  | none => .bad
noncomputable def fin (md : Md) (st : Store) (r : SR) : Res Sl := match md with
  | .kp => match r with
    | .nx _ st1 => .ok (.v .non) st1
    | .rt s st1 => .ok s st1
    | .ex c ns ws _ st1 => .ex c ns ws st1
    | _ => .bad
  | .tr => match r with
    | .nx _ st1 => cut st st1 fun st2 => .ok (.v .non) st2
    | .rt (.v w) st1 => cut st st1 fun st2 => .ok (.v w) st2
    | .rt (.l k) st1 => if k < st.l.length then cut st st1 fun st2 => .ok (.l k) st2 else match st1.lget k with
      | some xs => cut st st1 fun st2 => .ok (.v (.lst xs)) st2
      | none => .bad
    | .rt (.o k) st1 => if k < st.o.length then cut st st1 fun st2 => .ok (.o k) st2 else match st1.o[k]? with
      | some y => match frzO st1 st.l.length y.vs with
        | some ws => cut st st1 fun st2 => .ok (.v (.ins y.c y.ns ws)) st2
        | none => .bad
      | none => .bad
    | .ex c ns ws _ st1 => cut st st1 fun st2 => .ex c ns ws st2
    | _ => .bad
  | .ini => match r with
    | .nx _ st1 => cutI st st1 fun st2 => .ok (.v .non) st2
    | .rt (.v .non) st1 => cutI st st1 fun st2 => .ok (.v .non) st2
    | .ex c ns ws _ st1 => cutI st st1 fun st2 => .ex c ns ws st2
    | _ => .bad
noncomputable def mFn (np nl : Nat) (md : Md) (body : MS) : MF := fun args st => if args.length = np then fin md st (body (args.map some ++ List.replicate (nl - np) none) st) else .bad
theorem ar_fn {np nl : Nat} {md : Md} {body : MS} : Ar (mFn np nl md body) np := fun args st h => by unfold mFn; rw [if_neg h]

section
variable {T : Tx} {ρ ρ' : Mp} {G G' H : Hp} {st : Store}
theorem env_start {N : List Str} {args : List Sl} {vs : List V} (h : SlRs T ρ G args vs) {np : Nat} (hn : args.length = np) : EnvR T ρ G (args.map some ++ List.replicate (N.length - np) none) (L2.start N vs) := by
  have hl := h.length
  refine ⟨by unfold L2.start; simp [hn, ← hl], fun i s e => ?_⟩
  have aux : ∀ {args : List Sl} {vs : List V} {i : Nat} {s : Sl}, SlRs T ρ G args vs → args[i]? = some s → ∃ u, vs[i]? = some u ∧ SlR T ρ G s u := by
    intro args
    induction args with
    | nil => intro vs i s _ e; simp at e
    | cons a r ih =>
      intro vs i s h e
      obtain ⟨v, q, rfl, h1, h2⟩ := h
      cases i with
      | zero => simp at e; subst e; exact ⟨v, rfl, h1⟩
      | succ i =>
        have e' : r[i]? = some s := by simpa using e
        obtain ⟨u, h3, h4⟩ := ih h2 e'
        exact ⟨u, by simpa using h3, h4⟩
  by_cases hi : i < args.length
  · rw [List.getElem?_append_left (by simpa using hi), List.getElem?_map] at e
    obtain ⟨s', hs', e'⟩ := Option.map_eq_some_iff.mp e
    cases e'
    obtain ⟨u, h1, h2⟩ := aux h hs'
    refine ⟨u, ?_, h2⟩
    unfold L2.start
    rw [List.getElem?_append_left (by simpa [← hl] using hi), List.getElem?_map, h1]
    rfl
  · rw [List.getElem?_append_right (by simpa using Nat.le_of_not_lt hi)] at e
    have := List.mem_of_getElem? e
    simp at this
theorem valsS_low {ρ1 ρ2 : Mp} {G1 : Hp} : ∀ {ss : List Sl} {us : List V}, valsS ss = true → SlRs T ρ1 G1 ss us → SlRs T ρ2 G1 ss us
  | [], _, _, h => h
  | .v w :: ss, us, e, h => by obtain ⟨v, r, h1, h2, h3⟩ := h; exact ⟨v, r, h1, h2, valsS_low (by simpa [valsS] using e) h3⟩
  | .l n :: ss, us, e, h => by simp [valsS] at e
  | .o n :: ss, us, e, h => by simp [valsS] at e
/-- as Rel.trunc, the last object (being made) changed -/
theorem Rel.truncI {ρ1 : Mp} {G1 H1 : Hp} {st1 : Store} {H0 : Hp} {y : In} (r : Rel T ρ G H0 st) (r1 : Rel T ρ1 G1 H1 st1) (f : Fr ρ ρ1 G G1) (hy : st1.o[st.o.length - 1]? = some y) (ho : st1.o.take (st.o.length - 1) = st.o.take (st.o.length - 1)) (hv : valsS y.vs = true) (h0 : 0 < st.o.length) :
    ∃ ρ2, Fr ρ ρ2 G G1 ∧ Rel T ρ2 G1 H1 ⟨st1.l.take st.l.length, st.o.take (st.o.length - 1) ++ [y]⟩ := by
  have sub : ∀ {α : Type} {xs : List α} {k n : Nat} {a : α}, (xs.take k)[n]? = some a → xs[n]? = some a ∧ n < k := fun {α xs k n a} h => by
    have := get_lt h
    rw [List.length_take] at this
    rw [List.getElem?_take_of_lt (by omega)] at h
    exact ⟨h, by omega⟩
  have up : ∀ {α : Type} {xs : List α} {k n : Nat} {a : α}, xs[n]? = some a → n < k → (xs.take k)[n]? = some a := fun {α xs k n a} h hk => by
    rw [List.getElem?_take_of_lt hk]; exact h
  have low : ∀ (ss : List Sl) us us0, SlRs T ρ1 G1 ss us → SlRs T ρ G ss us0 → SlRs T ⟨ρ1.l.take st.l.length, ρ1.o.take st.o.length⟩ G1 ss us := by
    intro ss
    induction ss with
    | nil => intro us us0 h _; exact h
    | cons s ss ih =>
      intro us us0 h h0
      obtain ⟨v, q, e1, e2, e3⟩ := h
      obtain ⟨v0, q0, z1, z2, z3⟩ := h0
      refine ⟨v, q, e1, ?_, ih q q0 e3 z3⟩
      cases s with
      | v w => exact e2
      | l n =>
        obtain ⟨a, x1, x2⟩ := e2
        obtain ⟨b, y1, _⟩ := z2
        exact ⟨a, up x1 (by rw [← r.ll]; exact get_lt y1), x2⟩
      | o n =>
        obtain ⟨a, x1, x2⟩ := e2
        obtain ⟨b, y1, _⟩ := z2
        exact ⟨a, up x1 (by rw [← r.lo]; exact get_lt y1), x2⟩
  have hlen1 : st.o.length ≤ st1.o.length := by have := get_lt hy; omega
  have hlt : (st.o.take (st.o.length - 1)).length = st.o.length - 1 := by rw [List.length_take]; omega
  refine ⟨⟨ρ1.l.take st.l.length, ρ1.o.take st.o.length⟩, ⟨⟨fun n a h => up (f.le.1 n a h) (by rw [← r.ll]; exact get_lt h), fun n a h => up (f.le.2 n a h) (by rw [← r.lo]; exact get_lt h)⟩, f.ex⟩, ⟨r1.ext, ?_, ?_, fun m b x hm hx => ?_, fun m b x hm hx => ?_, ?_, ?_, r1.tb, r1.nt⟩⟩
  · show (ρ1.l.take _).length = (st1.l.take _).length
    rw [List.length_take, List.length_take, r1.ll]
  · show (ρ1.o.take _).length = (st.o.take (st.o.length - 1) ++ [y]).length
    rw [List.length_take, r1.lo, List.length_append, hlt, List.length_singleton]
    omega
  · obtain ⟨hm', _⟩ := sub hm
    obtain ⟨hy', _⟩ := sub hx
    exact r1.la m b x hm' hy'
  · obtain ⟨hm', hmk⟩ := sub hm
    rcases get_snoc (show (st.o.take (st.o.length - 1) ++ [y])[m]? = some x from hx) with hx' | ⟨rfl, rfl⟩
    · have hx1 : st1.o[m]? = some x := by
        rw [← ho] at hx'
        exact (sub hx').1
      obtain ⟨h1, o', h2, dx, us, e1, e2, e3⟩ := r1.oa m b x hm' hx1
      obtain ⟨a0, ha0⟩ := r.oat (sub hx').1
      obtain ⟨_, _, _, _, us0, _, _, e03⟩ := r.oa m a0 x ha0 (sub hx').1
      exact ⟨h1, o', h2, dx, us, e1, e2, low _ _ _ e3 e03⟩
    · rw [hlt] at hm'
      obtain ⟨h1, o', h2, dx, us, e1, e2, e3⟩ := r1.oa _ b x hm' hy
      exact ⟨h1, o', h2, dx, us, e1, e2, valsS_low hv e3⟩
  · exact List.Nodup.sublist (List.take_sublist _ _) r1.nl
  · exact List.Nodup.sublist (List.take_sublist _ _) r1.no
/-- a body's end, as the caller sees it -/
theorem fin_post {md : Md} {sr : SR} {Q : VK} {E : XK} (r : Rel T ρ G H st) (h : PostR T ρ G (SlR T) (fin md st sr) Q E) : PostS T ρ G sr { nx := fun _ H' => Q .non H', rt := Q } fun c d _ H' => E c d H' := by
  have cutp : ∀ {st1 : Store} {k : Store → Res Sl} {ρ1 : Mp} {G1 H1 : Hp}, Rel T ρ1 G1 H1 st1 → Fr ρ ρ1 G G1 → PostR T ρ G (SlR T) (cut st st1 k) Q E → ∃ ρ2, Fr ρ ρ2 G G1 ∧ Rel T ρ2 G1 H1 ⟨st1.l.take st.l.length, st.o⟩ ∧ st1.o.take st.o.length = st.o ∧ PostR T ρ G (SlR T) (k ⟨st1.l.take st.l.length, st.o⟩) Q E := by
    intro st1 k ρ1 G1 H1 r1 f1 p
    unfold cut at p
    split at p
    · rename_i ho
      obtain ⟨ρ2, f2, r2, _⟩ := Rel.trunc r r1 f1 ho
      exact ⟨ρ2, f2, r2, ho, p⟩
    · exact p.elim
  have cutq : ∀ {st1 : Store} {k : Store → Res Sl} {ρ1 : Mp} {G1 H1 : Hp}, Rel T ρ1 G1 H1 st1 → Fr ρ ρ1 G G1 → PostR T ρ G (SlR T) (cutI st st1 k) Q E → ∃ ρ2 st2, Fr ρ ρ2 G G1 ∧ Rel T ρ2 G1 H1 st2 ∧ PostR T ρ G (SlR T) (k st2) Q E := by
    intro st1 k ρ1 G1 H1 r1 f1 p
    unfold cutI at p
    split at p
    · rename_i y hy
      split at p
      · rename_i hc
        obtain ⟨ρ2, f2, r2⟩ := Rel.truncI r r1 f1 hy hc.1 hc.2.1 hc.2.2
        exact ⟨ρ2, _, f2, r2, p⟩
      · exact p.elim
    · exact p.elim
  cases md with
  | kp =>
    cases sr with
    | nx env st1 => exact fun ρ1 G1 H1 σ f1 r1 e1 => h ρ1 G1 H1 .non f1 r1 (by unfold SlR Rep; rfl)
    | rt s st1 => exact h
    | ex c ns ws env st1 => exact fun ρ1 G1 H1 σ d f1 r1 e1 hx => h ρ1 G1 H1 d f1 r1 hx
    | bk env st1 => exact h.elim
    | ct env st1 => exact h.elim
    | bad => exact h.elim
  | tr =>
    cases sr with
    | nx env st1 =>
      intro ρ1 G1 H1 σ f1 r1 e1
      obtain ⟨ρ2, f2, r2, _, p⟩ := cutp r1 f1 h
      exact p ρ2 G1 H1 .non f2 r2 (by unfold SlR Rep; rfl)
    | rt s st1 =>
      intro ρ1 G1 H1 u f1 r1 hs
      cases s with
      | v w =>
        obtain ⟨ρ2, f2, r2, _, p⟩ := cutp r1 f1 h
        exact p ρ2 G1 H1 u f2 r2 hs
      | l k =>
        unfold fin at h
        dsimp only at h
        split at h
        · rename_i hk
          unfold cut at h
          split at h
          · rename_i ho
            obtain ⟨ρ2, f2, r2, low⟩ := Rel.trunc r r1 f1 ho
            exact h ρ2 G1 H1 u f2 r2 (low _ _ hs (fun n e => by cases e; exact hk) (fun n e => by cases e))
          · exact h.elim
        · rename_i hk
          split at h
          · rename_i xs hx
            unfold cut at h
            split at h
            · rename_i ho
              obtain ⟨a, ha, rfl⟩ := hs
              obtain ⟨ρ2, vs, f2, r2, e2, hr⟩ := Rel.keep r r1 f1 ho (Nat.le_of_not_lt hk) hx ha
              exact h ρ2 _ H1 _ f2 r2 (by unfold SlR Rep; exact ⟨a, vs, rfl, e2, hr⟩)
            · exact h.elim
          · exact h.elim
      | o k =>
        unfold fin at h
        dsimp only at h
        split at h
        · rename_i hk
          unfold cut at h
          split at h
          · rename_i ho
            obtain ⟨ρ2, f2, r2, low⟩ := Rel.trunc r r1 f1 ho
            exact h ρ2 G1 H1 u f2 r2 (low _ _ hs (fun n e => by cases e) (fun n e => by cases e; exact hk))
          · exact h.elim
        · rename_i hk
          split at h
          · rename_i y hy
            split at h
            · rename_i ws hw
              unfold cut at h
              split at h
              · rename_i ho
                obtain ⟨a, ha, rfl⟩ := hs
                obtain ⟨ρ2, G', f2, r2, hr⟩ := Rel.keepO r r1 f1 ho (Nat.le_of_not_lt hk) hy hw ha
                exact h ρ2 G' H1 _ f2 r2 hr
              · exact h.elim
            · exact h.elim
          · exact h.elim
    | ex c ns ws env st1 =>
      intro ρ1 G1 H1 σ d f1 r1 e1 hx
      obtain ⟨ρ2, f2, r2, _, p⟩ := cutp r1 f1 h
      exact p ρ2 G1 H1 d f2 r2 hx
    | bk env st1 => exact h.elim
    | ct env st1 => exact h.elim
    | bad => exact h.elim
  | ini =>
    cases sr with
    | nx env st1 =>
      intro ρ1 G1 H1 σ f1 r1 e1
      obtain ⟨ρ2, st2, f2, r2, p⟩ := cutq r1 f1 h
      exact p ρ2 G1 H1 .non f2 r2 (by unfold SlR Rep; rfl)
    | rt s st1 =>
      intro ρ1 G1 H1 u f1 r1 hs
      cases s with
      | v w =>
        cases w with
        | non =>
          obtain ⟨ρ2, st2, f2, r2, p⟩ := cutq r1 f1 h
          exact p ρ2 G1 H1 u f2 r2 hs
        | _ => exact h.elim
      | _ => exact h.elim
    | ex c ns ws env st1 =>
      intro ρ1 G1 H1 σ d f1 r1 e1 hx
      obtain ⟨ρ2, st2, f2, r2, p⟩ := cutq r1 f1 h
      exact p ρ2 G1 H1 d f2 r2 hx
    | bk env st1 => exact h.elim
    | ct env st1 => exact h.elim
    | bad => exact h.elim
end
section
variable {P : Program} {w : World} {K : PySem.W.Frag} {mg : Str → Option Value} {base : Heap} {cl : Nat → Addr}
/-- a def keeps what its body is told to do -/
theorem fn_ok {x qual : Str} {params : Arguments} {body : List Stmt} {scope : Scope} {dvs : List V} {kws : List (Str × V)} {f : Addr} {fd : FuncData} {N ps : List Str} {k np nl : Nat} {md : Md} {mb : MS} (F : FunD K x qual params body scope dvs kws f fd) (S : FnScope N ps scope) (hp : ps.length = np) (hl : N.length = nl)
    (hb : ∀ (cdv : Value) (A : Around) (outer : List PySem.Env) (s : Shared) (H : Hp) (E : XK), Room k (A.deeper (envOfC qual scope s.heap.objs.size f cdv)) →
      ISs (cxOf (L2.CX P w) P w K mg base N qual scope f cdv A outer s H E) cl (fun c d _ H' => E c d H') body mb) : FnOk P w K mg base (L2.CX P w) (k + 1) f fd ps (spM ⟨K, cl⟩ np (mFn np nl md mb)) :=
  F.ok (CX := L2.CX P w) S (fun vs H Q E ⟨ρ, G, st, args, rel, sr, ha, p⟩ => by rw [← sr.length, ha, hp]) fun cdv A outer s H vs Q E hr ⟨ρ, G, st, args, rel, sr, ha, p⟩ => by
    refine ⟨_, hb cdv A outer s H E hr, args.map some ++ List.replicate (nl - np) none, ρ, G, st, rel, ?_, ?_⟩
    · rw [← hl]; exact env_start sr ha
    · unfold mFn at p
      rw [if_pos ha] at p
      exact fin_post rel p
end
end Mz

set_option Elab.async false
set_option linter.all false
set_option maxRecDepth 100000
set_option maxHeartbeats 4000000
namespace Mz
open PySem PySem.Spec PyProof.Rows L2

/-! ## 10. operations -/
def wide : Int := ((2 ^ 8000 : Nat) : Int)
theorem wide_lt {i : Int} {k : Nat} (h : i < ((2 ^ k : Nat) : Int)) (hk : k ≤ 8000) : i < wide := Int.lt_of_lt_of_le h (Int.ofNat_le.mpr (Nat.pow_le_pow_right (by decide) hk))
theorem wide_log {j : Int} (h : 0 < j) (h2 : j < wide) : CDivW 0 j := wide_div (b := 8000) h (by
  have : (j.natAbs : Int) < ((2 ^ 8000 : Nat) : Int) := by
    have e : (j.natAbs : Int) = j := by omega
    rw [e]
    exact h2
  exact Int.ofNat_lt.mp this) (by omega) (by omega)
abbrev Op2 := Sl → Sl → Store → Res Sl
def opI (C : Int → Int → Bool) (g : Int → Int → W) : Op2
  | .v (.int i), .v (.int j), st => if C i j = true then .ok (.v (g i j)) st else .bad
  | _, _, _ => .bad
def opAdd : Op2
  | .v (.int i), .v (.int j), st => .ok (.v (.int (i + j))) st
  | .v (.str x), .v (.str y), st => if x.length + y.length ≤ big then .ok (.v (.str (x ++ y))) st else .bad
  | .v (.tup xs), .v (.tup ys), st => if xs.length + ys.length ≤ big then .ok (.v (.tup (xs ++ ys))) st else .bad
  | .v (.lst xs), .v (.lst ys), st => if xs.length + ys.length ≤ big then .ok (.v (.lst (xs ++ ys))) st else .bad
  | .v (.lst xs), .l n, st => match st.lget n with
    | some ys => if xs.length + ys.length ≤ big then .ok (.v (.lst (xs ++ ys))) st else .bad
    | none => .bad
  | .l n, .v (.lst ys), st => match st.lget n with
    | some xs => if xs.length + ys.length ≤ big then .ok (.v (.lst (xs ++ ys))) st else .bad
    | none => .bad
  | .l n, .l m, st => match st.lget n, st.lget m with
    | some xs, some ys => if xs.length + ys.length ≤ big then .ok (.v (.lst (xs ++ ys))) st else .bad
    | _, _ => .bad
  | _, _, _ => .bad
def opSub : Op2 := opI (fun _ _ => true) fun i j => .int (i - j)
def opMul : Op2 := opI (fun i j => (decide (-(2 ^ 64) < i) && decide (i < 2 ^ 64)) || (decide (-(2 ^ 64) < j) && decide (j < 2 ^ 64))) fun i j => .int (i * j)
def opMod : Op2 := opI (fun _ j => decide (0 < j)) fun i j => .int (i % j)
def opDiv : Op2 := opI (fun _ j => decide (0 < j) && decide (j < wide)) fun i j => .int (i / j)
def opShl : Op2 := opI (fun i j => decide (0 ≤ j) && decide (j ≤ 1000000) && decide (i.natAbs < 2 ^ 64)) fun i j => .int (i * 2 ^ j.toNat)
def opLt : Op2 := opI (fun _ _ => true) fun i j => .bl (decide (i < j))
def opLe : Op2 := opI (fun _ _ => true) fun i j => .bl (decide (i ≤ j))
def opGt : Op2 := opI (fun _ _ => true) fun i j => .bl (decide (j < i))
def opGe : Op2 := opI (fun _ _ => true) fun i j => .bl (decide (j ≤ i))

theorem pg {T : Tx} {ρ : Mp} {G H : Hp} {st : Store} {w : W} {u : V} {Q : VK} {E : XK} (p : PostR T ρ G (SlR T) (.ok (.v w) st) Q E) (r : Rel T ρ G H st) (h : Rep T G w u) : Q u H := p.give r h
theorem ops_I {T : Tx} {C : Int → Int → Prop} {C' : Int → Int → Bool} {g : Int → Int → W} {g' : Int → Int → V} (hC : ∀ i j, C' i j = true → C i j) (hg : ∀ G i j, Rep T G (g i j) (g' i j)) : OpS T (rI C g') (opI C' g) := fun ρ G H st x y u v Q E r hx hy p => by
  unfold opI at p
  split at p
  · rename_i i j
    split at p
    · rename_i hc
      unfold SlR Rep at hx hy
      subst hx hy
      exact ⟨i, j, rfl, rfl, hC i j hc, pg p r (hg G i j)⟩
    · exact p.elim
  · exact p.elim
theorem ops_I0 {T : Tx} {g : Int → Int → W} {g' : Int → Int → V} (hg : ∀ G i j, Rep T G (g i j) (g' i j)) : OpS T (rI0 g') (opI (fun _ _ => true) g) := fun ρ G H st x y u v Q E r hx hy p => by
  unfold opI at p
  split at p
  · rename_i i j
    rw [if_pos rfl] at p
    unfold SlR Rep at hx hy
    subst hx hy
    exact ⟨i, j, rfl, rfl, pg p r (hg G i j)⟩
  · exact p.elim
theorem rep_int {T : Tx} {G : Hp} {i : Int} : Rep T G (.int i) (.int i) := by unfold Rep; rfl
theorem rep_bl {T : Tx} {G : Hp} {b : Bool} : Rep T G (.bl b) (.bl b) := by unfold Rep; rfl
theorem rep_str {T : Tx} {G : Hp} {x : Str} : Rep T G (.str x) (.str x) := by unfold Rep; rfl
theorem rep_non {T : Tx} {G : Hp} : Rep T G .non .non := by unfold Rep; rfl
theorem s_sub {T : Tx} : OpS T (rI0 fun i j => .int (i - j)) opSub := ops_I0 fun _ _ _ => rep_int
theorem s_lt {T : Tx} : OpS T (rI0 fun i j => .bl (decide (i < j))) opLt := ops_I0 fun _ _ _ => rep_bl
theorem s_le {T : Tx} : OpS T (rI0 fun i j => .bl (decide (i ≤ j))) opLe := ops_I0 fun _ _ _ => rep_bl
theorem s_gt {T : Tx} : OpS T (rI0 fun i j => .bl (decide (j < i))) opGt := ops_I0 fun _ _ _ => rep_bl
theorem s_ge {T : Tx} : OpS T (rI0 fun i j => .bl (decide (j ≤ i))) opGe := ops_I0 fun _ _ _ => rep_bl
theorem s_mul {T : Tx} : OpS T (rI CMul fun i j => .int (i * j)) opMul := ops_I (fun i j h => by
  simp only [Bool.or_eq_true, Bool.and_eq_true, decide_eq_true_eq] at h; exact h) fun _ _ _ => rep_int
theorem s_mod {T : Tx} : OpS T (rI (fun _ j => 0 < j) fun i j => .int (i % j)) opMod := ops_I (fun i j h => of_decide_eq_true h) fun _ _ _ => rep_int
theorem s_div {T : Tx} : OpS T (rI CDivW fun i j => .int (i / j)) opDiv := ops_I (fun i j h => by
  simp only [Bool.and_eq_true, decide_eq_true_eq] at h; exact wide_log h.1 h.2) fun _ _ _ => rep_int
theorem s_shl {T : Tx} : OpS T (rI CPow fun i j => .int (i * 2 ^ j.toNat)) opShl := ops_I (fun i j h => by
  simp only [Bool.and_eq_true, decide_eq_true_eq] at h; exact ⟨h.1.1, h.1.2, h.2⟩) fun _ _ _ => rep_int
/-- all the sums -/
abbrev rAddStr : R2 := fun x y H Q => ∃ i j, x = .str i ∧ y = .str j ∧ i.length + j.length ≤ sizeLine ∧ Q (.str (i ++ j)) H
abbrev rAddAll (K : PySem.W.Frag) : R2 := fun x y H Q => (rI0 fun i j => V.int (i + j)) x y H Q ∨ (fun x y H Q => rAddStr x y H Q ∨ (fun x y H Q => rCatA K x y H Q ∨ rCat x y H Q) x y H Q) x y H Q
theorem op_addAll {X : Cx} : OpR X (binaryOp .Add) (rAddAll X.K) := op_add.or (op_add_str.or (op_catA.or op_cat))
theorem lst_at {T : Tx} {ρ : Mp} {G H : Hp} {st : Store} (r : Rel T ρ G H st) {n : Nat} {u : V} {xs : List W} (hs : SlR T ρ G (.l n) u) (h : st.lget n = some xs) : ∃ a vs, ρ.l[n]? = some a ∧ u = .ref a ∧ H a = some (.lst vs) ∧ Reps T G xs vs := by
  obtain ⟨a, h1, h2⟩ := hs
  obtain ⟨_, o, h3, vs, h4, h5⟩ := r.la n a _ h1 (Store.lget_of h)
  exact ⟨a, vs, h1, h2, by rw [h3, h4], h5⟩
theorem vlst_at {T : Tx} {ρ : Mp} {G H : Hp} {st : Store} (r : Rel T ρ G H st) {u : V} {xs : List W} (hs : SlR T ρ G (.v (.lst xs)) u) : ∃ a vs, u = .ref a ∧ H a = some (.lst vs) ∧ Reps T G xs vs := by
  unfold SlR Rep at hs
  obtain ⟨a, vs, h1, h2, h3⟩ := hs
  exact ⟨a, vs, h1, r.ext _ _ h2, h3⟩
theorem cat_done {T : Tx} {ρ : Mp} {G H : Hp} {st : Store} (r : Rel T ρ G H st) {a b : Addr} {xs ys : List W} {vs us : List V} {Q : VK} {E : XK} (ha : H a = some (.lst vs)) (hb : H b = some (.lst us)) (hx : Reps T G xs vs) (hy : Reps T G ys us)
    (p : PostR T ρ G (SlR T) (if xs.length + ys.length ≤ big then .ok (.v (.lst (xs ++ ys))) st else .bad) Q E) : rCat (.ref a) (.ref b) H Q := by
  split at p
  · rename_i hz
    refine ⟨a, b, vs, us, rfl, rfl, ha, hb, by rw [big_line, ← hx.length, ← hy.length]; exact hz, fun q hq => ?_⟩
    obtain ⟨f, r2⟩ := r.newG (o := .lst (vs ++ us)) hq
    exact p _ _ _ _ f r2 (by unfold SlR Rep; exact ⟨q, _, rfl, upd_same, Reps.mono f.ex _ _ (hx.append hy)⟩)
  · exact p.elim
theorem s_add {T : Tx} : OpS T (rAddAll T.K) opAdd := fun ρ G H st x y u v Q E r hx hy p => by
  unfold opAdd at p
  split at p
  · unfold SlR Rep at hx hy; subst hx hy; exact .inl ⟨_, _, rfl, rfl, pg p r rep_int⟩
  · rename_i x' y' 
    split at p
    · rename_i hz
      unfold SlR Rep at hx hy; subst hx hy; exact .inr (.inl ⟨_, _, rfl, rfl, by rw [big_line]; exact hz, pg p r rep_str⟩)
    · exact p.elim
  · rename_i xs ys
    split at p
    · rename_i hz
      have hx0 := hx
      have hy0 := hy
      unfold SlR Rep at hx hy
      obtain ⟨a, vs, rfl, ha, hvs⟩ := hx
      obtain ⟨b, us, rfl, hb, hus⟩ := hy
      refine .inr (.inr (.inl ⟨a, b, vs, us, rfl, rfl, sqt_mono r.ext ha, sqt_mono r.ext hb, by rw [big_line, ← hvs.length, ← hus.length]; exact hz, fun e => ?_, fun e e2 => ?_, fun e e2 q hq => ?_⟩))
      · have : xs = [] := List.length_eq_zero_iff.mp (by rw [hvs.length, e]; rfl)
        subst this
        exact p.give r hy0
      · have : ys = [] := List.length_eq_zero_iff.mp (by rw [hus.length, e2]; rfl)
        subst this
        rw [List.append_nil] at p
        exact p.give r hx0
      · obtain ⟨f, r2⟩ := r.newG (o := .tup (vs ++ us)) hq
        exact p _ _ _ _ f r2 (by unfold SlR Rep; exact ⟨q, _, rfl, SqT.of upd_same, Reps.mono f.ex _ _ (hvs.append hus)⟩)
    · exact p.elim
  · obtain ⟨a, vs, rfl, ha, hvs⟩ := vlst_at r hx
    obtain ⟨b, us, rfl, hb, hus⟩ := vlst_at r hy
    exact .inr (.inr (.inr (cat_done r ha hb hvs hus p)))
  · split at p
    · rename_i ys e
      obtain ⟨a, vs, rfl, ha, hvs⟩ := vlst_at r hx
      obtain ⟨b, us, _, rfl, hb, hus⟩ := lst_at r hy e
      exact .inr (.inr (.inr (cat_done r ha hb hvs hus p)))
    · exact p.elim
  · split at p
    · rename_i ys e
      obtain ⟨b, us, _, rfl, hb, hus⟩ := lst_at r hx e
      obtain ⟨a, vs, rfl, ha, hvs⟩ := vlst_at r hy
      exact .inr (.inr (.inr (cat_done r hb ha hus hvs p)))
    · exact p.elim
  · split at p
    · rename_i xs ys e1 e2
      obtain ⟨a, vs, _, rfl, ha, hvs⟩ := lst_at r hx e1
      obtain ⟨b, us, _, rfl, hb, hus⟩ := lst_at r hy e2
      exact .inr (.inr (.inr (cat_done r ha hb hvs hus p)))
    · exact p.elim
  · exact p.elim
/-! what is flat -/
def toV : W → V
  | .bl b => .bl b
  | .int i => .int i
  | .str x => .str x
  | _ => .non
def flatW : W → Bool
  | .non => true
  | .bl _ => true
  | .int _ => true
  | .str _ => true
  | _ => false
theorem flat_rep {T : Tx} {G : Hp} {w : W} {u : V} (f : flatW w = true) (h : Rep T G w u) : u = toV w := by
  cases w <;> first | (unfold Rep at h; exact h) | cases f
theorem flat_toV {w : W} (f : flatW w = true) : flatV (toV w) = true := by
  cases w <;> first | rfl | cases f
theorem flat_reps {T : Tx} {G : Hp} : ∀ {ws : List W} {us : List V}, ws.all flatW = true → Reps T G ws us → us = ws.map toV
  | [], _, _, h => by unfold Reps at h; exact h
  | w :: ws, us, f, h => by
    rw [List.all_cons, Bool.and_eq_true] at f
    unfold Reps at h
    obtain ⟨v, q, rfl, h1, h2⟩ := h
    rw [flat_rep f.1 h1, flat_reps f.2 h2, List.map_cons]
theorem flat_all {ws : List W} (f : ws.all flatW = true) : (ws.map toV).all flatV = true := by
  rw [List.all_map]
  rw [List.all_eq_true] at f ⊢
  exact fun w hw => flat_toV (f w hw)
def opIn (neg : Bool) : Op2
  | .v w, y, st => match items st y with
    | some xs => if flatW w = true ∧ xs.all flatW = true then .ok (.v (.bl (if neg then !inV (toV w) (xs.map toV) else inV (toV w) (xs.map toV)))) st else .bad
    | none => .bad
  | _, _, _ => .bad
theorem s_in {T : Tx} {neg : Bool} : OpS T (rIn T.K neg) (opIn neg) := fun ρ G H st x y u v Q E r hx hy p => by
  unfold opIn at p
  split at p
  · split at p
    · rename_i w st' xs hxs
      split at p
      · rename_i hf
        obtain ⟨a, vs, rfl, hq, hr⟩ := items_at r hy hxs
        have e1 := flat_rep hf.1 hx
        have e2 := flat_reps hf.2 hr
        subst e1 e2
        exact ⟨a, _, rfl, hq, flat_toV hf.1, flat_all hf.2, pg p r rep_bl⟩
      · exact p.elim
    · exact p.elim
  · exact p.elim
/-! is -/
def opIs (neg : Bool) : Op2
  | .v w, .v .non, st => match w with
    | .non => .ok (.v (.bl (!neg))) st
    | _ => .ok (.v (.bl neg)) st
  | .l _, .v .non, st => .ok (.v (.bl neg)) st
  | .o _, .v .non, st => .ok (.v (.bl neg)) st
  | .v (.bl a), .v (.bl b), st => .ok (.v (.bl (if neg then !decide (a = b) else decide (a = b)))) st
  | .v .non, .v (.bl _), st => .ok (.v (.bl neg)) st
  | _, _, _ => .bad
/-! subscripts -/
def opIx : Op2
  | x, .v (.int i), st => match items st x with
    | some xs => match atI xs i with
      | some w => .ok (.v w) st
      | none => .bad
    | none => match x with
      | .v (.str z) => if z.length ≤ big then (match atI z.cps.toList i with
        | some c => .ok (.v (.str ⟨#[c]⟩)) st
        | none => .bad) else .bad
      | _ => .bad
  | _, _, _ => .bad
theorem ixN_len {α β : Type} {xs : List α} {ys : List β} (h : xs.length = ys.length) {i : Int} : ixN xs.length i = ixN ys.length i := by rw [h]
theorem atI_reps {T : Tx} {G : Hp} {xs : List W} {vs : List V} {i : Int} {w : W} (h : Reps T G xs vs) (e : atI xs i = some w) : ∃ v, atI vs i = some v ∧ Rep T G w v := by
  unfold atI at e ⊢
  rw [← h.length]
  cases e1 : ixN xs.length i with
  | none => rw [e1] at e; cases e
  | some j =>
    rw [e1] at e
    obtain ⟨v, h1, h2⟩ := Reps.get' h (show xs[j]? = some w from e)
    exact ⟨v, h1, h2⟩
theorem s_ix {T : Tx} : OpS T (rIx T.K) opIx := fun ρ G H st x y u v Q E r hx hy p => by
  obtain ⟨i, rfl⟩ : ∃ i, y = .v (.int i) := by
    cases y with
    | v w => cases w <;> first | exact ⟨_, rfl⟩ | (cases x <;> exact p.elim)
    | _ => cases x <;> exact p.elim
  have hy : v = .int i := by unfold SlR Rep at hy; exact hy
  subst hy
  unfold opIx at p
  dsimp only at p
  cases hxs : items st x with
  | some xs =>
    rw [hxs] at p
    dsimp only at p
    cases hw : atI xs i with
    | some w =>
      rw [hw] at p
      obtain ⟨a, vs, rfl, hq, hr⟩ := items_at r hx hxs
      obtain ⟨v, hv, rv⟩ := atI_reps hr hw
      rcases hq with hq | hq
      · exact .inl ⟨a, vs, i, v, rfl, rfl, hq, hv, pg p r rv⟩
      · exact .inr (.inl ⟨a, vs, i, v, rfl, rfl, hq, hv, pg p r rv⟩)
    | none => rw [hw] at p; exact p.elim
  | none =>
    rw [hxs] at p
    dsimp only at p
    split at p
    · rename_i z
      split at p
      · rename_i hz
        cases hc : atI z.cps.toList i with
        | some c =>
          rw [hc] at p
          have hx : u = .str z := by unfold SlR Rep at hx; exact hx
          subst hx
          exact .inr (.inr ⟨z, i, c, rfl, rfl, by rw [big_line]; exact hz, hc, pg p r rep_str⟩)
        | none => rw [hc] at p; exact p.elim
      · exact p.elim
    · exact p.elim
/-! == -/
mutual
def toD : W → Option PyData
  | .non => some .none
  | .bl b => some (.bool b)
  | .int i => some (.int i)
  | .str x => some (.str x)
  | .tup xs => (toDs xs).map .tuple
  | .lst xs => (toDs xs).map .list
  | .ro xs => (toDs xs).map .list
  | _ => none
def toDs : List W → Option (List PyData)
  | [] => some []
  | w :: ws => match toD w, toDs ws with
    | some d, some ds => some (d :: ds)
    | _, _ => none
end
mutual
theorem toD_dp {T : Tx} {G H : Hp} (e : ∀ a o, G a = some o → H a = some o) : ∀ (w : W) (u : V) (d : PyData), toD w = some d → Rep T G w u → Dp T.K H u d
  | .non, u, d, h, r => by unfold toD at h; cases h; unfold Rep at r; subst r; exact .non
  | .bl b, u, d, h, r => by unfold toD at h; cases h; unfold Rep at r; subst r; exact .bl b
  | .int i, u, d, h, r => by unfold toD at h; cases h; unfold Rep at r; subst r; exact .int i
  | .str x, u, d, h, r => by unfold toD at h; cases h; unfold Rep at r; subst r; exact .str x
  | .tup xs, u, d, h, r => by
    unfold toD at h; obtain ⟨ds, h1, rfl⟩ := Option.map_eq_some_iff.mp h
    unfold Rep at r; obtain ⟨a, vs, rfl, h2, h3⟩ := r
    exact .tup (sqt_mono e h2) (toDs_dp e xs vs ds h1 h3)
  | .lst xs, u, d, h, r => by
    unfold toD at h; obtain ⟨ds, h1, rfl⟩ := Option.map_eq_some_iff.mp h
    unfold Rep at r; obtain ⟨a, vs, rfl, h2, h3⟩ := r
    exact .lst (SqL.of (e _ _ h2)) (toDs_dp e xs vs ds h1 h3)
  | .ro xs, u, d, h, r => by
    unfold toD at h; obtain ⟨ds, h1, rfl⟩ := Option.map_eq_some_iff.mp h
    unfold Rep at r; obtain ⟨a, vs, rfl, h2, h3⟩ := r
    exact .lst (sql_mono e h2) (toDs_dp e xs vs ds h1 h3)
  | .dct _ _, u, d, h, r => by unfold toD at h; cases h
  | .ins _ _ _, u, d, h, r => by unfold toD at h; cases h
theorem toDs_dp {T : Tx} {G H : Hp} (e : ∀ a o, G a = some o → H a = some o) : ∀ (ws : List W) (us : List V) (ds : List PyData), toDs ws = some ds → Reps T G ws us → DpAll T.K H us ds
  | [], us, ds, h, r => by unfold toDs at h; cases h; unfold Reps at r; subst r; exact .nil
  | w :: ws, us, ds, h, r => by
    unfold toDs at h
    split at h
    · rename_i d ds' h1 h2
      cases h
      unfold Reps at r; obtain ⟨v, q, rfl, h3, h4⟩ := r
      exact .cons (toD_dp e w v d h1 h3) (toDs_dp e ws q ds' h2 h4)
    · cases h
end
/-- the data of a slot -/
def datum (st : Store) : Sl → Option PyData
  | .v w => toD w
  | .l n => match st.lget n with
    | some xs => (toDs xs).map .list
    | none => none
  | .o _ => none
theorem datum_dp {T : Tx} {ρ : Mp} {G H : Hp} {st : Store} (r : Rel T ρ G H st) {s : Sl} {u : V} {d : PyData} (hs : SlR T ρ G s u) (h : datum st s = some d) : Dp T.K H u d := by
  cases s with
  | v w => exact toD_dp r.ext w u d h hs
  | l n =>
    unfold datum at h
    dsimp only at h
    split at h
    · rename_i xs e
      obtain ⟨ds, h1, rfl⟩ := Option.map_eq_some_iff.mp h
      obtain ⟨a, vs, _, rfl, ha, hr⟩ := lst_at r hs e
      exact .lst (SqL.of ha) (toDs_dp r.ext xs vs ds h1 hr)
    · cases h
  | o n => cases h
def opEq (neg : Bool) : Op2
  | .v (.int i), .v (.int j), st => .ok (.v (.bl (if neg then !decide (i = j) else decide (i = j)))) st
  | .v (.str i), .v (.str j), st => .ok (.v (.bl (if neg then !decide (i = j) else decide (i = j)))) st
  | x, y, st => match datum st x, datum st y with
    | some d, some e => if SeqAt.shaped d = true ∧ SeqAt.shaped e = true then .ok (.v (.bl (if neg then !PyData.eqv d e else PyData.eqv d e))) st else .bad
    | _, _ => .bad
abbrev rEqAll (K : PySem.W.Frag) : R2 := fun x y H Q => rEq x y H Q ∨ rEqD K x y H Q
abbrev rNeAll (K : PySem.W.Frag) : R2 := fun x y H Q => rNe x y H Q ∨ rNeD K x y H Q
theorem op_eqAll {X : Cx} (hu : X.A.units + 64 < cLine) : OpR X (compareOp .Eq) (rEqAll X.K) := op_eq.or (op_eqD hu)
theorem op_neAll {X : Cx} (hu : X.A.units + 64 < cLine) : OpR X (compareOp .NotEq) (rNeAll X.K) := op_ne.or (op_neD hu)
theorem s_eq {T : Tx} : OpS T (rEqAll T.K) (opEq false) := fun ρ G H st x y u v Q E r hx hy p => by
  unfold opEq at p
  split at p
  · unfold SlR Rep at hx hy; subst hx hy
    refine .inl ⟨rfl, ?_⟩
    have := pg p r rep_bl
    simpa [V.int.injEq] using this
  · unfold SlR Rep at hx hy; subst hx hy
    refine .inl ⟨rfl, ?_⟩
    have := pg p r rep_bl
    simpa [V.str.injEq] using this
  · split at p
    · rename_i d e h1 h2
      split at p
      · rename_i hs
        exact .inr ⟨d, e, datum_dp r hx h1, datum_dp r hy h2, hs.1, hs.2, pg p r rep_bl⟩
      · exact p.elim
    · exact p.elim
theorem s_ne {T : Tx} : OpS T (rNeAll T.K) (opEq true) := fun ρ G H st x y u v Q E r hx hy p => by
  unfold opEq at p
  split at p
  · unfold SlR Rep at hx hy; subst hx hy
    refine .inl ⟨rfl, ?_⟩
    have := pg p r rep_bl
    simpa [V.int.injEq] using this
  · unfold SlR Rep at hx hy; subst hx hy
    refine .inl ⟨rfl, ?_⟩
    have := pg p r rep_bl
    simpa [V.str.injEq] using this
  · split at p
    · rename_i d e h1 h2
      split at p
      · rename_i hs
        exact .inr ⟨d, e, datum_dp r hx h1, datum_dp r hy h2, hs.1, hs.2, pg p r rep_bl⟩
      · exact p.elim
    · exact p.elim
end Mz

set_option Elab.async false
set_option linter.all false
set_option maxRecDepth 100000
set_option maxHeartbeats 4000000
namespace Mz
open PySem PySem.Spec PyProof.Rows L2

/-! ## 11. built-in calls -/
def fLen : MF
  | [x], st => match items st x with
    | some xs => .ok (.v (.int xs.length)) st
    | none => match x with
      | .v (.str z) => if z.length ≤ big then .ok (.v (.int z.length)) st else .bad
      | _ => .bad
  | _, _ => .bad
abbrev rLenAll (K : PySem.W.Frag) : List V → Hp → VK → Prop := fun xs H Q => (∃ p ys, xs = [.ref p] ∧ (SqL K H p ys ∨ SqT K H p ys) ∧ Q (.int ys.length) H) ∨ (∃ z, xs = [.str z] ∧ z.length ≤ sizeLine ∧ Q (.int z.length) H)
theorem c_len {X : Cx} : CallR X (.builtin "len") (rLenAll X.K) := call_len_seq.or call_len_str
theorem s_len {T : Tx} : CaS T (rLenAll T.K) fLen := fun ρ G H st xs us Q E r hs p => by
  unfold fLen at p
  split at p
  · rename_i x
    obtain ⟨u, rfl, hx⟩ := slrs1 hs
    split at p
    · rename_i ys e
      obtain ⟨a, vs, rfl, hq, hr⟩ := items_at r hx e
      exact .inl ⟨a, vs, rfl, hq, by rw [← hr.length]; exact pg p r rep_int⟩
    · split at p
      · rename_i z _
        split at p
        · rename_i hz
          unfold SlR Rep at hx; subst hx
          exact .inr ⟨z, rfl, by rw [big_line]; exact hz, pg p r rep_int⟩
        · exact p.elim
      · exact p.elim
  · exact p.elim
def fInt : MF
  | [.v (.int i)], st => .ok (.v (.int i)) st
  | [.v (.bl b)], st => .ok (.v (.int (if b then 1 else 0))) st
  | _, _ => .bad
abbrev rInt1 : List V → Hp → VK → Prop := fun xs H Q => (∃ i, xs = [.int i] ∧ Q (.int i) H) ∨ ∃ k, xs = [.bl k] ∧ Q (.int (if k then 1 else 0)) H
theorem s_int {T : Tx} : CaS T rInt1 fInt := fun ρ G H st xs us Q E r hs p => by
  unfold fInt at p
  split at p
  · obtain ⟨u, rfl, hx⟩ := slrs1 hs
    unfold SlR Rep at hx; subst hx
    exact .inl ⟨_, rfl, pg p r rep_int⟩
  · obtain ⟨u, rfl, hx⟩ := slrs1 hs
    unfold SlR Rep at hx; subst hx
    exact .inr ⟨_, rfl, pg p r rep_int⟩
  · exact p.elim
def fAbs : MF
  | [.v (.int i)], st => .ok (.v (.int (if i < 0 then -i else i))) st
  | _, _ => .bad
theorem s_abs {T : Tx} : CaS T (fun xs H Q => ∃ i, xs = [.int i] ∧ Q (.int (if i < 0 then -i else i)) H) fAbs := fun ρ G H st xs us Q E r hs p => by
  unfold fAbs at p
  split at p
  · obtain ⟨u, rfl, hx⟩ := slrs1 hs
    unfold SlR Rep at hx; subst hx
    exact ⟨_, rfl, pg p r rep_int⟩
  · exact p.elim
def fMax2 : MF
  | [.v (.int i), .v (.int j)], st => .ok (.v (.int (if j > i then j else i))) st
  | _, _ => .bad
theorem s_max2 {T : Tx} : CaS T (fun xs H Q => ∃ i j, xs = [.int i, .int j] ∧ Q (.int (if j > i then j else i)) H) fMax2 := fun ρ G H st xs us Q E r hs p => by
  unfold fMax2 at p
  split at p
  · obtain ⟨u, v, rfl, hx, hy⟩ := slrs2 hs
    unfold SlR Rep at hx hy; subst hx hy
    exact ⟨_, _, rfl, pg p r rep_int⟩
  · exact p.elim
def fMin2 : MF
  | [.v (.int i), .v (.int j)], st => .ok (.v (.int (if j < i then j else i))) st
  | _, _ => .bad
theorem s_min2 {T : Tx} : CaS T (fun xs H Q => ∃ i j, xs = [.int i, .int j] ∧ Q (.int (if j < i then j else i)) H) fMin2 := fun ρ G H st xs us Q E r hs p => by
  unfold fMin2 at p
  split at p
  · obtain ⟨u, v, rfl, hx, hy⟩ := slrs2 hs
    unfold SlR Rep at hx hy; subst hx hy
    exact ⟨_, _, rfl, pg p r rep_int⟩
  · exact p.elim
def intsOf : List W → Option (List Int)
  | [] => some []
  | .int i :: r => (intsOf r).map (i :: ·)
  | _ => none
theorem ints_rep {T : Tx} {G : Hp} : ∀ {ws : List W} {ns : List Int} {us : List V}, intsOf ws = some ns → Reps T G ws us → us = ns.map V.int
  | [], ns, us, h, r => by cases h; unfold Reps at r; exact r
  | w :: ws, ns, us, h, r => by
    cases w with
    | int i =>
      unfold intsOf at h
      obtain ⟨ms, h1, rfl⟩ := Option.map_eq_some_iff.mp h
      unfold Reps at r
      obtain ⟨v, q, rfl, h2, h3⟩ := r
      unfold Rep at h2
      rw [h2, ints_rep h1 h3, List.map_cons]
    | _ => cases h
theorem intsOf_map (ns : List Int) : intsOf (ns.map W.int) = some ns := by
  induction ns with
  | nil => rfl
  | cons n ns ih => show (intsOf (ns.map W.int)).map (n :: ·) = _; rw [ih]; rfl
def bsOf : List W → Option (List Bool)
  | [] => some []
  | .bl i :: r => (bsOf r).map (i :: ·)
  | _ => none
theorem bs_rep {T : Tx} {G : Hp} : ∀ {ws : List W} {ns : List Bool} {us : List V}, bsOf ws = some ns → Reps T G ws us → us = ns.map V.bl
  | [], ns, us, h, r => by cases h; unfold Reps at r; exact r
  | w :: ws, ns, us, h, r => by
    cases w with
    | bl i =>
      unfold bsOf at h
      obtain ⟨ms, h1, rfl⟩ := Option.map_eq_some_iff.mp h
      unfold Reps at r
      obtain ⟨v, q, rfl, h2, h3⟩ := r
      unfold Rep at h2
      rw [h2, bs_rep h1 h3, List.map_cons]
    | _ => cases h
theorem bsOf_map (ns : List Bool) : bsOf (ns.map W.bl) = some ns := by
  induction ns with
  | nil => rfl
  | cons n ns ih => show (bsOf (ns.map W.bl)).map (n :: ·) = _; rw [ih]; rfl
def fSum : MF
  | [x], st => match litems st x with
    | some xs => match intsOf xs with
      | some ns => .ok (.v (.int ns.sum)) st
      | none => .bad
    | none => .bad
  | _, _ => .bad
theorem s_sum {T : Tx} : CaS T (rSum T.K) fSum := fun ρ G H st xs us Q E r hs p => by
  unfold fSum at p
  split at p
  · obtain ⟨u, rfl, hx⟩ := slrs1 hs
    split at p
    · rename_i ys e
      split at p
      · rename_i ns e2
        obtain ⟨a, vs, rfl, hq, hr⟩ := litems_at r hx e
        rw [ints_rep e2 hr] at hq
        exact ⟨a, ns, rfl, hq, pg p r rep_int⟩
      · exact p.elim
    · exact p.elim
  · exact p.elim
def maxOf : List Int → Int
  | [] => 0
  | [x] => x
  | x :: xs => if maxOf xs < x then x else maxOf xs
theorem maxOf_is : ∀ {ns : List Int} {m : Int}, m ∈ ns → (∀ y, y ∈ ns → y ≤ m) → m = maxOf ns
  | [], m, h, _ => by cases h
  | [x], m, h, _ => by simp at h; exact h
  | x :: y :: r, m, h, g => by
    show m = if maxOf (y :: r) < x then x else maxOf (y :: r)
    have hx := g x List.mem_cons_self
    have hin : ∀ (ns : List Int), ns ≠ [] → maxOf ns ∈ ns := by
      intro ns
      induction ns with
      | nil => intro h; exact absurd rfl h
      | cons a l ih =>
        intro _
        cases l with
        | nil => simp [maxOf]
        | cons b l' =>
          show (if maxOf (b :: l') < a then a else maxOf (b :: l')) ∈ a :: b :: l'
          split
          · exact List.mem_cons_self
          · exact List.mem_cons_of_mem _ (ih (by simp))
    have hr := g _ (List.mem_cons_of_mem x (hin (y :: r) (by simp)))
    rcases List.mem_cons.mp h with e | e
    · subst e
      split
      · rfl
      · omega
    · have e2 := maxOf_is e (fun z hz => g z (List.mem_cons_of_mem x hz))
      split
      · omega
      · exact e2
def fMaxL : MF
  | [x], st => match litems st x with
    | some xs => match intsOf xs with
      | some ns => if 0 < ns.length then .ok (.v (.int (maxOf ns))) st else .bad
      | none => .bad
    | none => .bad
  | _, _ => .bad
theorem s_maxL {T : Tx} : CaS T (rMax T.K) fMaxL := fun ρ G H st xs us Q E r hs p => by
  unfold fMaxL at p
  split at p
  · obtain ⟨u, rfl, hx⟩ := slrs1 hs
    split at p
    · rename_i ys e
      split at p
      · rename_i ns e2
        split at p
        · rename_i h0
          obtain ⟨a, vs, rfl, hq, hr⟩ := litems_at r hx e
          rw [ints_rep e2 hr] at hq
          exact ⟨a, ns, rfl, hq, h0, fun m hm hg => by rw [maxOf_is hm hg]; exact pg p r rep_int⟩
        · exact p.elim
      · exact p.elim
    · exact p.elim
  · exact p.elim
def fAll (f : List Bool → Bool) : MF
  | [x], st => match litems st x with
    | some xs => match bsOf xs with
      | some ns => .ok (.v (.bl (f ns))) st
      | none => .bad
    | none => .bad
  | _, _ => .bad
theorem s_all {T : Tx} : CaS T (rAll T.K) (fAll fun bs => bs.all id) := fun ρ G H st xs us Q E r hs p => by
  unfold fAll at p
  split at p
  · obtain ⟨u, rfl, hx⟩ := slrs1 hs
    split at p
    · rename_i ys e
      split at p
      · rename_i ns e2
        obtain ⟨a, vs, rfl, hq, hr⟩ := litems_at r hx e
        rw [bs_rep e2 hr] at hq
        exact ⟨a, ns, rfl, hq, pg p r rep_bl⟩
      · exact p.elim
    · exact p.elim
  · exact p.elim
theorem s_any {T : Tx} : CaS T (rAny T.K) (fAll fun bs => bs.any id) := fun ρ G H st xs us Q E r hs p => by
  unfold fAll at p
  split at p
  · obtain ⟨u, rfl, hx⟩ := slrs1 hs
    split at p
    · rename_i ys e
      split at p
      · rename_i ns e2
        obtain ⟨a, vs, rfl, hq, hr⟩ := litems_at r hx e
        rw [bs_rep e2 hr] at hq
        exact ⟨a, ns, rfl, hq, pg p r rep_bl⟩
      · exact p.elim
    · exact p.elim
  · exact p.elim
/-! list(x), tuple(x) -/
def fList : MF
  | [x], st => match items st x with
    | some xs => .ok (.v (.lst xs)) st
    | none => .bad
  | _, _ => .bad
def fListM : MF
  | [x], st => match items st x with
    | some xs => .ok (.l st.l.length) (st.push (.lst xs))
    | none => .bad
  | _, _ => .bad
abbrev rListAll (K : PySem.W.Frag) : List V → Hp → VK → Prop := fun xs H Q => ∃ p ys, xs = [.ref p] ∧ (SqL K H p ys ∨ SqT K H p ys) ∧ ∀ l, H l = none → Q (.ref l) (upd H l (.lst ys))
theorem s_list {T : Tx} : CaS T (rListAll T.K) fList := fun ρ G H st xs us Q E r hs p => by
  unfold fList at p
  split at p
  · obtain ⟨u, rfl, hx⟩ := slrs1 hs
    split at p
    · rename_i ys e
      obtain ⟨a, vs, rfl, hq, hr⟩ := items_at r hx e
      refine ⟨a, vs, rfl, hq, fun q hq => ?_⟩
      obtain ⟨f, r2⟩ := r.newG (o := .lst vs) hq
      exact p _ _ _ _ f r2 (by unfold SlR Rep; exact ⟨q, _, rfl, upd_same, Reps.mono f.ex _ _ hr⟩)
    · exact p.elim
  · exact p.elim
theorem s_listM {T : Tx} : CaS T (rListAll T.K) fListM := fun ρ G H st xs us Q E r hs p => by
  unfold fListM at p
  split at p
  · obtain ⟨u, rfl, hx⟩ := slrs1 hs
    split at p
    · rename_i ys e
      obtain ⟨a, vs, rfl, hq, hr⟩ := items_at r hx e
      refine ⟨a, vs, rfl, hq, fun q hq => ?_⟩
      obtain ⟨f, r2⟩ := r.newL (o := .lst vs) (x := .lst ys) hq ⟨vs, rfl, hr⟩
      exact p _ _ _ _ f r2 ⟨q, by show (ρ.l ++ [q])[st.l.length]? = some q; rw [← r.ll]; simp, rfl⟩
    · exact p.elim
  · exact p.elim
def fTuple : MF
  | [.v (.tup xs)], st => .ok (.v (.tup xs)) st
  | [x], st => match litems st x with
    | some xs => .ok (.v (.tup xs)) st
    | none => .bad
  | _, _ => .bad
abbrev rTupAll (K : PySem.W.Frag) : List V → Hp → VK → Prop := fun xs H Q => ∃ p ys, xs = [.ref p] ∧ ((SqL K H p ys ∧ ∀ l, H l = none → Q (.ref l) (upd H l (.tup ys))) ∨ (SqT K H p ys ∧ Q (.ref p) H))
theorem s_tuple {T : Tx} : CaS T (rTupAll T.K) fTuple := fun ρ G H st xs us Q E r hs p => by
  unfold fTuple at p
  split at p
  · obtain ⟨u, rfl, hx⟩ := slrs1 hs
    have hx0 := hx
    unfold SlR Rep at hx
    obtain ⟨a, vs, rfl, hq, hr⟩ := hx
    exact ⟨a, vs, rfl, .inr ⟨sqt_mono r.ext hq, p.give r hx0⟩⟩
  · obtain ⟨u, rfl, hx⟩ := slrs1 hs
    split at p
    · rename_i ys e
      obtain ⟨a, vs, rfl, hq, hr⟩ := litems_at r hx e
      refine ⟨a, vs, rfl, .inl ⟨hq, fun q hq => ?_⟩⟩
      obtain ⟨f, r2⟩ := r.newG (o := .tup vs) hq
      exact p _ _ _ _ f r2 (by unfold SlR Rep; exact ⟨q, _, rfl, SqT.of upd_same, Reps.mono f.ex _ _ hr⟩)
    · exact p.elim
  · exact p.elim
/-! is, is not -/
def opIsN (neg : Bool) : Op2
  | .v .non, .v .non, st => .ok (.v (.bl (!neg))) st
  | _, .v .non, st => .ok (.v (.bl neg)) st
  | .v (.bl a), .v (.bl b), st => .ok (.v (.bl (if neg then !decide (a = b) else decide (a = b)))) st
  | _, .v (.bl _), st => .ok (.v (.bl neg)) st
  | _, _, _ => .bad
def rIsO (c : Bool) : R2 := fun x y H Q => ∃ b, y = .bl b ∧ (∀ a, x ≠ .bl a) ∧ Q (.bl c) H
theorem relV_notbl {x : V} {v : Value} (h : L2.RelV x v) (hx : ∀ a, x ≠ .bl a) (b : Bool) : plainIs v (.bool b) = true ∧ v ≠ .bool b := by
  cases x <;> unfold L2.RelV at h <;> first | exact absurd rfl (hx _) | (cases h; exact ⟨rfl, fun e => by cases e⟩) | (obtain ⟨t, rfl⟩ := h; exact ⟨rfl, fun e => by cases e⟩)
theorem op_isO {X : Cx} : OpR X (compareOp .Is) (rIsO false) := by
  intro pins s σ H x y v u Q I rx ry h
  obtain ⟨b, rfl, hx, q⟩ := h
  cases (show u = Value.bool b from ry)
  obtain ⟨h1, h2⟩ := relV_notbl rx hx b
  exact wpAny_is_other h1 h2 ⟨.bl false, H, I, rfl, q⟩
theorem op_notO {X : Cx} : OpR X (compareOp .IsNot) (rIsO true) := by
  intro pins s σ H x y v u Q I rx ry h
  obtain ⟨b, rfl, hx, q⟩ := h
  cases (show u = Value.bool b from ry)
  obtain ⟨h1, h2⟩ := relV_notbl rx hx b
  exact wpAny_isNot_other h1 h2 ⟨.bl true, H, I, rfl, q⟩
abbrev rIsN : R2 := fun x y H Q => y = .non ∧ Q (.bl (decide (x = .non))) H
abbrev rNotN : R2 := fun x y H Q => y = .non ∧ Q (.bl (!decide (x = .non))) H
theorem op_isAll {X : Cx} : OpR X (compareOp .Is) (fun x y H Q => rIsN x y H Q ∨ rIsB x y H Q ∨ rIsO false x y H Q) := op_isN.or (op_isBl.or op_isO)
theorem op_notAll {X : Cx} : OpR X (compareOp .IsNot) (fun x y H Q => rNotN x y H Q ∨ rNotB x y H Q ∨ rIsO true x y H Q) := op_notN.or (op_notBl.or op_notO)
theorem slr_not_non {T : Tx} {ρ : Mp} {G : Hp} {x : Sl} {u : V} (h : SlR T ρ G x u) (hx : x ≠ .v .non) : u ≠ .non := by
  intro e
  subst e
  cases x with
  | v w =>
    cases w <;> unfold SlR Rep at h <;> first | exact hx rfl | (cases h; done) | (obtain ⟨_, _, h, _⟩ := h; cases h; done) | (obtain ⟨_, _, _, h, _⟩ := h; cases h)
  | l n => obtain ⟨_, _, h⟩ := h; cases h
  | o n => obtain ⟨_, _, h⟩ := h; cases h
theorem slr_not_bl {T : Tx} {ρ : Mp} {G : Hp} {x : Sl} {u : V} (h : SlR T ρ G x u) (hx : ∀ a, x = .v (.bl a) → False) : ∀ a, u ≠ .bl a := by
  intro a e
  subst e
  cases x with
  | v w =>
    cases w <;> unfold SlR Rep at h <;> first | exact hx _ rfl | (cases h; done) | (obtain ⟨_, _, h, _⟩ := h; cases h; done) | (obtain ⟨_, _, _, h, _⟩ := h; cases h)
  | l n => obtain ⟨_, _, h⟩ := h; cases h
  | o n => obtain ⟨_, _, h⟩ := h; cases h
theorem s_is {T : Tx} : OpS T (fun x y H Q => rIsN x y H Q ∨ rIsB x y H Q ∨ rIsO false x y H Q) (opIsN false) := fun ρ G H st x y u v Q E r hx hy p => by
  unfold opIsN at p
  split at p
  · unfold SlR Rep at hx hy; subst hx hy
    exact .inl ⟨rfl, pg p r rep_bl⟩
  · rename_i hne
    unfold SlR Rep at hy; subst hy
    have := slr_not_non hx hne
    exact .inl ⟨rfl, by rw [decide_eq_false this]; exact pg p r rep_bl⟩
  · unfold SlR Rep at hx hy; subst hx hy
    exact .inr (.inl ⟨_, _, rfl, rfl, pg p r rep_bl⟩)
  · rename_i hne
    unfold SlR Rep at hy; subst hy
    exact .inr (.inr ⟨_, rfl, slr_not_bl hx hne, pg p r rep_bl⟩)
  · exact p.elim
theorem s_isnot {T : Tx} : OpS T (fun x y H Q => rNotN x y H Q ∨ rNotB x y H Q ∨ rIsO true x y H Q) (opIsN true) := fun ρ G H st x y u v Q E r hx hy p => by
  unfold opIsN at p
  split at p
  · unfold SlR Rep at hx hy; subst hx hy
    exact .inl ⟨rfl, pg p r rep_bl⟩
  · rename_i hne
    unfold SlR Rep at hy; subst hy
    have := slr_not_non hx hne
    exact .inl ⟨rfl, by rw [decide_eq_false this]; exact pg p r rep_bl⟩
  · unfold SlR Rep at hx hy; subst hx hy
    exact .inr (.inl ⟨_, _, rfl, rfl, pg p r rep_bl⟩)
  · rename_i hne
    unfold SlR Rep at hy; subst hy
    exact .inr (.inr ⟨_, rfl, slr_not_bl hx hne, pg p r rep_bl⟩)
  · exact p.elim
/-! -x -/
def opNeg : Sl → Store → Res Sl
  | .v (.int i), st => .ok (.v (.int (-i))) st
  | _, _ => .bad
theorem s_neg {T : Tx} : UnS T (rU fun i => .int (-i)) opNeg := fun ρ G H st x u Q E r hx p => by
  unfold opNeg at p
  split at p
  · unfold SlR Rep at hx; subst hx; exact ⟨_, rfl, pg p r rep_int⟩
  · exact p.elim
/-! isinstance with a built-in class -/
def tyName (st : Store) : Sl → Option String
  | .v .non => some "NoneType"
  | .v (.bl _) => some "bool"
  | .v (.int _) => some "int"
  | .v (.str _) => some "str"
  | .v (.tup _) => some "tuple"
  | .v (.lst _) => some "list"
  | .v (.dct _ _) => some "dict"
  | .l n => match st.l[n]? with
    | some (.lst _) => some "list"
    | some (.dct _ _) => some "dict"
    | _ => none
  | _ => none
theorem tyName_at {T : Tx} {ρ : Mp} {G H : Hp} {st : Store} (r : Rel T ρ G H st) {s : Sl} {u : V} {t : String} (hs : SlR T ρ G s u) (h : tyName st s = some t) : ∃ t', TyX T.K H u t' ∧ t' = .type t := by
  cases s with
  | v w =>
    cases w with
    | non => cases h; unfold SlR Rep at hs; subst hs; exact ⟨_, .base .non, rfl⟩
    | bl b => cases h; unfold SlR Rep at hs; subst hs; exact ⟨_, .base (.bl b), rfl⟩
    | int b => cases h; unfold SlR Rep at hs; subst hs; exact ⟨_, .base (.int b), rfl⟩
    | str b => cases h; unfold SlR Rep at hs; subst hs; exact ⟨_, .base (.str b), rfl⟩
    | lst xs => cases h; unfold SlR Rep at hs; obtain ⟨a, vs, rfl, h1, _⟩ := hs; exact ⟨_, .base (.lst (r.ext _ _ h1)), rfl⟩
    | dct ks ws => cases h; unfold SlR Rep at hs; obtain ⟨a, vs, rfl, h1, _⟩ := hs; exact ⟨_, .base (.dK (r.ext _ _ h1)), rfl⟩
    | tup xs =>
      cases h; unfold SlR Rep at hs; obtain ⟨a, vs, rfl, h1, _⟩ := hs
      rcases sqt_mono r.ext h1 with (h1 | ⟨o, h1⟩) | ⟨us, hu⟩
      · exact ⟨_, .base (.tup h1), rfl⟩
      · exact ⟨_, .fTuple h1, rfl⟩
      · obtain ⟨n, o, h1, h2, _⟩ := hu
        exact ⟨_, .kTuple h1 h2, rfl⟩
    | _ => cases h
  | l n =>
    unfold tyName at h
    dsimp only at h
    split at h
    · rename_i xs e
      cases h
      obtain ⟨a, h1, rfl⟩ := hs
      obtain ⟨_, o, h3, vs, rfl, h5⟩ := r.la n a _ h1 e
      exact ⟨_, .base (.lst h3), rfl⟩
    · rename_i xs e e2
      cases h
      obtain ⟨a, h1, rfl⟩ := hs
      obtain ⟨_, o, h3, vs, rfl, h5⟩ := r.la n a _ h1 e2
      exact ⟨_, .base (.dK h3), rfl⟩
    · cases h
  | o n => cases h
def mIsTy (t : String) (a : ME) : ME := fun env st => (a env st).bind fun x st1 => match tyName st1 x with
  | some n => match kitB n t with
    | some b => .ok (.v (.bl b)) st1
    | none => .bad
  | none => .bad
section
variable {X : Cx} {cl : Nat → Addr} {Wx : WX} {e : Expr} {me : ME} {pos p p2 : Pos} {x : Str} {t : String}
theorem ie_isTy (he : IE X cl Wx e me) (hg : Gl X "isinstance") (hm : X.mg "isinstance" = none) (hg2 : Gl X x) (hm2 : X.mg x = none) (hv2 : bootBuiltins x = some (.type t)) (hv : bootBuiltins "isinstance" = some (.builtin "isinstance") := by decide +kernel) (hn2 : x ≠ "__name__" := by decide) (hd2 : (x == ("__debug__" : Str)) = false := by decide)
    (hs : starEach (e :: [.Name x p2]) X.env = (false, eval e X.env) :: starEach [.Name x p2] X.env := by rfl) (hs2 : starEach [.Name x p2] X.env = (false, eval (.Name x p2) X.env) :: starEach [] X.env := by rfl) (hpl : (backTo pos (starEach [.Name x p2] X.env)).any (·.1) = false := by rfl) :
    IE X cl Wx (.Call (.Name "isinstance" p) [e, .Name x p2] [] pos) (mIsTy t me) :=
  pe_weak (pe_callB call_isi hg hm hv (pa_cons he (pa_cons (pe_bltn (v := .ty t) hg2 hm2 hv2 rfl hn2 hd2) pa_nil hs2) hs) (by decide) (by decide) hs hpl) fun σ H Q ⟨env, ρ, G, st, rel, er, q⟩ =>
    ⟨env, ρ, G, st, rel, er, PostR.bind (R1 := Mz.SlR ⟨X.K, cl⟩) q fun y st1 ρ1 G1 H1 u f1 r1 s1 p1 => by
      split at p1
      · rename_i n hn
        split at p1
        · rename_i b hb
          obtain ⟨t', h1, rfl⟩ := tyName_at r1 s1 hn
          exact ⟨u, .ty t, _, _, b, rfl, .ty t, h1, kit_ty hb, pg p1 r1 rep_bl⟩
        · exact p1.elim
      · exact p1.elim⟩
end

/-! ## 12. methods of lists, stores, slices -/
/-- a method that changes the list at n: what it hands back, what the list is behind -/
abbrev LM := List W → List Sl → Option (W × List W)
def mLm (f : LM) (o : ME) (a : MA) : ME := fun env st => (o env st).bind fun x st1 => match x with
  | .l n => match st1.lget n with
    | some _ => (a env st1).bind fun ys st2 => match st2.lget n with
      | some xs => match f xs ys with
        | some (w, zs) => .ok (.v w) (st2.setl n (.lst zs))
        | none => .bad
      | none => .bad
    | none => .bad
  | _ => .bad
def LmS (T : Tx) (r : V → List V → Hp → VK → Prop) (f : LM) : Prop := ∀ ρ G a H vs xs ys us w zs Q, H a = some (.lst vs) → Reps T G xs vs → SlRs T ρ G ys us → f xs ys = some (w, zs) →
  (∀ v vs', Rep T G w v → Reps T G zs vs' → Q v (upd H a (.lst vs'))) → r (.ref a) us H Q
def lmAppend : LM
  | xs, [.v w] => if xs.length < big then some (.non, xs ++ [w]) else none
  | _, _ => none
def lmInsert : LM
  | xs, [.v (.int i), .v w] => if xs.length < big ∧ 0 ≤ i ∧ i < 2 ^ 63 then some (.non, xs.take i.toNat ++ [w] ++ xs.drop i.toNat) else none
  | _, _ => none
def lmPopAt : LM
  | xs, [.v (.int i)] => if -(2 ^ 63) ≤ i ∧ i < 2 ^ 63 then (match seqIndex? i xs.length with
    | some k => match xs[k]? with
      | some w => some (w, xs.eraseIdx k)
      | none => none
    | none => none) else none
  | _, _ => none
theorem lm_append {T : Tx} : LmS T rAppend lmAppend := fun ρ G a H vs xs ys us w zs Q ha hr hs e k => by
  unfold lmAppend at e
  split at e
  · split at e
    · rename_i hz
      cases e
      obtain ⟨u, rfl, hu⟩ := slrs1 hs
      exact ⟨a, vs, u, rfl, rfl, ha, by rw [big_line, ← hr.length]; exact hz, k _ _ rep_non (hr.append (Reps.cons hu Reps.nil))⟩
    · cases e
  · cases e
abbrev rInsert : V → List V → Hp → VK → Prop := fun x vs H Q => ∃ (l : Addr) (xs : List V) (i : Int) (y : V), x = .ref l ∧ vs = [.int i, y] ∧ H l = some (.lst xs) ∧ xs.length < sizeLine ∧ 0 ≤ i ∧ i < 2 ^ 63 ∧
    Q .non (upd H l (.lst (xs.take i.toNat ++ [y] ++ xs.drop i.toNat)))
theorem lm_insert {T : Tx} : LmS T rInsert lmInsert := fun ρ G a H vs xs ys us w zs Q ha hr hs e k => by
  unfold lmInsert at e
  split at e
  · split at e
    · rename_i hz
      cases e
      obtain ⟨u, v, rfl, hu, hv⟩ := slrs2 hs
      unfold SlR Rep at hu; subst hu
      exact ⟨a, vs, _, v, rfl, rfl, ha, by rw [big_line, ← hr.length]; exact hz.1, hz.2.1, hz.2.2, k _ _ rep_non (((hr.take _).append (Reps.cons hv Reps.nil)).append (hr.drop _))⟩
    · cases e
  · cases e
theorem lm_popAt {T : Tx} : LmS T rPopAt lmPopAt := fun ρ G a H vs xs ys us w zs Q ha hr hs e k => by
  unfold lmPopAt at e
  split at e
  · split at e
    · rename_i i hz
      split at e
      · rename_i j hj
        split at e
        · rename_i w' hw
          cases e
          obtain ⟨u, rfl, hu⟩ := slrs1 hs
          unfold SlR Rep at hu; subst hu
          obtain ⟨v, hv, rv⟩ := Reps.get' hr hw
          exact ⟨a, vs, i, j, v, rfl, rfl, ha, hz.1, hz.2, by rw [← hr.length]; exact hj, hv, k _ _ rv (hr.eraseIdx j)⟩
        · cases e
      · cases e
    · cases e
  · cases e
section
variable {X : Cx} {cl : Nat → Addr} {Wx : WX} {o e i : Expr} {es : List Expr} {mo me mi : ME} {ma : MA} {name : Str} {apos cpos pos : Pos} {id : String} {r : V → List V → Hp → VK → Prop}
theorem ie_lm {f : LM} (hs : LmS ⟨X.K, cl⟩ r f) (slot : Slot "list" name id) (hty : typeOf (.builtin id) = pure (.type "method_descriptor")) (hm : MtR X id r) (ho : IE X cl Wx o mo) (ha : IA X cl Wx (e :: es) ma)
    (hbase : attributeBase o name X.env (eval o X.env) = eval o X.env := by rfl)
    (hfew : ((backTo cpos (starEach (e :: es) X.env)).all (fun x => !x.1) && (backToKw cpos (keywordEach [] X.env)).all (fun x => x.1.isSome)
      && decide ((e :: es).length + ([] : List Keyword).length + (if ([] : List Keyword).isEmpty then 0 else 1) < 30)) = true := by rfl)
    (hline : (apos.endLine == cpos.line) = true := by rfl) (he : starEach (e :: es) X.env = (false, eval e X.env) :: starEach es X.env := by rfl) (hplain : (backTo cpos (starEach es X.env)).any (·.1) = false := by rfl) :
    IE X cl Wx (.Call (.Attribute o name apos) (e :: es) [] cpos) (mLm f mo ma) :=
  pe_weak (pe_bm PySem.F.plainAttrs_list slot hty hm ho ha hbase hfew hline he hplain) fun σ H Q ⟨env, ρ, G, st, rel, er, p⟩ => ⟨env, ρ, G, st, rel, er, PostR.bind (R1 := Mz.SlR ⟨X.K, cl⟩) p fun x st1 ρ1 G1 H1 u f1 r1 s1 p1 => by
    split at p1
    · rename_i n
      split at p1
      · rename_i xs0 e0
        obtain ⟨a, vs, ha1, rfl, hH, _⟩ := lst_at r1 s1 e0
        refine ⟨.inl ⟨rfl, vs, SqL.of hH⟩, env, ρ1, G1, st1, r1, er.mono f1, PostR.bind (R1 := SlRs ⟨X.K, cl⟩) p1 fun ys st2 ρ2 G2 H2 us f2 r2 s2 p2 => ?_⟩
        split at p2
        · rename_i xs e1
          obtain ⟨a', vs2, ha2, e2, hH2, hr2⟩ := lst_at r2 (SlR.mono f2 (show Mz.SlR ⟨X.K, cl⟩ ρ1 G1 (.l n) (.ref a) from ⟨a, ha1, rfl⟩)) e1
          cases e2
          split at p2
          · rename_i w zs e3
            exact hs ρ2 G2 a H2 vs2 xs ys us w zs Q hH2 hr2 s2 e3 fun v vs' rv rz => p2 ρ2 G2 _ v (Fr.refl _ _) (r2.setl ha2 ⟨vs', rfl, rz⟩ (Store.lget_of e1) (fun z => by cases z)) rv
          · exact p2.elim
        · exact p2.elim
      · exact p1.elim
    · exact p1.elim⟩
/-- xs[i] = e, xs a list of the store -/
def mSetI (o i e : ME) : MS := fun env st => ofR env (e env st) fun y st1 => ofR env (o env st1) fun x st2 => ofR env (i env st2) fun k st3 => match y, x, k with
  | .v w, .l n, .v (.int j) => match st3.lget n with
    | some xs => match ixN xs.length j with
      | some q => .nx env (st3.setl n (.lst (xs.set q w)))
      | none => .bad
    | none => .bad
  | _, _, _ => .bad
theorem is_setI {p2 : Pos} (he : IE X cl Wx e me) (ho : IE X cl Wx o mo) (hi : IE X cl Wx i mi) (hg : PG X (.Subscript o i p2) (gSub (tM ⟨X.K, cl⟩ Wx mo) (tM ⟨X.K, cl⟩ Wx mi) rSetL)) (hs : swapsWithSole [.Subscript o i p2] e pos.line X.env = pure false := by rfl) (hw : swappedStores [.Subscript o i p2] e X.env = pure none := by rfl)
    (h1 : List.map (fun x => x.snd) (assignEach [.Subscript o i p2] X.env) = [assign (.Subscript o i p2) X.env] := by rfl) : IS X cl Wx (.Assign [.Subscript o i p2] e pos) (mSetI mo mi me) :=
  ps_weak (ps_asg he hg hs hw (h1 := h1)) fun D σ H ⟨env, ρ, G, st, r, er, p⟩ => ⟨env, ρ, G, st, r, er, PostS.ofR (R := Mz.SlR ⟨X.K, cl⟩) er p fun y st1 ρ1 G1 H1 u f1 r1 s1 p1 =>
    ⟨env, ρ1, G1, st1, r1, er.mono f1, PostS.ofR (R := Mz.SlR ⟨X.K, cl⟩) (er.mono f1) p1 fun x st2 ρ2 G2 H2 v f2 r2 s2 p2 =>
      ⟨env, ρ2, G2, st2, r2, (er.mono f1).mono f2, PostS.ofR (R := Mz.SlR ⟨X.K, cl⟩) ((er.mono f1).mono f2) p2 fun k st3 ρ3 G3 H3 z f3 r3 s3 p3 => by
        split at p3
        · rename_i w n j
          split at p3
          · rename_i xs e0
            split at p3
            · rename_i q hq
              obtain ⟨a, vs, ha, rfl, hH, hr⟩ := lst_at r3 (s2.mono f3) e0
              unfold Mz.SlR Rep at s3
              subst s3
              exact ⟨a, vs, j, q, rfl, rfl, hH, by rw [← hr.length]; exact hq, PostS.nx p3 (r3.setl ha ⟨_, rfl, hr.set q ((s1.mono f2).mono f3)⟩ (Store.lget_of e0) (fun z => by cases z)) (((er.mono f1).mono f2).mono f3)⟩
            · exact p3.elim
          · exact p3.elim
        · exact p3.elim⟩⟩⟩
/-! slices -/
abbrev MO := Env → Store → Res (Option Int)
def mNo : MO := fun _ st => .ok none st
def mPart (a : ME) : MO := fun env st => (a env st).bind fun x st1 => match x with
  | .v (.int i) => .ok (some i) st1
  | _ => .bad
def tO (T : Tx) (Wx : WX) (m : MO) : TO := fun σ H Q => ∃ env ρ G st, Rel T ρ G H st ∧ EnvR T ρ G env σ ∧ PostR T ρ G (fun _ _ a b => a = b) (m env st) Q fun c d H' => Wx c d σ H'
abbrev IO (X : Cx) (cl : Nat → Addr) (Wx : WX) (e : Option Expr) (m : MO) : Prop := PO X e (tO ⟨X.K, cl⟩ Wx m)
theorem po_weak {e : Option Expr} {t t' : TO} (h : PO X e t) (k : ∀ σ H Q, t' σ H Q → t σ H Q) : PO X e t' := ⟨fun pins s σ H Q I q => h.run pins s σ H Q I (k σ H Q q)⟩
theorem io_none : IO X cl Wx none mNo := po_weak po_none fun σ H Q ⟨env, ρ, G, st, rel, er, p⟩ => p.give rel rfl
theorem io_some (h : IE X cl Wx e me) : IO X cl Wx (some e) (mPart me) := po_weak (po_some h) fun σ H Q ⟨env, ρ, G, st, rel, er, p⟩ => ⟨env, ρ, G, st, rel, er, PostR.bind (R1 := Mz.SlR ⟨X.K, cl⟩) p fun x st1 ρ1 G1 H1 u f1 r1 s1 p1 => by
  split at p1
  · unfold Mz.SlR Rep at s1; subst s1
    exact ⟨_, rfl, p1.give r1 rfl⟩
  · exact p1.elim⟩
def cutW (xs : List W) (lo hi : Option Int) : List W := (xs.drop (HT.sIx xs.length 0 lo)).take (HT.sIx xs.length xs.length hi - HT.sIx xs.length 0 lo)
theorem cut_reps {T : Tx} {G : Hp} {xs : List W} {vs : List V} {lo hi : Option Int} (h : Reps T G xs vs) : Reps T G (cutW xs lo hi) (cutV vs lo hi) := by
  unfold cutW cutV
  rw [h.length]
  exact (h.drop _).take _
def mSl (o : ME) (a b : MO) : ME := fun env st => (o env st).bind fun x st1 => (a env st1).bind fun lo st2 => (b env st2).bind fun hi st3 => match x with
  | .v (.tup xs) => .ok (.v (.tup (cutW xs lo hi))) st3
  | .v (.str z) => if z.length ≤ big then .ok (.v (.str (cutS z lo hi))) st3 else .bad
  | _ => match litems st3 x with
    | some xs => .ok (.v (.lst (cutW xs lo hi))) st3
    | none => .bad
end
end Mz

set_option Elab.async false
set_option linter.all false
set_option maxRecDepth 100000
set_option maxHeartbeats 4000000
namespace Mz
open PySem PySem.Spec PyProof.Rows L2

section
variable {X : Cx} {cl : Nat → Addr} {Wx : WX} {o : Expr} {mo : ME} {lo hi : Option Expr} {ml mh : MO} {pos p2 : Pos}
abbrev rSlAll (K : PySem.W.Frag) : V → Option Int → Option Int → Hp → VK → Prop := fun x lo hi H Q => rSlL K x lo hi H Q ∨ (fun x lo hi H Q => rSlA K x lo hi H Q ∨ rSlS x lo hi H Q) x lo hi H Q
theorem sl_all : L2.SlR X (rSlAll X.K) := sl_list.or (sl_tupA.or sl_str)
theorem ie_sl (ho : IE X cl Wx o mo) (hl : IO X cl Wx lo ml) (hh : IO X cl Wx hi mh) : IE X cl Wx (.Subscript o (.Slice lo hi none p2) pos) (mSl mo ml mh) :=
  pe_weak (pe_slice sl_all ho hl hh) fun σ H Q ⟨env, ρ, G, st, rel, er, p⟩ => ⟨env, ρ, G, st, rel, er, PostR.bind (R1 := Mz.SlR ⟨X.K, cl⟩) p fun x st1 ρ1 G1 H1 u f1 r1 s1 p1 =>
    ⟨env, ρ1, G1, st1, r1, er.mono f1, PostR.bind (R1 := fun _ _ a b => a = b) p1 fun l st2 ρ2 G2 H2 l' f2 r2 hl p2 => ⟨env, ρ2, G2, st2, r2, (er.mono f1).mono f2, PostR.bind (R1 := fun _ _ a b => a = b) p2 fun h st3 ρ3 G3 H3 h' f3 r3 hh p3 => by
      subst hl hh
      have s3 := (s1.mono f2).mono f3
      split at p3
      · rename_i xs
        have s0 := s3
        unfold Mz.SlR Rep at s3
        obtain ⟨a, vs, rfl, hq, hr⟩ := s3
        refine .inr (.inl ⟨a, vs, rfl, sqt_mono r3.ext hq, fun hw => ?_, fun hw q hq2 => ?_⟩)
        · have e : cutW xs l h = xs := by
            unfold cutW
            rw [hr.length, hw.1, hw.2, List.drop_zero, Nat.sub_zero, ← hr.length, List.take_length]
          rw [e] at p3
          exact p3.give r3 s0
        · obtain ⟨f, r4⟩ := r3.newG (o := .tup (cutV vs l h)) hq2
          exact p3 _ _ _ _ f r4 (by unfold Mz.SlR Rep; exact ⟨q, _, rfl, SqT.of upd_same, Reps.mono f.ex _ _ (cut_reps hr)⟩)
      · rename_i z
        split at p3
        · rename_i hz
          unfold Mz.SlR Rep at s3
          subst s3
          exact .inr (.inr ⟨z, rfl, by rw [big_line]; exact hz, pg p3 r3 rep_str⟩)
        · exact p3.elim
      · split at p3
        · rename_i xs e
          obtain ⟨a, vs, rfl, hq, hr⟩ := litems_at r3 s3 e
          refine .inl ⟨a, vs, rfl, hq, fun q hq2 => ?_⟩
          obtain ⟨f, r4⟩ := r3.newG (o := .lst (cutV vs l h)) hq2
          exact p3 _ _ _ _ f r4 (by unfold Mz.SlR Rep; exact ⟨q, _, rfl, upd_same, Reps.mono f.ex _ _ (cut_reps hr)⟩)
        · exact p3.elim⟩⟩⟩
/-! for x in e: a list, a tuple or a text -/
theorem pi_or {tg e : Expr} {t t' : TI} (h : PI X tg e t) (h' : PI X tg e t') : PI X tg e (fun σ H R => t σ H R ∨ t' σ H R) := ⟨fun pins s σ H R I q => q.elim (fun q => h.run pins s σ H R I q) fun q => h'.run pins s σ H R I q⟩
def signs (z : Str) : List W := z.cps.toList.map fun c => .str ⟨#[c]⟩
def srcOf (x : Sl) (st1 : Store) : Res Src := match x with
  | .v (.tup xs) => .ok ⟨xs, fun _ => True⟩ st1
  | .v (.str z) => .ok ⟨signs z, fun _ => True⟩ st1
  | _ => match litems st1 x with
    | some xs => .ok ⟨xs, stands x xs⟩ st1
    | none => .bad
def mItS (a : ME) : MI := fun env st => (a env st).bind srcOf
theorem its_str {T : Tx} {ρ : Mp} {G : Hp} {z : Str} : ItS T ρ G ⟨signs z, fun _ => True⟩ (Its z) := by
  have hl : (signs z).length = z.cps.size := by unfold signs; simp
  refine ⟨fun i H st' ρ' G' f r g hi => ?_, fun i w H st' ρ' G' f r g hw => ?_⟩
  · show z.cps.size ≤ i
    rw [← hl]; exact hi
  · have hw' : (signs z)[i]? = some w := hw
    have hlt := get_lt hw'
    rw [hl] at hlt
    unfold signs at hw'
    rw [List.getElem?_map] at hw'
    obtain ⟨c, hc, e⟩ := Option.map_eq_some_iff.mp hw'
    subst e
    refine ⟨hlt, fun y H' hy => ?_⟩
    obtain ⟨rfl, c', hc', rfl⟩ := hy
    rw [← Array.getElem?_toList, hc] at hc'
    cases hc'
    exact ⟨G', Fr.refl _ _, r, rep_str⟩
theorem ii_seq {tg e : Expr} {me : ME} (h : IE X cl Wx e me) : II X cl Wx tg e (mItS me) :=
  pi_weak (pi_or (pi_list h) (pi_or (pi_tup h) (pi_str h))) fun σ H Q ⟨env, ρ, G, st, rel, er, p⟩ => by
    -- which of the three is told by the value: it is asked once, at the end of the expression
    cases e1 : me env st with
    | bad => unfold mItS at p; rw [e1] at p; exact p.elim
    | ex c ns ws st1 =>
      unfold mItS at p; rw [e1] at p
      exact .inl ⟨env, ρ, G, st, rel, er, by rw [e1]; exact p⟩
    | ok x st1 =>
      unfold mItS at p; rw [e1] at p
      replace p : PostR ⟨X.K, cl⟩ ρ G (ItS ⟨X.K, cl⟩) (srcOf x st1) Q fun c d H' => Wx c d σ H' := p
      unfold srcOf at p
      split at p
      · rename_i xs
        refine .inr (.inl ⟨env, ρ, G, st, rel, er, ?_⟩)
        rw [e1]
        intro ρ1 G1 H1 u f1 r1 s1
        unfold Mz.SlR Rep at s1
        obtain ⟨a, vs, rfl, hq, hr⟩ := s1
        exact ⟨a, rfl, ⟨vs, sqt_mono r1.ext hq⟩, p ρ1 G1 H1 _ f1 r1 (its_tup hq hr)⟩
      · rename_i z
        refine .inr (.inr ⟨env, ρ, G, st, rel, er, ?_⟩)
        rw [e1]
        intro ρ1 G1 H1 u f1 r1 s1
        unfold Mz.SlR Rep at s1
        exact ⟨z, s1, p ρ1 G1 H1 _ f1 r1 its_str⟩
      · split at p
        · rename_i xs hx
          refine .inl ⟨env, ρ, G, st, rel, er, ?_⟩
          rw [e1]
          intro ρ1 G1 H1 u f1 r1 s1
          obtain ⟨a, vs, rfl, hq, hr⟩ := litems_at r1 s1 hx
          exact ⟨a, rfl, ⟨vs, hq⟩, p ρ1 G1 H1 _ f1 r1 (its_list (H := H1) (u := .ref a) s1 hx)⟩
        · exact p.elim
/-! x += e, whole numbers -/
def mAug (i : Nat) (f : Int → Int → Int) (e : ME) : MS := fun env st => match env[i]? with
  | some (some (.v (.int a))) => ofR env (e env st) fun x st1 => match x with
    | .v (.int b) => .nx (env.set i (some (.v (.int (f a b))))) st1
    | _ => .bad
  | _ => .bad
theorem is_aug (i : Nat) {x : Str} {e : Expr} {me : ME} {op : Operator} {f : Int → Int → Int} {pos' : Pos} (hN : X.N.Nodup) (he : IE X cl Wx e me) (hp : PIp X op (ipI f)) (hi : X.N[i]? = some x := by rfl) (hx : Loc X.env.scope x := by first | exact Or.inl rfl | exact Or.inr rfl)
    (hf : X.fn x = true ∨ X.env.scope.names.lookup x = some .local := by first | exact .inl rfl | exact .inr rfl | assumption) : IS X cl Wx (.AugAssign (.Name x pos') op e pos) (mAug i f me) :=
  ps_weak (ps_aug hN hi hx he hp hf) fun D σ H ⟨env, ρ, G, st, r, er, p⟩ => by
    unfold mAug at p
    split at p
    · rename_i a ha
      obtain ⟨u, h1, h2⟩ := er.2 i _ ha
      unfold Mz.SlR Rep at h2
      subst h2
      refine ⟨_, h1, env, ρ, G, st, r, er, PostS.ofR (R := Mz.SlR ⟨X.K, cl⟩) er p fun x st1 ρ1 G1 H1 v f1 r1 s1 p1 => ?_⟩
      split at p1
      · rename_i b
        unfold Mz.SlR Rep at s1
        subst s1
        exact ⟨a, b, rfl, rfl, PostS.nx p1 r1 ((er.mono f1).set i (show Mz.SlR ⟨X.K, cl⟩ ρ1 G1 (.v (.int (f a b))) (.int (f a b)) from (rep_int : Rep ⟨X.K, cl⟩ G1 _ _)))⟩
      · exact p1.elim
    · exact p.elim
end
def opPow : Op2 := opI (fun i j => decide (0 ≤ j) && decide (j ≤ 1000000) && decide (i.natAbs < 2 ^ 64)) fun i j => .int (i ^ j.toNat)
theorem s_pow {T : Tx} : OpS T (rI CPow fun i j => .int (i ^ j.toNat)) opPow := ops_I (fun i j h => by
  simp only [Bool.and_eq_true, decide_eq_true_eq] at h; exact ⟨h.1.1, h.1.2, h.2⟩) fun _ _ _ => rep_int

section
variable {P : Program} {w : World} {K : PySem.W.Frag} {mg : Str → Option Value} {base : Heap} {cl : Nat → Addr}
/-- fn_ok for a def without defaults -/
theorem fun_ok {x qual : Str} {s : Stmt} {f : Addr} {fd : FuncData} {N ps : List Str} {k np nl : Nat} {md : Md} {mb : MS} (F : Fun K x qual s f fd) (S : FnScope N ps (defScope s)) (hp : ps.length = np) (hl : N.length = nl)
    (hb : ∀ (cdv : Value) (A : Around) (outer : List PySem.Env) (st : Shared) (H : Hp) (E : XK), Room k (A.deeper (envOfC qual (defScope s) st.heap.objs.size f cdv)) →
      ISs (cxOf (L2.CX P w) P w K mg base N qual (defScope s) f cdv A outer st H E) cl (fun c d _ H' => E c d H') (defBody s) mb) : FnOk P w K mg base (L2.CX P w) (k + 1) f fd ps (spM ⟨K, cl⟩ np (mFn np nl md mb)) :=
  F.okX S (fun vs H Q E ⟨ρ, G, st, args, rel, sr, ha, p⟩ => by rw [← sr.length, ha, hp]) fun cdv A outer s H vs Q E hr ⟨ρ, G, st, args, rel, sr, ha, p⟩ => by
    refine ⟨_, hb cdv A outer s H E hr, args.map some ++ List.replicate (nl - np) none, ρ, G, st, rel, ?_, ?_⟩
    · rw [← hl]; exact env_start sr ha
    · unfold mFn at p
      rw [if_pos ha] at p
      exact fin_post rel p
/-! ## 13. the law's end -/
abbrev emp : Store := ⟨[], []⟩
def spLaw (K : PySem.W.Frag) : Sp := fun vs H Q _ => ∃ (a : Addr) (ns : List Int), vs = [.ref a] ∧ SqL K H a (ns.map V.int) ∧ ns.length ≤ 63 ∧ ∀ H', Q (.bl true) H'
theorem reps_ints {T : Tx} {G : Hp} : ∀ ns : List Int, Reps T G (ns.map W.int) (ns.map V.int)
  | [] => Reps.nil
  | n :: ns => Reps.cons rep_int (reps_ints ns)
theorem law_imp {F : MF} (h9 : ∀ j, j < 2 → cl (900 + j) = 0) (ht : ∀ ns : List Int, ns.length ≤ 63 → ∃ st', F [.v (.ro (ns.map W.int))] emp = .ok (.v (.bl true)) st') : ∀ vs H Q E, spLaw K vs H Q E → spM ⟨K, cl⟩ 1 F vs H Q E := fun vs H Q E ⟨a, ns, e, hs, hl, q⟩ => by
  subst e
  obtain ⟨st', h⟩ := ht ns hl
  refine ⟨⟨[], []⟩, noTb H, emp, [.v (.ro (ns.map W.int))], ⟨noTb_ext, rfl, rfl, fun n a x h => ?_, fun n a x h => ?_, List.nodup_nil, List.nodup_nil, fun j hj => .inl (h9 j hj), noTb_nt⟩, ⟨_, _, rfl, ?_, rfl⟩, rfl, ?_⟩
  · simp at h
  · simp at h
  · unfold Mz.SlR Rep
    exact ⟨a, _, rfl, noTb_sql hs, reps_ints ns⟩
  · rw [h]
    intro ρ' G' H' u f r hu
    unfold Mz.SlR Rep at hu
    subst hu
    exact q H'
theorem noCX {H : Hp} {s : Shared} {e : Value} {s' : Shared} (h : L2.CX P w [] H s (fun _ _ _ => False) e s') : False := by
  obtain ⟨_, _, _, _, _, _, _, _, _, _, _, _, z⟩ := h
  exact z.elim
theorem walk {l : PySem.W.OpenLaw} {q : Program} {loose : List Str} {XP : (Str → Option Value) → Heap → Prop} {YP : World → Heap → Prop} {d : DefRec} {K : Params → PySem.W.Frag} {k : Nat} {x : Str} (hn : l.most = some 63) (hdf : d.params.defaults = []) (hr : Room k callerA)
    (hY : ∀ (w : World) (h : Heap), YP w h → (K w.params).In h)
    (F : ∀ (w : World) (mg : Str → Option Value) (fa : Addr) (h : Heap), (K w.params).In h → h.Ns mainGlobals mg → mg d.name = some (.ref fa) →
      ∃ fd : FuncData, (∀ (s : Shared) (u : Value), BindsTo s fd ⟨[u], []⟩ [(x, u)]) ∧
        ∀ base : Heap, (K w.params).In base → base.Ns mainGlobals mg → FnOk l.prog w (K w.params) mg base (L2.CX l.prog w) k fa fd [x] (spLaw (K w.params))) :
    PySem.W.WalkO q loose XP YP l.row.toRowW d [] (fun f vs => PySem.call f vs) :=
  L2.walk_of (n := 63) (k := k) (x := x) (CX := fun w => L2.CX l.prog w) (sp := fun w => spLaw (K w.params)) hn (by decide) hdf hr hY F (fun _ _ a ns hl _ hS => ⟨a, ns, rfl, hS, hl, fun _ => rfl⟩) fun _ _ _ _ _ z => noCX z
end
end Mz

set_option Elab.async false
set_option linter.all false
set_option maxRecDepth 100000
set_option maxHeartbeats 4000000
namespace Mz
open PySem L2

/-! ## 14. how it is reckoned: one small step each, by simp -/
def kSeq (r : SR) (b : MS) : SR := match r with
  | .nx env st => b env st
  | r => r
theorem e_seq {a b : MS} {env : Env} {st : Store} : mSeq a b env st = kSeq (a env st) b := rfl
theorem k_nx {b : MS} {env : Env} {st : Store} : kSeq (.nx env st) b = b env st := rfl
theorem k_rt {b : MS} {s : Sl} {st : Store} : kSeq (.rt s st) b = .rt s st := rfl
theorem k_bk {b : MS} {env : Env} {st : Store} : kSeq (.bk env st) b = .bk env st := rfl
theorem k_ct {b : MS} {env : Env} {st : Store} : kSeq (.ct env st) b = .ct env st := rfl
theorem k_ex {b : MS} {c : Nat} {ns : List Str} {ws : List W} {env : Env} {st : Store} : kSeq (.ex c ns ws env st) b = .ex c ns ws env st := rfl
theorem e_pass {env : Env} {st : Store} : mPass env st = .nx env st := rfl
theorem e_brk {env : Env} {st : Store} : mBrk env st = .bk env st := rfl
theorem e_cont {env : Env} {st : Store} : mCont env st = .ct env st := rfl
theorem e_retN {env : Env} {st : Store} : mRetN env st = .rt (.v .non) st := rfl
def kAsg (i : Nat) (env : Env) (r : Res Sl) : SR := ofR env r fun x st1 => .nx (env.set i (some x)) st1
theorem e_asg {i : Nat} {a : ME} {env : Env} {st : Store} : mAsg i a env st = kAsg i env (a env st) := rfl
theorem k_asg {i : Nat} {env : Env} {x : Sl} {st : Store} : kAsg i env (.ok x st) = .nx (env.set i (some x)) st := rfl
theorem k_asg_ex {i : Nat} {env : Env} {c : Nat} {ns : List Str} {ws : List W} {st : Store} : kAsg i env (.ex c ns ws st) = .ex c ns ws env st := rfl
def kNx (o : Option Env) (st : Store) : SR := match o with
  | some env1 => .nx env1 st
  | none => .bad
theorem k_nxo {env : Env} {st : Store} : kNx (some env) st = .nx env st := rfl
def kAsgP (p : Pat) (env : Env) (r : Res Sl) : SR := ofR env r fun x st1 => match x with
  | .v w => match bindP p w env with
    | some env1 => .nx env1 st1
    | none => .bad
  | _ => .bad
theorem e_asgP {p : Pat} {a : ME} {env : Env} {st : Store} : mAsgP p a env st = kAsgP p env (a env st) := rfl
theorem k_asgP {p : Pat} {env : Env} {w : W} {st : Store} : kAsgP p env (.ok (.v w) st) = kNx (bindP p w env) st := rfl
def kDrop (env : Env) (r : Res Sl) : SR := ofR env r fun _ st1 => .nx env st1
theorem e_drop {a : ME} {env : Env} {st : Store} : mDrop a env st = kDrop env (a env st) := rfl
theorem k_drop {env : Env} {x : Sl} {st : Store} : kDrop env (.ok x st) = .nx env st := rfl
theorem k_drop_ex {env : Env} {c : Nat} {ns : List Str} {ws : List W} {st : Store} : kDrop env (.ex c ns ws st) = .ex c ns ws env st := rfl
def kRet (env : Env) (r : Res Sl) : SR := ofR env r fun x st1 => .rt x st1
theorem e_ret {a : ME} {env : Env} {st : Store} : mRet a env st = kRet env (a env st) := rfl
theorem k_ret {env : Env} {x : Sl} {st : Store} : kRet env (.ok x st) = .rt x st := rfl
theorem k_ret_ex {env : Env} {c : Nat} {ns : List Str} {ws : List W} {st : Store} : kRet env (.ex c ns ws st) = .ex c ns ws env st := rfl
def kIfS (env : Env) (a b : MS) (r : Res Bool) : SR := ofR env r fun c st1 => if c = true then a env st1 else b env st1
theorem e_ifS {t : MT} {a b : MS} {env : Env} {st : Store} : mIfS t a b env st = kIfS env a b (t env st) := rfl
theorem k_ifS {env : Env} {a b : MS} {c : Bool} {st : Store} : kIfS env a b (.ok c st) = if c = true then a env st else b env st := rfl
def kAug (i : Nat) (f : Int → Int → Int) (a : Int) (env : Env) (r : Res Sl) : SR := ofR env r fun x st1 => match x with
  | .v (.int b) => .nx (env.set i (some (.v (.int (f a b))))) st1
  | _ => .bad
def kAug0 (o : Option (Option Sl)) (i : Nat) (f : Int → Int → Int) (e : ME) (env : Env) (st : Store) : SR := match o with
  | some (some (.v (.int a))) => kAug i f a env (e env st)
  | _ => .bad
theorem e_aug {i : Nat} {f : Int → Int → Int} {e : ME} {env : Env} {st : Store} : mAug i f e env st = kAug0 env[i]? i f e env st := rfl
theorem k_aug0 {i : Nat} {f : Int → Int → Int} {e : ME} {env : Env} {st : Store} {a : Int} : kAug0 (some (some (.v (.int a)))) i f e env st = kAug i f a env (e env st) := rfl
theorem k_aug {i : Nat} {f : Int → Int → Int} {a b : Int} {env : Env} {st : Store} : kAug i f a env (.ok (.v (.int b)) st) = .nx (env.set i (some (.v (.int (f a b))))) st := rfl
/-! expressions -/
def kVar (o : Option (Option Sl)) (st : Store) : Res Sl := match o with
  | some (some s) => .ok s st
  | _ => .bad
theorem e_var {i : Nat} {env : Env} {st : Store} : mVar i env st = kVar env[i]? st := rfl
theorem k_var {s : Sl} {st : Store} : kVar (some (some s)) st = .ok s st := rfl
theorem e_c {w : W} {env : Env} {st : Store} : mC w env st = .ok (.v w) st := rfl
def kOp1 (f : Op2) (b : ME) (env : Env) (r : Res Sl) : Res Sl := r.bind fun x st1 => (b env st1).bind fun y st2 => f x y st2
def kOp2 (f : Op2) (x : Sl) (r : Res Sl) : Res Sl := r.bind fun y st2 => f x y st2
theorem e_op {f : Op2} {a b : ME} {env : Env} {st : Store} : mOp f a b env st = kOp1 f b env (a env st) := rfl
theorem k_op1 {f : Op2} {b : ME} {env : Env} {x : Sl} {st : Store} : kOp1 f b env (.ok x st) = kOp2 f x (b env st) := rfl
theorem k_op1_ex {f : Op2} {b : ME} {env : Env} {c : Nat} {ns : List Str} {ws : List W} {st : Store} : kOp1 f b env (.ex c ns ws st) = .ex c ns ws st := rfl
theorem k_op2 {f : Op2} {x y : Sl} {st : Store} : kOp2 f x (.ok y st) = f x y st := rfl
theorem k_op2_ex {f : Op2} {x : Sl} {c : Nat} {ns : List Str} {ws : List W} {st : Store} : kOp2 f x (.ex c ns ws st) = .ex c ns ws st := rfl
def kUn (f : Sl → Store → Res Sl) (r : Res Sl) : Res Sl := r.bind fun x st1 => f x st1
theorem e_un {f : Sl → Store → Res Sl} {a : ME} {env : Env} {st : Store} : mUn f a env st = kUn f (a env st) := rfl
theorem k_un {f : Sl → Store → Res Sl} {x : Sl} {st : Store} : kUn f (.ok x st) = f x st := rfl
def kTest (r : Res Sl) : Res Bool := r.bind tru
theorem e_test {a : ME} {env : Env} {st : Store} : mTest a env st = kTest (a env st) := rfl
theorem k_test {b : Bool} {st : Store} : kTest (.ok (.v (.bl b)) st) = .ok b st := rfl
theorem k_test_ex {c : Nat} {ns : List Str} {ws : List W} {st : Store} : kTest (.ex c ns ws st) = .ex c ns ws st := rfl
def kAnd (b : MT) (env : Env) (r : Res Bool) : Res Bool := r.bind fun c st1 => if c = true then b env st1 else .ok false st1
theorem e_and {a b : MT} {env : Env} {st : Store} : mAnd a b env st = kAnd b env (a env st) := rfl
theorem k_and {b : MT} {env : Env} {c : Bool} {st : Store} : kAnd b env (.ok c st) = if c = true then b env st else .ok false st := rfl
def kOr (b : MT) (env : Env) (r : Res Bool) : Res Bool := r.bind fun c st1 => if c = true then .ok true st1 else b env st1
theorem e_or {a b : MT} {env : Env} {st : Store} : mOr a b env st = kOr b env (a env st) := rfl
theorem k_or {b : MT} {env : Env} {c : Bool} {st : Store} : kOr b env (.ok c st) = if c = true then .ok true st else b env st := rfl
def kNot (r : Res Bool) : Res Bool := r.bind fun c st1 => .ok (!c) st1
theorem e_not {a : MT} {env : Env} {st : Store} : mNot a env st = kNot (a env st) := rfl
theorem k_not {c : Bool} {st : Store} : kNot (.ok c st) = .ok (!c) st := rfl
def kAndV (b : ME) (env : Env) (r : Res Sl) : Res Sl := r.bind fun x st1 => (tru x st1).bind fun c st2 => if c = true then b env st2 else .ok (.v (.bl false)) st2
theorem e_andV {a b : ME} {env : Env} {st : Store} : mAndV a b env st = kAndV b env (a env st) := rfl
theorem k_andV {b : ME} {env : Env} {c : Bool} {st : Store} : kAndV b env (.ok (.v (.bl c)) st) = if c = true then b env st else .ok (.v (.bl false)) st := rfl
def kOrV (b : ME) (env : Env) (r : Res Sl) : Res Sl := r.bind fun x st1 => (tru x st1).bind fun c st2 => if c = true then .ok (.v (.bl true)) st2 else b env st2
theorem e_orV {a b : ME} {env : Env} {st : Store} : mOrV a b env st = kOrV b env (a env st) := rfl
theorem k_orV {b : ME} {env : Env} {c : Bool} {st : Store} : kOrV b env (.ok (.v (.bl c)) st) = if c = true then .ok (.v (.bl true)) st else b env st := rfl
def kNotV (r : Res Sl) : Res Sl := r.bind fun x st1 => (tru x st1).bind fun c st2 => .ok (.v (.bl (!c))) st2
theorem e_notV {a : ME} {env : Env} {st : Store} : mNotV a env st = kNotV (a env st) := rfl
theorem k_notV {c : Bool} {st : Store} : kNotV (.ok (.v (.bl c)) st) = .ok (.v (.bl (!c))) st := rfl
def kIf (a b : ME) (env : Env) (r : Res Bool) : Res Sl := r.bind fun c st1 => if c = true then a env st1 else b env st1
theorem e_if {t : MT} {a b : ME} {env : Env} {st : Store} : mIf t a b env st = kIf a b env (t env st) := rfl
theorem k_if {a b : ME} {env : Env} {c : Bool} {st : Store} : kIf a b env (.ok c st) = if c = true then a env st else b env st := rfl
theorem e_nil {env : Env} {st : Store} : mNil env st = .ok [] st := rfl
def kCons1 (r : MA) (env : Env) (x : Res Sl) : Res (List Sl) := x.bind fun x st1 => (r env st1).bind fun xs st2 => .ok (x :: xs) st2
def kCons2 (x : Sl) (r : Res (List Sl)) : Res (List Sl) := r.bind fun xs st2 => .ok (x :: xs) st2
theorem e_cons {a : ME} {r : MA} {env : Env} {st : Store} : mCons a r env st = kCons1 r env (a env st) := rfl
theorem k_cons1 {r : MA} {env : Env} {x : Sl} {st : Store} : kCons1 r env (.ok x st) = kCons2 x (r env st) := rfl
theorem k_cons1_ex {r : MA} {env : Env} {c : Nat} {ns : List Str} {ws : List W} {st : Store} : kCons1 r env (.ex c ns ws st) = .ex c ns ws st := rfl
theorem k_cons2 {x : Sl} {xs : List Sl} {st : Store} : kCons2 x (.ok xs st) = .ok (x :: xs) st := rfl
theorem k_cons2_ex {x : Sl} {c : Nat} {ns : List Str} {ws : List W} {st : Store} : kCons2 x (.ex c ns ws st) = .ex c ns ws st := rfl
def kCall (F : MF) (r : Res (List Sl)) : Res Sl := r.bind fun xs st1 => F xs st1
theorem e_call {F : MF} {a : MA} {env : Env} {st : Store} : mCall F a env st = kCall F (a env st) := rfl
theorem k_call {F : MF} {xs : List Sl} {st : Store} : kCall F (.ok xs st) = F xs st := rfl
theorem k_call_ex {F : MF} {c : Nat} {ns : List Str} {ws : List W} {st : Store} : kCall F (.ex c ns ws st) = .ex c ns ws st := rfl
def kTup (r : Res (List Sl)) : Res Sl := r.bind fun xs st1 => match vals xs with
  | some ws => if ws.length ≤ big then .ok (.v (.tup ws)) st1 else .bad
  | none => .bad
theorem e_tup {a : MA} {env : Env} {st : Store} : mTup a env st = kTup (a env st) := rfl
def kTup2 (o : Option (List W)) (st : Store) : Res Sl := match o with
  | some ws => if ws.length ≤ big then .ok (.v (.tup ws)) st else .bad
  | none => .bad
theorem k_tup {xs : List Sl} {st : Store} : kTup (.ok xs st) = kTup2 (vals xs) st := rfl
theorem k_tup2 {ws : List W} {st : Store} (h : ws.length ≤ big) : kTup2 (some ws) st = .ok (.v (.tup ws)) st := by unfold kTup2; dsimp only; rw [if_pos h]
def kLst (r : Res (List Sl)) : Res Sl := r.bind fun xs st1 => match vals xs with
  | some ws => if ws.length ≤ big then .ok (.v (.lst ws)) st1 else .bad
  | none => .bad
theorem e_lst {a : MA} {env : Env} {st : Store} : mLst a env st = kLst (a env st) := rfl
def kLst2 (o : Option (List W)) (st : Store) : Res Sl := match o with
  | some ws => if ws.length ≤ big then .ok (.v (.lst ws)) st else .bad
  | none => .bad
theorem k_lst {xs : List Sl} {st : Store} : kLst (.ok xs st) = kLst2 (vals xs) st := rfl
theorem k_lst2 {ws : List W} {st : Store} (h : ws.length ≤ big) : kLst2 (some ws) st = .ok (.v (.lst ws)) st := by unfold kLst2; dsimp only; rw [if_pos h]
def kLstM (r : Res (List Sl)) : Res Sl := r.bind fun xs st1 => match vals xs with
  | some ws => if ws.length ≤ big then .ok (.l st1.l.length) (st1.push (.lst ws)) else .bad
  | none => .bad
theorem e_lstM {a : MA} {env : Env} {st : Store} : mLstM a env st = kLstM (a env st) := rfl
def kLstM2 (o : Option (List W)) (st : Store) : Res Sl := match o with
  | some ws => if ws.length ≤ big then .ok (.l st.l.length) (st.push (.lst ws)) else .bad
  | none => .bad
theorem k_lstM {xs : List Sl} {st : Store} : kLstM (.ok xs st) = kLstM2 (vals xs) st := rfl
theorem k_lstM2 {ws : List W} {st : Store} (h : ws.length ≤ big) : kLstM2 (some ws) st = .ok (.l st.l.length) (st.push (.lst ws)) := by unfold kLstM2; dsimp only; rw [if_pos h]
theorem v_nil : vals [] = some [] := rfl
theorem v_cons {w : W} {xs : List Sl} : vals (.v w :: xs) = (vals xs).map (w :: ·) := rfl
def kChain1 (f g : Op2) (b c : ME) (env : Env) (r : Res Sl) : Res Sl := r.bind fun x st1 => (b env st1).bind fun y st2 => (f x y st2).bind fun z st3 => (tru z st3).bind fun k st4 =>
  if k = true then (c env st4).bind fun w st5 => g y w st5 else .ok (.v (.bl false)) st4
def kChain2 (f g : Op2) (c : ME) (env : Env) (x : Sl) (r : Res Sl) : Res Sl := r.bind fun y st2 => (f x y st2).bind fun z st3 => (tru z st3).bind fun k st4 =>
  if k = true then (c env st4).bind fun w st5 => g y w st5 else .ok (.v (.bl false)) st4
def kChain3 (g : Op2) (c : ME) (env : Env) (y : Sl) (r : Res Sl) : Res Sl := r.bind fun z st3 => (tru z st3).bind fun k st4 =>
  if k = true then (c env st4).bind fun w st5 => g y w st5 else .ok (.v (.bl false)) st4
theorem e_chain {f g : Op2} {a b c : ME} {env : Env} {st : Store} : mChain f g a b c env st = kChain1 f g b c env (a env st) := rfl
theorem k_chain1 {f g : Op2} {b c : ME} {env : Env} {x : Sl} {st : Store} : kChain1 f g b c env (.ok x st) = kChain2 f g c env x (b env st) := rfl
theorem k_chain2 {f g : Op2} {c : ME} {env : Env} {x y : Sl} {st : Store} : kChain2 f g c env x (.ok y st) = kChain3 g c env y (f x y st) := rfl
theorem k_chain3 {g : Op2} {c : ME} {env : Env} {y : Sl} {k : Bool} {st : Store} : kChain3 g c env y (.ok (.v (.bl k)) st) = if k = true then kOp2 g y (c env st) else .ok (.v (.bl false)) st := rfl
/-! operations -/
theorem o_add {i j : Int} {st : Store} : opAdd (.v (.int i)) (.v (.int j)) st = .ok (.v (.int (i + j))) st := rfl
theorem o_sub {i j : Int} {st : Store} : opSub (.v (.int i)) (.v (.int j)) st = .ok (.v (.int (i - j))) st := rfl
theorem o_mul {i j : Int} {st : Store} (h : (-(2 ^ 64) < i ∧ i < 2 ^ 64) ∨ (-(2 ^ 64) < j ∧ j < 2 ^ 64)) : opMul (.v (.int i)) (.v (.int j)) st = .ok (.v (.int (i * j))) st := by
  unfold opMul opI
  dsimp only
  rw [if_pos (by simpa using h)]
theorem o_mod {i j : Int} {st : Store} (h : 0 < j) : opMod (.v (.int i)) (.v (.int j)) st = .ok (.v (.int (i % j))) st := by
  unfold opMod opI
  dsimp only
  rw [if_pos (by simpa using h)]
theorem o_div {i j : Int} {st : Store} (h : 0 < j) (h2 : j < wide) : opDiv (.v (.int i)) (.v (.int j)) st = .ok (.v (.int (i / j))) st := by
  unfold opDiv opI
  dsimp only
  rw [if_pos (by simp [h, h2])]
theorem o_pow {i j : Int} {st : Store} (h : 0 ≤ j) (h2 : j ≤ 1000000) (h3 : i.natAbs < 2 ^ 64) : opPow (.v (.int i)) (.v (.int j)) st = .ok (.v (.int (i ^ j.toNat))) st := by
  unfold opPow opI
  dsimp only
  rw [if_pos (by simp [h, h2, h3])]
theorem o_shl {i j : Int} {st : Store} (h : 0 ≤ j) (h2 : j ≤ 1000000) (h3 : i.natAbs < 2 ^ 64) : opShl (.v (.int i)) (.v (.int j)) st = .ok (.v (.int (i * 2 ^ j.toNat))) st := by
  unfold opShl opI
  dsimp only
  rw [if_pos (by simp [h, h2, h3])]
theorem o_lt {i j : Int} {st : Store} : opLt (.v (.int i)) (.v (.int j)) st = .ok (.v (.bl (decide (i < j)))) st := rfl
theorem o_le {i j : Int} {st : Store} : opLe (.v (.int i)) (.v (.int j)) st = .ok (.v (.bl (decide (i ≤ j)))) st := rfl
theorem o_gt {i j : Int} {st : Store} : opGt (.v (.int i)) (.v (.int j)) st = .ok (.v (.bl (decide (j < i)))) st := rfl
theorem o_ge {i j : Int} {st : Store} : opGe (.v (.int i)) (.v (.int j)) st = .ok (.v (.bl (decide (j ≤ i)))) st := rfl
theorem o_neg {i : Int} {st : Store} : opNeg (.v (.int i)) st = .ok (.v (.int (-i))) st := rfl
theorem o_eq {i j : Int} {st : Store} : opEq false (.v (.int i)) (.v (.int j)) st = .ok (.v (.bl (decide (i = j)))) st := rfl
theorem o_ne {i j : Int} {st : Store} : opEq true (.v (.int i)) (.v (.int j)) st = .ok (.v (.bl (!decide (i = j)))) st := rfl
theorem o_eqs {i j : Str} {st : Store} : opEq false (.v (.str i)) (.v (.str j)) st = .ok (.v (.bl (decide (i = j)))) st := rfl
theorem o_nes {i j : Str} {st : Store} : opEq true (.v (.str i)) (.v (.str j)) st = .ok (.v (.bl (!decide (i = j)))) st := rfl
def kIx (o : Option (List W)) (x : Sl) (i : Int) (st : Store) : Res Sl := match o with
    | some xs => match atI xs i with
      | some w => .ok (.v w) st
      | none => .bad
    | none => match x with
      | .v (.str z) => if z.length ≤ big then (match atI z.cps.toList i with
        | some c => .ok (.v (.str ⟨#[c]⟩)) st
        | none => .bad) else .bad
      | _ => .bad
def kAt (o : Option W) (st : Store) : Res Sl := match o with
  | some w => .ok (.v w) st
  | none => .bad
def kAtS (o : Option Nat) (st : Store) : Res Sl := match o with
  | some c => .ok (.v (.str ⟨#[c]⟩)) st
  | none => .bad
theorem o_ix {x : Sl} {i : Int} {st : Store} : opIx x (.v (.int i)) st = kIx (items st x) x i st := rfl
theorem k_ix {xs : List W} {x : Sl} {i : Int} {st : Store} : kIx (some xs) x i st = kAt (atI xs i) st := rfl
theorem k_ixs {z : Str} {i : Int} {st : Store} (h : z.length ≤ big) : kIx none (.v (.str z)) i st = kAtS (atI z.cps.toList i) st := by
  unfold kIx; dsimp only; rw [if_pos h]; rfl
theorem k_at {w : W} {st : Store} : kAt (some w) st = .ok (.v w) st := rfl
theorem k_atS {c : Nat} {st : Store} : kAtS (some c) st = .ok (.v (.str ⟨#[c]⟩)) st := rfl
theorem atI_nat' {α : Type} {xs : List α} {n : Nat} : atI xs (n : Int) = xs[n]? := by
  unfold atI ixN
  by_cases h : n < xs.length
  · rw [if_pos (by omega), if_pos (by omega)]
    show xs[(n : Int).toNat]? = _
    rw [Int.toNat_natCast]
  · rw [if_pos (by omega), if_neg (by omega), List.getElem?_eq_none (by omega)]; rfl
theorem atI_pos {α : Type} {xs : List α} {i : Int} (h : 0 ≤ i) : atI xs i = xs[i.toNat]? := by
  have e : i = (i.toNat : Int) := by omega
  rw [e, atI_nat', Int.toNat_natCast]
theorem atI_0 {α : Type} {xs : List α} : atI xs 0 = xs[0]? := atI_nat' (n := 0)
theorem atI_1 {α : Type} {xs : List α} : atI xs 1 = xs[1]? := atI_nat' (n := 1)
theorem atI_2 {α : Type} {xs : List α} : atI xs 2 = xs[2]? := atI_nat' (n := 2)
theorem atI_3 {α : Type} {xs : List α} : atI xs 3 = xs[3]? := atI_nat' (n := 3)
theorem atI_4 {α : Type} {xs : List α} : atI xs 4 = xs[4]? := atI_nat' (n := 4)
theorem atI_5 {α : Type} {xs : List α} : atI xs 5 = xs[5]? := atI_nat' (n := 5)
theorem atI_6 {α : Type} {xs : List α} : atI xs 6 = xs[6]? := atI_nat' (n := 6)
theorem atI_7 {α : Type} {xs : List α} : atI xs 7 = xs[7]? := atI_nat' (n := 7)
theorem atI_8 {α : Type} {xs : List α} : atI xs 8 = xs[8]? := atI_nat' (n := 8)
theorem atI_9 {α : Type} {xs : List α} : atI xs 9 = xs[9]? := atI_nat' (n := 9)
theorem atI_10 {α : Type} {xs : List α} : atI xs 10 = xs[10]? := atI_nat' (n := 10)
theorem atI_11 {α : Type} {xs : List α} : atI xs 11 = xs[11]? := atI_nat' (n := 11)
theorem atI_12 {α : Type} {xs : List α} : atI xs 12 = xs[12]? := atI_nat' (n := 12)
theorem atI_13 {α : Type} {xs : List α} : atI xs 13 = xs[13]? := atI_nat' (n := 13)
theorem atI_14 {α : Type} {xs : List α} : atI xs 14 = xs[14]? := atI_nat' (n := 14)
theorem atI_15 {α : Type} {xs : List α} : atI xs 15 = xs[15]? := atI_nat' (n := 15)
theorem atI_16 {α : Type} {xs : List α} : atI xs 16 = xs[16]? := atI_nat' (n := 16)
theorem ixN_nat {n k : Nat} : ixN n ((k : Nat) : Int) = if k < n then some k else none := by
  unfold ixN
  rw [if_pos (by omega)]
  by_cases h : k < n
  · rw [if_pos (by omega), if_pos h, Int.toNat_natCast]
  · rw [if_neg (by omega), if_neg h]
theorem ixN_0 {n : Nat} : ixN n 0 = if 0 < n then some 0 else none := ixN_nat (k := 0)
theorem ixN_1 {n : Nat} : ixN n 1 = if 1 < n then some 1 else none := ixN_nat (k := 1)
theorem ixN_2 {n : Nat} : ixN n 2 = if 2 < n then some 2 else none := ixN_nat (k := 2)
theorem ixN_3 {n : Nat} : ixN n 3 = if 3 < n then some 3 else none := ixN_nat (k := 3)
theorem ixN_4 {n : Nat} : ixN n 4 = if 4 < n then some 4 else none := ixN_nat (k := 4)
theorem ixN_5 {n : Nat} : ixN n 5 = if 5 < n then some 5 else none := ixN_nat (k := 5)
theorem ixN_pos {n : Nat} {i : Int} (h : 0 ≤ i) (h2 : i < n) : ixN n i = some i.toNat := by unfold ixN; rw [if_pos h, if_pos h2]
theorem i_lst {st : Store} {xs : List W} : items st (.v (.lst xs)) = some xs := rfl
theorem i_ro {st : Store} {xs : List W} : items st (.v (.ro xs)) = some xs := rfl
theorem i_tup {st : Store} {xs : List W} : items st (.v (.tup xs)) = some xs := rfl
theorem i_l {st : Store} {n : Nat} : items st (.l n) = st.lget n := rfl
theorem li_lst {st : Store} {xs : List W} : litems st (.v (.lst xs)) = some xs := rfl
theorem li_ro {st : Store} {xs : List W} : litems st (.v (.ro xs)) = some xs := rfl
theorem li_l {st : Store} {n : Nat} : litems st (.l n) = st.lget n := rfl
theorem o_isN {st : Store} {w : W} (h : w ≠ .non) : opIsN false (.v w) (.v .non) st = .ok (.v (.bl false)) st := by
  cases w <;> first | rfl | exact absurd rfl h
theorem o_isNN {st : Store} : opIsN false (.v .non) (.v .non) st = .ok (.v (.bl true)) st := rfl
theorem o_notN {st : Store} {w : W} (h : w ≠ .non) : opIsN true (.v w) (.v .non) st = .ok (.v (.bl true)) st := by
  cases w <;> first | rfl | exact absurd rfl h
theorem o_notNN {st : Store} : opIsN true (.v .non) (.v .non) st = .ok (.v (.bl false)) st := rfl
theorem o_isB {st : Store} {a b : Bool} : opIsN false (.v (.bl a)) (.v (.bl b)) st = .ok (.v (.bl (decide (a = b)))) st := rfl
theorem o_isO {st : Store} {x : Sl} {b : Bool} (h : ∀ a, x ≠ .v (.bl a)) : opIsN false x (.v (.bl b)) st = .ok (.v (.bl false)) st := by
  cases x with
  | v w => cases w <;> first | rfl | exact absurd rfl (h _)
  | l n => rfl
  | o n => rfl
theorem o_isNl {st : Store} {n : Nat} : opIsN false (.l n) (.v .non) st = .ok (.v (.bl false)) st := rfl
/-! calls -/
def kLen (o : Option (List W)) (x : Sl) (st : Store) : Res Sl := match o with
    | some xs => .ok (.v (.int xs.length)) st
    | none => match x with
      | .v (.str z) => if z.length ≤ big then .ok (.v (.int z.length)) st else .bad
      | _ => .bad
theorem f_len {x : Sl} {st : Store} : fLen [x] st = kLen (items st x) x st := rfl
theorem k_len {xs : List W} {x : Sl} {st : Store} : kLen (some xs) x st = .ok (.v (.int (xs.length : Int))) st := rfl
theorem k_lenS {z : Str} {st : Store} (h : z.length ≤ big) : kLen none (.v (.str z)) st = .ok (.v (.int (z.length : Int))) st := by unfold kLen; dsimp only; rw [if_pos h]
theorem i_str {st : Store} {z : Str} : items st (.v (.str z)) = none := rfl
theorem f_int {i : Int} {st : Store} : fInt [.v (.int i)] st = .ok (.v (.int i)) st := rfl
theorem f_intb {b : Bool} {st : Store} : fInt [.v (.bl b)] st = .ok (.v (.int (if b then 1 else 0))) st := rfl
theorem f_abs {i : Int} {st : Store} : fAbs [.v (.int i)] st = .ok (.v (.int (if i < 0 then -i else i))) st := rfl
theorem f_max2 {i j : Int} {st : Store} : fMax2 [.v (.int i), .v (.int j)] st = .ok (.v (.int (if j > i then j else i))) st := rfl
theorem f_min2 {i j : Int} {st : Store} : fMin2 [.v (.int i), .v (.int j)] st = .ok (.v (.int (if j < i then j else i))) st := rfl
def kList (o : Option (List W)) (st : Store) : Res Sl := match o with
  | some xs => .ok (.v (.lst xs)) st
  | none => .bad
def kListM (o : Option (List W)) (st : Store) : Res Sl := match o with
  | some xs => .ok (.l st.l.length) (st.push (.lst xs))
  | none => .bad
theorem f_list {x : Sl} {st : Store} : fList [x] st = kList (items st x) st := rfl
theorem f_listM {x : Sl} {st : Store} : fListM [x] st = kListM (items st x) st := rfl
theorem k_list {xs : List W} {st : Store} : kList (some xs) st = .ok (.v (.lst xs)) st := rfl
theorem k_listM {xs : List W} {st : Store} : kListM (some xs) st = .ok (.l st.l.length) (st.push (.lst xs)) := rfl
theorem f_tupT {xs : List W} {st : Store} : fTuple [.v (.tup xs)] st = .ok (.v (.tup xs)) st := rfl
def kTupL (o : Option (List W)) (st : Store) : Res Sl := match o with
  | some xs => .ok (.v (.tup xs)) st
  | none => .bad
theorem f_tupV {xs : List W} {st : Store} : fTuple [.v (.lst xs)] st = .ok (.v (.tup xs)) st := rfl
theorem f_tupL {n : Nat} {st : Store} : fTuple [.l n] st = kTupL (st.lget n) st := rfl
theorem k_tupL {xs : List W} {st : Store} : kTupL (some xs) st = .ok (.v (.tup xs)) st := rfl
def kSum2 (o : Option (List Int)) (st : Store) : Res Sl := match o with
  | some ns => .ok (.v (.int ns.sum)) st
  | none => .bad
def kSum (o : Option (List W)) (st : Store) : Res Sl := match o with
  | some xs => kSum2 (intsOf xs) st
  | none => .bad
theorem f_sum {x : Sl} {st : Store} : fSum [x] st = kSum (litems st x) st := rfl
theorem k_sum {xs : List W} {st : Store} : kSum (some xs) st = kSum2 (intsOf xs) st := rfl
theorem k_sum2 {ns : List Int} {st : Store} : kSum2 (some ns) st = .ok (.v (.int ns.sum)) st := rfl
def kAll2 (f : List Bool → Bool) (o : Option (List Bool)) (st : Store) : Res Sl := match o with
  | some ns => .ok (.v (.bl (f ns))) st
  | none => .bad
def kAll (f : List Bool → Bool) (o : Option (List W)) (st : Store) : Res Sl := match o with
  | some xs => kAll2 f (bsOf xs) st
  | none => .bad
theorem f_all {f : List Bool → Bool} {x : Sl} {st : Store} : fAll f [x] st = kAll f (litems st x) st := rfl
theorem k_all {f : List Bool → Bool} {xs : List W} {st : Store} : kAll f (some xs) st = kAll2 f (bsOf xs) st := rfl
theorem k_all2 {f : List Bool → Bool} {ns : List Bool} {st : Store} : kAll2 f (some ns) st = .ok (.v (.bl (f ns))) st := rfl
def kMaxL2 (o : Option (List Int)) (st : Store) : Res Sl := match o with
  | some ns => if 0 < ns.length then .ok (.v (.int (maxOf ns))) st else .bad
  | none => .bad
def kMaxL (o : Option (List W)) (st : Store) : Res Sl := match o with
  | some xs => kMaxL2 (intsOf xs) st
  | none => .bad
theorem f_maxL {x : Sl} {st : Store} : fMaxL [x] st = kMaxL (litems st x) st := rfl
theorem k_maxL {xs : List W} {st : Store} : kMaxL (some xs) st = kMaxL2 (intsOf xs) st := rfl
theorem k_maxL2 {ns : List Int} {st : Store} (h : 0 < ns.length) : kMaxL2 (some ns) st = .ok (.v (.int (maxOf ns))) st := by unfold kMaxL2; dsimp only; rw [if_pos h]
def kIsTy (t : String) (r : Res Sl) : Res Sl := r.bind fun x st1 => match tyName st1 x with
  | some n => match kitB n t with
    | some b => .ok (.v (.bl b)) st1
    | none => .bad
  | none => .bad
theorem e_isTy {t : String} {a : ME} {env : Env} {st : Store} : mIsTy t a env st = kIsTy t (a env st) := rfl
def kIsTy3 (o : Option Bool) (st : Store) : Res Sl := match o with
    | some b => .ok (.v (.bl b)) st
    | none => .bad
def kIsTy2 (t : String) (o : Option String) (st : Store) : Res Sl := match o with
  | some n => kIsTy3 (kitB n t) st
  | none => .bad
theorem k_isTy {t : String} {x : Sl} {st : Store} : kIsTy t (.ok x st) = kIsTy2 t (tyName st x) st := rfl
theorem k_isTy2 {t n : String} {st : Store} : kIsTy2 t (some n) st = kIsTy3 (kitB n t) st := rfl
theorem k_isTy3 {b : Bool} {st : Store} : kIsTy3 (some b) st = .ok (.v (.bl b)) st := rfl
theorem ty_non {st : Store} : tyName st (.v .non) = some "NoneType" := rfl
theorem ty_bl {st : Store} {b : Bool} : tyName st (.v (.bl b)) = some "bool" := rfl
theorem ty_int {st : Store} {i : Int} : tyName st (.v (.int i)) = some "int" := rfl
theorem ty_str {st : Store} {x : Str} : tyName st (.v (.str x)) = some "str" := rfl
theorem ty_tup {st : Store} {xs : List W} : tyName st (.v (.tup xs)) = some "tuple" := rfl
theorem ty_lst {st : Store} {xs : List W} : tyName st (.v (.lst xs)) = some "list" := rfl
theorem ty_l {st : Store} {n : Nat} {xs : List W} (h : st.lget n = some xs) : tyName st (.l n) = some "list" := by
  unfold tyName; dsimp only; rw [Store.lget_of h]
theorem kb1 : kitB "int" "int" = some true := by decide +kernel
theorem kb2 : kitB "bool" "int" = some true := by decide +kernel
theorem kb3 : kitB "int" "bool" = some false := by decide +kernel
theorem kb4 : kitB "bool" "bool" = some true := by decide +kernel
theorem kb5 : kitB "str" "str" = some true := by decide +kernel
theorem kb6 : kitB "str" "int" = some false := by decide +kernel
theorem kb7 : kitB "str" "bool" = some false := by decide +kernel
theorem kb8 : kitB "tuple" "tuple" = some true := by decide +kernel
theorem kb9 : kitB "tuple" "int" = some false := by decide +kernel
theorem kb10 : kitB "tuple" "str" = some false := by decide +kernel
theorem kb11 : kitB "tuple" "list" = some false := by decide +kernel
theorem kb12 : kitB "list" "list" = some true := by decide +kernel
theorem kb13 : kitB "list" "int" = some false := by decide +kernel
theorem kb14 : kitB "list" "str" = some false := by decide +kernel
theorem kb15 : kitB "list" "tuple" = some false := by decide +kernel
theorem kb16 : kitB "NoneType" "int" = some false := by decide +kernel
theorem kb17 : kitB "NoneType" "str" = some false := by decide +kernel
theorem kb18 : kitB "list" "bool" = some false := by decide +kernel
theorem kb19 : kitB "tuple" "bool" = some false := by decide +kernel
theorem kb20 : kitB "int" "str" = some false := by decide +kernel
/-! methods, stores -/
def kLm1 (f : LM) (a : MA) (env : Env) (r : Res Sl) : Res Sl := r.bind fun x st1 => match x with
  | .l n => match st1.lget n with
    | some _ => (a env st1).bind fun ys st2 => match st2.lget n with
      | some xs => match f xs ys with
        | some (w, zs) => .ok (.v w) (st2.setl n (.lst zs))
        | none => .bad
      | none => .bad
    | none => .bad
  | _ => .bad
def kLm2 (f : LM) (n : Nat) (r : Res (List Sl)) : Res Sl := r.bind fun ys st2 => match st2.lget n with
      | some xs => match f xs ys with
        | some (w, zs) => .ok (.v w) (st2.setl n (.lst zs))
        | none => .bad
      | none => .bad
theorem e_lm {f : LM} {o : ME} {a : MA} {env : Env} {st : Store} : mLm f o a env st = kLm1 f a env (o env st) := rfl
def kLm0 (o : Option (List W)) (f : LM) (n : Nat) (a : MA) (env : Env) (st : Store) : Res Sl := match o with
  | some _ => kLm2 f n (a env st)
  | none => .bad
def kLm4 (n : Nat) (o : Option (W × List W)) (st : Store) : Res Sl := match o with
  | some (w, zs) => .ok (.v w) (st.setl n (.lst zs))
  | none => .bad
def kLm3 (f : LM) (n : Nat) (o : Option (List W)) (ys : List Sl) (st : Store) : Res Sl := match o with
  | some xs => kLm4 n (f xs ys) st
  | none => .bad
theorem k_lm1 {f : LM} {a : MA} {env : Env} {n : Nat} {st : Store} : kLm1 f a env (.ok (.l n) st) = kLm0 (st.lget n) f n a env st := rfl
theorem k_lm0 {f : LM} {a : MA} {env : Env} {n : Nat} {st : Store} {xs : List W} : kLm0 (some xs) f n a env st = kLm2 f n (a env st) := rfl
theorem k_lm2 {f : LM} {n : Nat} {ys : List Sl} {st : Store} : kLm2 f n (.ok ys st) = kLm3 f n (st.lget n) ys st := by
  unfold kLm2 Res.bind kLm3 kLm4
  dsimp only
theorem k_lm3 {f : LM} {n : Nat} {xs : List W} {ys : List Sl} {st : Store} : kLm3 f n (some xs) ys st = kLm4 n (f xs ys) st := rfl
theorem k_lm4 {n : Nat} {w : W} {zs : List W} {st : Store} : kLm4 n (some (w, zs)) st = .ok (.v w) (st.setl n (.lst zs)) := rfl
theorem l_popAt {xs : List W} {i : Int} (h0 : 0 ≤ i) (h1 : i < xs.length) (h2 : xs.length ≤ big) : lmPopAt xs [.v (.int i)] = (xs[i.toNat]?).map fun w => (w, xs.eraseIdx i.toNat) := by
  have e : seqIndex? i xs.length = some i.toNat := by
    unfold seqIndex?
    first
      | (rw [if_pos (by omega)]; done)
      | (simp; omega)
      | (split <;> simp_all <;> omega)
  have hb : (big : Int) < 2 ^ 63 := by decide
  unfold lmPopAt
  dsimp only
  rw [if_pos (by omega), e]
  dsimp only
  cases xs[i.toNat]? <;> rfl
theorem l_append {xs : List W} {w : W} (h : xs.length < big) : lmAppend xs [.v w] = some (.non, xs ++ [w]) := by unfold lmAppend; dsimp only; rw [if_pos h]
theorem l_insert {xs : List W} {i : Int} {w : W} (h : xs.length < big) (h0 : 0 ≤ i) (h1 : i < 2 ^ 63) : lmInsert xs [.v (.int i), .v w] = some (.non, xs.take i.toNat ++ [w] ++ xs.drop i.toNat) := by unfold lmInsert; dsimp only; rw [if_pos ⟨h, h0, h1⟩]
def kSet1 (o i : ME) (env : Env) (r : Res Sl) : SR := ofR env r fun y st1 => ofR env (o env st1) fun x st2 => ofR env (i env st2) fun k st3 => match y, x, k with
  | .v w, .l n, .v (.int j) => match st3.lget n with
    | some xs => match ixN xs.length j with
      | some q => .nx env (st3.setl n (.lst (xs.set q w)))
      | none => .bad
    | none => .bad
  | _, _, _ => .bad
def kSet2 (i : ME) (env : Env) (y : Sl) (r : Res Sl) : SR := ofR env r fun x st2 => ofR env (i env st2) fun k st3 => match y, x, k with
  | .v w, .l n, .v (.int j) => match st3.lget n with
    | some xs => match ixN xs.length j with
      | some q => .nx env (st3.setl n (.lst (xs.set q w)))
      | none => .bad
    | none => .bad
  | _, _, _ => .bad
def kSet3 (env : Env) (y x : Sl) (r : Res Sl) : SR := ofR env r fun k st3 => match y, x, k with
  | .v w, .l n, .v (.int j) => match st3.lget n with
    | some xs => match ixN xs.length j with
      | some q => .nx env (st3.setl n (.lst (xs.set q w)))
      | none => .bad
    | none => .bad
  | _, _, _ => .bad
theorem e_setI {o i e : ME} {env : Env} {st : Store} : mSetI o i e env st = kSet1 o i env (e env st) := rfl
theorem k_set1 {o i : ME} {env : Env} {y : Sl} {st : Store} : kSet1 o i env (.ok y st) = kSet2 i env y (o env st) := rfl
theorem k_set2 {i : ME} {env : Env} {y x : Sl} {st : Store} : kSet2 i env y (.ok x st) = kSet3 env y x (i env st) := rfl
def kSet5 (n : Nat) (xs : List W) (w : W) (o : Option Nat) (env : Env) (st : Store) : SR := match o with
      | some q => .nx env (st.setl n (.lst (xs.set q w)))
      | none => .bad
def kSet4 (n : Nat) (j : Int) (w : W) (o : Option (List W)) (env : Env) (st : Store) : SR := match o with
    | some xs => kSet5 n xs w (ixN xs.length j) env st
    | none => .bad
theorem k_set3 {env : Env} {w : W} {n : Nat} {j : Int} {st : Store} : kSet3 env (.v w) (.l n) (.ok (.v (.int j)) st) = kSet4 n j w (st.lget n) env st := rfl
theorem k_set4 {n : Nat} {j : Int} {w : W} {xs : List W} {env : Env} {st : Store} : kSet4 n j w (some xs) env st = kSet5 n xs w (ixN xs.length j) env st := rfl
theorem k_set5 {n : Nat} {xs : List W} {w : W} {q : Nat} {env : Env} {st : Store} : kSet5 n xs w (some q) env st = .nx env (st.setl n (.lst (xs.set q w))) := rfl
/-! slices -/
def kSl1 (a b : MO) (env : Env) (r : Res Sl) : Res Sl := r.bind fun x st1 => (a env st1).bind fun lo st2 => (b env st2).bind fun hi st3 => match x with
  | .v (.tup xs) => .ok (.v (.tup (cutW xs lo hi))) st3
  | .v (.str z) => if z.length ≤ big then .ok (.v (.str (cutS z lo hi))) st3 else .bad
  | _ => match litems st3 x with
    | some xs => .ok (.v (.lst (cutW xs lo hi))) st3
    | none => .bad
def kSl2 (b : MO) (env : Env) (x : Sl) (r : Res (Option Int)) : Res Sl := r.bind fun lo st2 => (b env st2).bind fun hi st3 => match x with
  | .v (.tup xs) => .ok (.v (.tup (cutW xs lo hi))) st3
  | .v (.str z) => if z.length ≤ big then .ok (.v (.str (cutS z lo hi))) st3 else .bad
  | _ => match litems st3 x with
    | some xs => .ok (.v (.lst (cutW xs lo hi))) st3
    | none => .bad
def kSl3 (x : Sl) (lo : Option Int) (r : Res (Option Int)) : Res Sl := r.bind fun hi st3 => match x with
  | .v (.tup xs) => .ok (.v (.tup (cutW xs lo hi))) st3
  | .v (.str z) => if z.length ≤ big then .ok (.v (.str (cutS z lo hi))) st3 else .bad
  | _ => match litems st3 x with
    | some xs => .ok (.v (.lst (cutW xs lo hi))) st3
    | none => .bad
theorem e_sl {o : ME} {a b : MO} {env : Env} {st : Store} : mSl o a b env st = kSl1 a b env (o env st) := rfl
theorem k_sl1 {a b : MO} {env : Env} {x : Sl} {st : Store} : kSl1 a b env (.ok x st) = kSl2 b env x (a env st) := rfl
theorem k_sl2 {b : MO} {env : Env} {x : Sl} {lo : Option Int} {st : Store} : kSl2 b env x (.ok lo st) = kSl3 x lo (b env st) := rfl
theorem k_sl3T {xs : List W} {lo hi : Option Int} {st : Store} : kSl3 (.v (.tup xs)) lo (.ok hi st) = .ok (.v (.tup (cutW xs lo hi))) st := rfl
theorem k_sl3S {z : Str} {lo hi : Option Int} {st : Store} (h : z.length ≤ big) : kSl3 (.v (.str z)) lo (.ok hi st) = .ok (.v (.str (cutS z lo hi))) st := by
  unfold kSl3 Res.bind; dsimp only; rw [if_pos h]
theorem k_sl3L {xs : List W} {lo hi : Option Int} {st : Store} : kSl3 (.v (.lst xs)) lo (.ok hi st) = .ok (.v (.lst (cutW xs lo hi))) st := rfl
def kCutL (o : Option (List W)) (lo hi : Option Int) (st : Store) : Res Sl := match o with
  | some xs => .ok (.v (.lst (cutW xs lo hi))) st
  | none => .bad
theorem k_sl3l {n : Nat} {lo hi : Option Int} {st : Store} : kSl3 (.l n) lo (.ok hi st) = kCutL (st.lget n) lo hi st := rfl
theorem k_cutL {xs : List W} {lo hi : Option Int} {st : Store} : kCutL (some xs) lo hi st = .ok (.v (.lst (cutW xs lo hi))) st := rfl
theorem e_no {env : Env} {st : Store} : mNo env st = .ok none st := rfl
def kPart (r : Res Sl) : Res (Option Int) := r.bind fun x st1 => match x with
  | .v (.int i) => .ok (some i) st1
  | _ => .bad
theorem e_part {a : ME} {env : Env} {st : Store} : mPart a env st = kPart (a env st) := rfl
theorem k_part {i : Int} {st : Store} : kPart (.ok (.v (.int i)) st) = .ok (some i) st := rfl
/-! walks -/
theorem e_itS {a : ME} {env : Env} {st : Store} : mItS a env st = (a env st).bind srcOf := rfl
theorem k_bind {α β : Type} {a : α} {st : Store} {k : α → Store → Res β} : (Res.ok a st).bind k = k a st := rfl
theorem src_tup {xs : List W} {st : Store} : srcOf (.v (.tup xs)) st = .ok ⟨xs, fun _ => True⟩ st := rfl
theorem src_lst {xs : List W} {st : Store} : srcOf (.v (.lst xs)) st = .ok ⟨xs, fun _ => True⟩ st := rfl
def kSrc (n : Nat) (o : Option (List W)) (st : Store) : Res Src := match o with
  | some xs => .ok ⟨xs, stands (.l n) xs⟩ st
  | none => .bad
theorem src_l {n : Nat} {st : Store} : srcOf (.l n) st = kSrc n (st.lget n) st := rfl
theorem k_src {n : Nat} {xs : List W} {st : Store} : kSrc n (some xs) st = .ok ⟨xs, stands (.l n) xs⟩ st := rfl
theorem src_str {z : Str} {st : Store} : srcOf (.v (.str z)) st = .ok ⟨signs z, fun _ => True⟩ st := rfl
def kItR1 (r : Res (List Sl)) : Res Src := r.bind fun xs st1 => match xs with
  | [.v (.int n)] => if -(2 ^ 62) ≤ n ∧ n < 2 ^ 62 then .ok ⟨rangeW 0 n.toNat, fun _ => True⟩ st1 else .bad
  | _ => .bad
theorem e_itR1 {a : MA} {env : Env} {st : Store} : mItR1 a env st = kItR1 (a env st) := rfl
theorem k_itR1 {n : Int} {st : Store} (h : -(2 ^ 62) ≤ n) (h2 : n < 2 ^ 62) : kItR1 (.ok [.v (.int n)] st) = .ok ⟨rangeW 0 n.toNat, fun _ => True⟩ st := by
  unfold kItR1 Res.bind; dsimp only; rw [if_pos ⟨h, h2⟩]
def kItR2 (r : Res (List Sl)) : Res Src := r.bind fun xs st1 => match xs with
  | [.v (.int i), .v (.int j)] => if -(2 ^ 62) ≤ i ∧ i < 2 ^ 62 ∧ -(2 ^ 62) ≤ j ∧ j < 2 ^ 62 then .ok ⟨rangeW i (j - i).toNat, fun _ => True⟩ st1 else .bad
  | _ => .bad
theorem e_itR2 {a : MA} {env : Env} {st : Store} : mItR2 a env st = kItR2 (a env st) := rfl
theorem k_itR2 {i j : Int} {st : Store} (h : -(2 ^ 62) ≤ i ∧ i < 2 ^ 62 ∧ -(2 ^ 62) ≤ j ∧ j < 2 ^ 62) : kItR2 (.ok [.v (.int i), .v (.int j)] st) = .ok ⟨rangeW i (j - i).toNat, fun _ => True⟩ st := by
  unfold kItR2 Res.bind; dsimp only; rw [if_pos h]
noncomputable def kFor (pt : Pat) (mb : MS) (env : Env) (r : Res Src) : SR := ofR env r fun s st1 => loopL s.gd pt mb s.xs env st1
theorem e_for {mi : MI} {pt : Pat} {mb : MS} {env : Env} {st : Store} : mFor mi pt mb env st = kFor pt mb env (mi env st) := rfl
theorem k_for {pt : Pat} {mb : MS} {env : Env} {s : Src} {st : Store} : kFor pt mb env (.ok s st) = loopL s.gd pt mb s.xs env st := rfl
noncomputable def kLc (pt : Pat) (mt : MT) (me : ME) (vs : List Nat) (env : Env) (r : Res Src) : Res Sl := r.bind fun s st1 => lcL s.gd pt mt me (wipeE env vs) st1.l.length (freezeF st1.l.length st1.o) s.xs (st1.push (.lst []))
theorem e_lc {mi : MI} {pt : Pat} {mt : MT} {me : ME} {vs : List Nat} {env : Env} {st : Store} : mLc mi pt mt me vs env st = kLc pt mt me vs env (mi env st) := rfl
theorem k_lc {pt : Pat} {mt : MT} {me : ME} {vs : List Nat} {env : Env} {s : Src} {st : Store} : kLc pt mt me vs env (.ok s st) = lcL s.gd pt mt me (wipeE env vs) st.l.length (freezeF st.l.length st.o) s.xs (st.push (.lst [])) := rfl
noncomputable def kLcM (pt : Pat) (mt : MT) (me : ME) (vs : List Nat) (env : Env) (r : Res Src) : Res Sl := r.bind fun s st1 => lcL s.gd pt mt me (wipeE env vs) st1.l.length (fun st2 => .ok (.l st1.l.length) st2) s.xs (st1.push (.lst []))
theorem e_lcM {mi : MI} {pt : Pat} {mt : MT} {me : ME} {vs : List Nat} {env : Env} {st : Store} : mLcM mi pt mt me vs env st = kLcM pt mt me vs env (mi env st) := rfl
theorem k_lcM {pt : Pat} {mt : MT} {me : ME} {vs : List Nat} {env : Env} {s : Src} {st : Store} : kLcM pt mt me vs env (.ok s st) = lcL s.gd pt mt me (wipeE env vs) st.l.length (fun st2 => .ok (.l st.l.length) st2) s.xs (st.push (.lst [])) := rfl
theorem e_yes {env : Env} {st : Store} : mYes env st = .ok true st := rfl
theorem w_nil {env : Env} : wipeE env [] = env := rfl
theorem w_cons {env : Env} {v : Nat} {vs : List Nat} : wipeE env (v :: vs) = (wipeE env vs).set v none := rfl
theorem b_nm {i : Nat} {w : W} {env : Env} : bindP (.nm i) w env = some (env.set i (some (.v w))) := by unfold bindP; rfl
theorem b_tp {ps : List Pat} {ws : List W} {env : Env} : bindP (.tp ps) (.tup ws) env = bindPs ps ws env := by unfold bindP; rfl
theorem b_pnil {env : Env} : bindPs [] [] env = some env := by unfold bindPs; rfl
theorem b_pnm {i : Nat} {ps : List Pat} {w : W} {ws : List W} {env : Env} : bindPs (.nm i :: ps) (w :: ws) env = bindPs ps ws (env.set i (some (.v w))) := by
  conv => lhs; unfold bindPs
  rw [b_nm]
theorem b_ptp {qs ps : List Pat} {vs ws : List W} {env : Env} : bindPs (.tp qs :: ps) (.tup vs :: ws) env = (bindPs qs vs env).bind fun env1 => bindPs ps ws env1 := by
  conv => lhs; unfold bindPs
  rw [b_tp]
  cases bindPs qs vs env <;> rfl
/-! the store -/
theorem st_setl_get {st : Store} {n : Nat} {xs : List W} (h : n < st.l.length) : (st.setl n (.lst xs)).lget n = some xs := by
  unfold Store.lget Store.setl; dsimp only; rw [List.getElem?_set_self h]
theorem st_setl_ne {st : Store} {n m : Nat} {x : Lo} (h : n ≠ m) : (st.setl n x).lget m = st.lget m := by
  unfold Store.lget Store.setl; dsimp only; rw [List.getElem?_set_ne h]
theorem st_setl_len {st : Store} {n : Nat} {x : Lo} : (st.setl n x).l.length = st.l.length := by unfold Store.setl; exact List.length_set
theorem st_setl_o {st : Store} {n : Nat} {x : Lo} : (st.setl n x).o = st.o := rfl
theorem st_setl_setl {st : Store} {n : Nat} {x y : Lo} : (st.setl n x).setl n y = st.setl n y := by unfold Store.setl; dsimp only; rw [List.set_set]
theorem st_push_len {st : Store} {x : Lo} : (st.push x).l.length = st.l.length + 1 := by unfold Store.push; simp
theorem st_push_o {st : Store} {x : Lo} : (st.push x).o = st.o := rfl
theorem st_push_get {st : Store} {xs : List W} : (st.push (.lst xs)).lget st.l.length = some xs := by unfold Store.lget Store.push; simp
theorem st_push_lt {st : Store} {x : Lo} {n : Nat} (h : n < st.l.length) : (st.push x).lget n = st.lget n := by
  unfold Store.lget Store.push; dsimp only; rw [List.getElem?_append_left h]
theorem st_push_setl {st : Store} {x y : Lo} {n : Nat} (h : n < st.l.length) : (st.push x).setl n y = (st.setl n y).push x := by
  unfold Store.setl Store.push; dsimp only; rw [List.set_append_left _ _ h]
theorem st_push_set {st : Store} {x y : Lo} : (st.push x).setl st.l.length y = st.push y := by
  unfold Store.setl Store.push; dsimp only; rw [List.set_append_right _ _ (Nat.le_refl _)]; simp
theorem lget_lt {st : Store} {n : Nat} {xs : List W} (h : st.lget n = some xs) : n < st.l.length := get_lt (Store.lget_of h)
/-! ends of calls -/
theorem fn_tr {np nl : Nat} {body : MS} {args : List Sl} {st : Store} (h : args.length = np) : mFn np nl .tr body args st = fin .tr st (body (args.map some ++ List.replicate (nl - np) none) st) := by unfold mFn; rw [if_pos h]
theorem fn_kp {np nl : Nat} {body : MS} {args : List Sl} {st : Store} (h : args.length = np) : mFn np nl .kp body args st = fin .kp st (body (args.map some ++ List.replicate (nl - np) none) st) := by unfold mFn; rw [if_pos h]
theorem fn_ini {np nl : Nat} {body : MS} {args : List Sl} {st : Store} (h : args.length = np) : mFn np nl .ini body args st = fin .ini st (body (args.map some ++ List.replicate (nl - np) none) st) := by unfold mFn; rw [if_pos h]
theorem fin_same {st : Store} {w : W} : fin .tr st (.rt (.v w) st) = .ok (.v w) st := by
  unfold fin cut; dsimp only; rw [List.take_length, if_pos rfl, List.take_length]
theorem fin_cutv {st st1 : Store} {w : W} (ho : st1.o = st.o) : fin .tr st (.rt (.v w) st1) = .ok (.v w) ⟨st1.l.take st.l.length, st.o⟩ := by
  unfold fin cut; dsimp only; rw [ho, List.take_length, if_pos rfl]
theorem fin_setv {st : Store} {w : W} {n : Nat} {x : Lo} : fin .tr st (.rt (.v w) (st.setl n x)) = .ok (.v w) (st.setl n x) := by
  rw [fin_cutv (st1 := st.setl n x) (by rfl)]
  congr 1
  show Store.mk ((st.l.set n x).take st.l.length) st.o = ⟨st.l.set n x, st.o⟩
  rw [List.take_of_length_le (by simp)]
theorem fin_nx {st st1 : Store} {env : Env} (ho : st1.o = st.o) : fin .tr st (.nx env st1) = .ok (.v .non) ⟨st1.l.take st.l.length, st.o⟩ := by
  unfold fin cut; dsimp only; rw [ho, List.take_length, if_pos rfl]
/-- a list made in the call is handed back -/
theorem fin_lst {st st1 : Store} {k : Nat} {xs : List W} (ho : st1.o = st.o) (hk : st.l.length ≤ k) (hx : st1.lget k = some xs) : fin .tr st (.rt (.l k) st1) = .ok (.v (.lst xs)) ⟨st1.l.take st.l.length, st.o⟩ := by
  unfold fin cut; dsimp only; rw [if_neg (by omega), hx]; dsimp only; rw [ho, List.take_length, if_pos rfl]
theorem fin_kp_rt {st st1 : Store} {s : Sl} : fin .kp st (.rt s st1) = .ok s st1 := rfl
theorem fin_kp_nx {st st1 : Store} {env : Env} : fin .kp st (.nx env st1) = .ok (.v .non) st1 := rfl
theorem cut_push {st : Store} {x : Lo} : Store.mk ((st.push x).l.take st.l.length) st.o = st := by
  unfold Store.push; dsimp only; rw [List.take_append_of_le_length (Nat.le_refl _), List.take_length]
theorem take_set_lt {α : Type} {l : List α} {n k : Nat} {x : α} (h : k ≤ n) : (l.set n x).take k = l.take k := by
  rw [List.take_set]; exact List.set_eq_of_length_le (by rw [List.length_take]; omega)
/-! loops, comprehensions: by an invariant -/
theorem loop_inv {gd : Store → Prop} {pt : Pat} {mb : MS} (I : Nat → Env → Store → Prop) : ∀ (xs : List W) (i : Nat) (env : Env) (st : Store), I i env st →
    (∀ j x env st, xs[j]? = some x → I (i + j) env st → gd st ∧ ∃ env1, bindP pt x env = some env1 ∧ ∃ env2 st2, (mb env1 st = .nx env2 st2 ∨ mb env1 st = .ct env2 st2) ∧ I (i + j + 1) env2 st2) →
    (∀ env st, I (i + xs.length) env st → gd st) → ∃ env' st', loopL gd pt mb xs env st = .nx env' st' ∧ I (i + xs.length) env' st'
  | [], i, env, st, h, _, hg => ⟨env, st, by unfold loopL; rw [if_pos (hg env st h)], h⟩
  | x :: xs, i, env, st, h, hs, hg => by
    obtain ⟨g, env1, e1, env2, st2, e2, h2⟩ := hs 0 x env st rfl h
    obtain ⟨env', st', e3, h3⟩ := loop_inv I xs (i + 1) env2 st2 h2 (fun j y env st hy hi => by
      have := hs (j + 1) y env st (by simpa using hy) (by rw [show i + (j + 1) = i + 1 + j by omega]; exact hi)
      rw [show i + (j + 1) + 1 = i + 1 + j + 1 by omega] at this
      exact this) (fun env st hi => hg env st (by rw [List.length_cons, show i + (xs.length + 1) = i + 1 + xs.length by omega]; exact hi))
    refine ⟨env', st', ?_, by rw [List.length_cons, show i + (xs.length + 1) = i + 1 + xs.length by omega]; exact h3⟩
    unfold loopL
    rw [if_pos g, e1]
    dsimp only
    rcases e2 with e2 | e2 <;> rw [e2] <;> exact e3
/-- a comprehension whose element may change the store -/
theorem lc_inv {β : Type} {gd : Store → Prop} {pt : Pat} {mt : MT} {me : ME} {env : Env} {n : Nat} {fin : Store → Res β} (I : Nat → List W → Store → Prop) : ∀ (xs : List W) (i : Nat) (acc : List W) (st : Store), st.l.length = n → I i acc st → acc.length + xs.length ≤ big →
    (∀ j x acc st, st.l.length = n → xs[j]? = some x → I (i + j) acc st → gd (st.push (.lst acc)) ∧ ∃ env1, bindP pt x env = some env1 ∧
      ((mt env1 (st.push (.lst acc)) = .ok false (st.push (.lst acc)) ∧ I (i + j + 1) acc st) ∨
       (mt env1 (st.push (.lst acc)) = .ok true (st.push (.lst acc)) ∧ ∃ w st2, st2.l.length = n ∧ me env1 (st.push (.lst acc)) = .ok (.v w) (st2.push (.lst acc)) ∧ I (i + j + 1) (acc ++ [w]) st2))) →
    (∀ acc st, I (i + xs.length) acc st → gd (st.push (.lst acc))) → ∃ acc' st', st'.l.length = n ∧ lcL gd pt mt me env n fin xs (st.push (.lst acc)) = fin (st'.push (.lst acc')) ∧ I (i + xs.length) acc' st'
  | [], i, acc, st, hn, h, _, _, hg => ⟨acc, st, hn, by unfold lcL; rw [if_pos (hg acc st h)], h⟩
  | x :: xs, i, acc, st, hn, h, hz, hs, hg => by
    obtain ⟨g, env1, e1, hh⟩ := hs 0 x acc st hn rfl h
    have next : ∀ acc2 st2, st2.l.length = n → I (i + 0 + 1) acc2 st2 → acc2.length + xs.length ≤ big → ∃ acc' st', st'.l.length = n ∧ lcL gd pt mt me env n fin xs (st2.push (.lst acc2)) = fin (st'.push (.lst acc')) ∧ I (i + (x :: xs).length) acc' st' := fun acc2 st2 hn2 h2 hz2 => by
      obtain ⟨acc', st', hn', e3, h3⟩ := lc_inv I xs (i + 1) acc2 st2 hn2 h2 hz2 (fun j y acc st hn hy hi => by
        have := hs (j + 1) y acc st hn (by simpa using hy) (by rw [show i + (j + 1) = i + 1 + j by omega]; exact hi)
        rw [show i + (j + 1) + 1 = i + 1 + j + 1 by omega] at this
        exact this) (fun acc st hi => hg acc st (by rw [List.length_cons, show i + (xs.length + 1) = i + 1 + xs.length by omega]; exact hi))
      exact ⟨acc', st', hn', e3, by rw [List.length_cons, show i + (xs.length + 1) = i + 1 + xs.length by omega]; exact h3⟩
    rw [List.length_cons] at hz
    rcases hh with ⟨em, h2⟩ | ⟨em, w, st2, hn2, ee, h2⟩
    · obtain ⟨acc', st', hn', e3, h3⟩ := next acc st hn h2 (by omega)
      refine ⟨acc', st', hn', ?_, h3⟩
      unfold lcL
      rw [if_pos g, e1]
      dsimp only
      rw [em]
      exact e3
    · obtain ⟨acc', st', hn', e3, h3⟩ := next (acc ++ [w]) st2 hn2 h2 (by rw [List.length_append, List.length_singleton]; omega)
      refine ⟨acc', st', hn', ?_, h3⟩
      unfold lcL
      rw [if_pos g, e1]
      dsimp only
      rw [em]
      show (me env1 (st.push (.lst acc))).then _ = _
      rw [ee]
      unfold Res.then
      dsimp only
      rw [← hn2, st_push_get]
      dsimp only
      rw [if_pos (by omega), st_push_set, hn2]
      exact e3
theorem fr_push {st : Store} {acc : List W} {o : List In} (ho : st.o = o) : freezeF st.l.length o (st.push (.lst acc)) = .ok (.v (.lst acc)) st := by
  unfold freezeF
  rw [st_push_get]
  dsimp only
  rw [if_pos ⟨st_push_len, ho⟩]
  congr 1
  rw [← ho]
  exact cut_push
/-- a comprehension that changes nothing -/
theorem lc_pure {gd : Store → Prop} {pt : Pat} {mt : MT} {me : ME} {env : Env} {st : Store} (p : W → Bool) (f : W → W) (xs : List W) (hz : xs.length ≤ big) (hg : ∀ acc, gd (st.push (.lst acc)))
    (h : ∀ x ∈ xs, ∃ env1, bindP pt x env = some env1 ∧ ∀ acc, mt env1 (st.push (.lst acc)) = .ok (p x) (st.push (.lst acc)) ∧ (p x = true → me env1 (st.push (.lst acc)) = .ok (.v (f x)) (st.push (.lst acc)))) :
    lcL gd pt mt me env st.l.length (freezeF st.l.length st.o) xs (st.push (.lst [])) = .ok (.v (.lst ((xs.filter p).map f))) st := by
  obtain ⟨acc', st', hn, e, h1, h2⟩ := lc_inv (gd := gd) (pt := pt) (mt := mt) (me := me) (env := env) (n := st.l.length) (fin := freezeF st.l.length st.o)
    (fun i acc st2 => st2 = st ∧ acc = ((xs.take i).filter p).map f) xs 0 [] st rfl ⟨rfl, by simp⟩ (by simpa using hz) (fun j x acc st2 _ hx ⟨e1, e2⟩ => by
      subst e1 e2
      rw [Nat.zero_add]
      obtain ⟨env1, b1, q⟩ := h x (List.mem_of_getElem? hx)
      have et : xs.take (j + 1) = xs.take j ++ [x] := by
        rw [List.take_succ, hx]; rfl
      refine ⟨hg _, env1, b1, ?_⟩
      obtain ⟨q1, q2⟩ := q (((xs.take j).filter p).map f)
      cases hp : p x with
      | false => exact .inl ⟨by rw [q1, hp], rfl, by rw [et]; simp [hp]⟩
      | true => exact .inr ⟨by rw [q1, hp], f x, st2, rfl, q2 hp, rfl, by rw [et]; simp [hp]⟩)
    (fun acc st2 ⟨e1, _⟩ => by subst e1; exact hg acc)
  rw [e]
  subst h1 h2
  rw [fr_push rfl, Nat.zero_add, List.take_length]
theorem mem_range {lo : Int} {n : Nat} {x : W} (h : x ∈ rangeW lo n) : ∃ k : Nat, k < n ∧ x = .int (lo + k) := by
  unfold rangeW at h
  obtain ⟨k, hk, e⟩ := List.mem_map.mp h
  exact ⟨k, List.mem_range.mp hk, e.symm⟩
theorem range_at {lo : Int} {n j : Nat} {x : W} (h : (rangeW lo n)[j]? = some x) : j < n ∧ x = .int (lo + j) := by
  unfold rangeW at h
  rw [List.getElem?_map] at h
  obtain ⟨k, hk, e⟩ := Option.map_eq_some_iff.mp h
  have hl := get_lt hk
  rw [List.length_range] at hl
  rw [List.getElem?_range hl] at hk
  cases hk
  exact ⟨hl, e.symm⟩
theorem range_len {lo : Int} {n : Nat} : (rangeW lo n).length = n := by unfold rangeW; simp
end Mz
namespace Mz
open PySem L2
/-! ## 15. a law's pool of numbers -/
def Pl (st : Store) (p : Nat) : Prop := ∃ a b c, st.lget p = some [.int a, .int b, .int c]
structure Pw (p : Nat) (st st' : Store) : Prop where
  len : st'.l.length = st.l.length
  o : st'.o = st.o
  pl : Pl st' p
  ne : ∀ q : Nat, q ≠ p → st'.l[q]? = st.l[q]?
theorem Pl.lt {st : Store} {p : Nat} (h : Pl st p) : p < st.l.length := let ⟨_, _, _, e⟩ := h; lget_lt e
theorem Pw.refl {p : Nat} {st : Store} (h : Pl st p) : Pw p st st := ⟨rfl, rfl, h, fun _ _ => rfl⟩
theorem Pw.trans {p : Nat} {a b c : Store} (h : Pw p a b) (g : Pw p b c) : Pw p a c := ⟨g.len.trans h.len, g.o.trans h.o, g.pl, fun q hq => (g.ne q hq).trans (h.ne q hq)⟩
theorem lget_eq {st st' : Store} {q : Nat} (h : st'.l[q]? = st.l[q]?) : st'.lget q = st.lget q := by unfold Store.lget; rw [h]
theorem Pw.get {p q : Nat} {st st' : Store} (h : Pw p st st') (hq : q ≠ p) : st'.lget q = st.lget q := lget_eq (h.ne q hq)
theorem Pw.other {p q : Nat} {st st' : Store} (h : Pw p st st') (g : Pl st q) : Pl st' q := by
  by_cases e : q = p
  · rw [e]; exact h.pl
  · obtain ⟨a, b, c, g⟩ := g; exact ⟨a, b, c, by rw [h.get e]; exact g⟩
theorem Pw.set {p : Nat} {st : Store} {a b c : Int} (h : p < st.l.length) : Pw p st (st.setl p (.lst [.int a, .int b, .int c])) :=
  ⟨st_setl_len, rfl, ⟨a, b, c, st_setl_get h⟩, fun q hq => by unfold Store.setl; dsimp only; exact List.getElem?_set_ne (Ne.symm hq)⟩
theorem Pl.push {st : Store} {p : Nat} {x : Lo} (h : Pl st p) : Pl (st.push x) p := by
  have := h.lt
  obtain ⟨a, b, c, e⟩ := h
  exact ⟨a, b, c, by rw [st_push_lt this]; exact e⟩
theorem push_at {st : Store} {x : Lo} {q : Nat} (h : q < st.l.length) : (st.push x).l[q]? = st.l[q]? := by unfold Store.push; dsimp only; exact List.getElem?_append_left h
theorem push_last {st : Store} {x : Lo} : (st.push x).l[st.l.length]? = some x := by unfold Store.push; simp
/-- what a push hides -/
theorem Pw.unpush {p : Nat} {st st' : Store} {x : Lo} (h : Pw p (st.push x) st') (hp : p < st.l.length) : ∃ st2, st' = st2.push x ∧ Pw p st st2 := by
  obtain ⟨l, o⟩ := st'
  have hl : l.length = st.l.length + 1 := by have := h.len; rw [st_push_len] at this; exact this
  have hlast : l[st.l.length]? = some x := by
    have := h.ne st.l.length (by omega)
    rw [push_last] at this
    exact this
  have el : l = l.take st.l.length ++ [x] := by
    apply List.ext_getElem?
    intro i
    by_cases h1 : i < st.l.length
    · rw [List.getElem?_append_left (by rw [List.length_take]; omega), List.getElem?_take_of_lt h1]
    · by_cases h2 : i = st.l.length
      · subst h2
        rw [hlast, List.getElem?_append_right (by rw [List.length_take]; omega), List.length_take, Nat.min_eq_left (by omega)]
        simp
      · rw [List.getElem?_eq_none (by omega), List.getElem?_eq_none (by rw [List.length_append, List.length_take, List.length_singleton]; omega)]
  refine ⟨⟨l.take st.l.length, o⟩, ?_, ?_, h.o, ?_, fun q hq => ?_⟩
  · unfold Store.push; dsimp only; rw [← el]
  · show (l.take st.l.length).length = st.l.length
    rw [List.length_take]; omega
  · obtain ⟨a, b, c, e⟩ := h.pl
    refine ⟨a, b, c, ?_⟩
    rw [← e]
    apply lget_eq
    show (l.take st.l.length)[p]? = l[p]?
    exact List.getElem?_take_of_lt hp
  · show (l.take st.l.length)[q]? = st.l[q]?
    by_cases h1 : q < st.l.length
    · rw [List.getElem?_take_of_lt h1, ← push_at (x := x) h1]
      exact h.ne q hq
    · rw [List.getElem?_eq_none (by rw [List.length_take]; omega), List.getElem?_eq_none (by omega)]
theorem Pw.push {p : Nat} {st st' : Store} {x : Lo} (h : Pw p st st') (hp : p < st.l.length) : Pw p (st.push x) (st'.push x) := by
  refine ⟨by rw [st_push_len, st_push_len, h.len], h.o, h.pl.push, fun q hq => ?_⟩
  by_cases h1 : q < st.l.length
  · rw [push_at h1, push_at (by rw [h.len]; exact h1)]; exact h.ne q hq
  · by_cases h2 : q = st.l.length
    · subst h2; rw [push_last, ← h.len, push_last]
    · rw [List.getElem?_eq_none (by rw [st_push_len, h.len]; omega), List.getElem?_eq_none (by rw [st_push_len]; omega)]
/-- lists made on the way are cut off -/
theorem Pw.cut {p : Nat} {st st1 : Store} (hp : p < st.l.length) (hl : st.l.length ≤ st1.l.length) (pl : Pl st1 p) (ne : ∀ q : Nat, q < st.l.length → q ≠ p → st1.l[q]? = st.l[q]?) : Pw p st ⟨st1.l.take st.l.length, st.o⟩ := by
  refine ⟨?_, rfl, ?_, fun q hq => ?_⟩
  · show (st1.l.take st.l.length).length = _
    rw [List.length_take]; omega
  · obtain ⟨a, b, c, e⟩ := pl
    refine ⟨a, b, c, ?_⟩
    rw [← e]
    exact lget_eq (List.getElem?_take_of_lt hp)
  · show (st1.l.take st.l.length)[q]? = _
    by_cases h1 : q < st.l.length
    · rw [List.getElem?_take_of_lt h1]; exact ne q h1 hq
    · rw [List.getElem?_eq_none (by rw [List.length_take]; omega), List.getElem?_eq_none (by omega)]
end Mz
namespace Mz
open PySem L2
/-! ## 16. equal data -/
def Plain : Nat → W → Prop
  | 0, _ => False
  | n + 1, w => match w with
    | .non | .bl _ | .int _ | .str _ => True
    | .tup xs | .lst xs => xs.length ≤ big ∧ ∀ x ∈ xs, Plain n x
    | _ => False
def Sees (st : Store) : Sl → W → Prop
  | .v w', w => w' = w
  | .l n, .lst xs => st.lget n = some xs
  | _, _ => False
theorem sees_v {st : Store} {w : W} : Sees st (.v w) w := by unfold Sees; rfl
theorem sees_l {st : Store} {n : Nat} {xs : List W} (h : st.lget n = some xs) : Sees st (.l n) (.lst xs) := by unfold Sees; exact h
theorem sees_lst {st : Store} {x : Sl} {xs : List W} (h : Sees st x (.lst xs)) : items st x = some xs ∧ tyName st x = some "list" := by
  cases x with
  | v w => unfold Sees at h; subst h; exact ⟨rfl, rfl⟩
  | l n => unfold Sees at h; exact ⟨h, ty_l h⟩
  | o n => unfold Sees at h; exact h.elim
theorem sees_tup {st : Store} {x : Sl} {xs : List W} (h : Sees st x (.tup xs)) : items st x = some xs ∧ tyName st x = some "tuple" := by
  cases x with
  | v w => unfold Sees at h; subst h; exact ⟨rfl, rfl⟩
  | l n => unfold Sees at h; exact h.elim
  | o n => unfold Sees at h; exact h.elim
theorem sees_flat {st : Store} {x : Sl} {w : W} (h : Sees st x w) (h2 : ∀ xs, w ≠ .lst xs) : x = .v w := by
  cases x with
  | v w => unfold Sees at h; subst h; rfl
  | l n => cases w <;> unfold Sees at h <;> first | exact h.elim | exact absurd rfl (h2 _)
  | o n => unfold Sees at h; exact h.elim
theorem seq_isN {st : Store} {x : Sl} {xs : List W} (h : items st x = some xs) : opIsN false x (.v .non) st = .ok (.v (.bl false)) st ∧ ∀ b, opIsN false x (.v (.bl b)) st = .ok (.v (.bl false)) st := by
  cases x with
  | v w => cases w <;> first | exact ⟨rfl, fun _ => rfl⟩ | (unfold items at h; cases h)
  | l n => exact ⟨rfl, fun _ => rfl⟩
  | o n => exact ⟨rfl, fun _ => rfl⟩
theorem kb_seq {t : String} (h : t = "list" ∨ t = "tuple") : kitB t "int" = some false ∧ kitB t "str" = some false ∧ kitB t "tuple" = some (decide (t = "tuple")) ∧ kitB t "list" = some (decide (t = "list")) := by
  rcases h with rfl | rfl <;> exact ⟨by decide +kernel, by decide +kernel, by decide +kernel, by decide +kernel⟩
theorem plain_int {n : Nat} {i : Int} : Plain (n + 1) (.int i) := by unfold Plain; trivial
theorem plain_str {n : Nat} {x : Str} : Plain (n + 1) (.str x) := by unfold Plain; trivial
theorem plain_bl {n : Nat} {b : Bool} : Plain (n + 1) (.bl b) := by unfold Plain; trivial
theorem plain_non {n : Nat} : Plain (n + 1) .non := by unfold Plain; trivial
theorem plain_lst {n : Nat} {xs : List W} (h : xs.length ≤ big) (h2 : ∀ x ∈ xs, Plain n x) : Plain (n + 1) (.lst xs) := by unfold Plain; exact ⟨h, h2⟩
theorem plain_tup {n : Nat} {xs : List W} (h : xs.length ≤ big) (h2 : ∀ x ∈ xs, Plain n x) : Plain (n + 1) (.tup xs) := by unfold Plain; exact ⟨h, h2⟩
theorem big62 : (big : Int) < 2 ^ 62 := by decide
end Mz
namespace Mz
open PySem L2
/-! ## 17. in, counting, stores with lists pushed -/
theorem inV_int {i : Int} : ∀ {hs : List Int}, inV (.int i) ((hs.map W.int).map toV) = decide (i ∈ hs)
  | [] => rfl
  | h :: hs => by
    have := inV_int (i := i) (hs := hs)
    unfold inV at this ⊢
    rw [List.map_cons, List.map_cons, List.any_cons, this]
    show (decide (h = i) || _) = _
    by_cases e : h = i
    · subst e; simp
    · have : ¬ i = h := fun x => e x.symm
      simp [e, this, List.mem_cons]
theorem inV_str {i : Str} : ∀ {hs : List Str}, inV (.str i) ((hs.map W.str).map toV) = decide (i ∈ hs)
  | [] => rfl
  | h :: hs => by
    have := inV_str (i := i) (hs := hs)
    unfold inV at this ⊢
    rw [List.map_cons, List.map_cons, List.any_cons, this]
    show (decide (h = i) || _) = _
    by_cases e : h = i
    · subst e; simp
    · have : ¬ i = h := fun x => e x.symm
      simp [e, this, List.mem_cons]
theorem flat_ints : ∀ {hs : List Int}, (hs.map W.int).all flatW = true
  | [] => rfl
  | _ :: hs => by rw [List.map_cons, List.all_cons, flat_ints (hs := hs)]; rfl
theorem flat_strs : ∀ {hs : List Str}, (hs.map W.str).all flatW = true
  | [] => rfl
  | _ :: hs => by rw [List.map_cons, List.all_cons, flat_strs (hs := hs)]; rfl
theorem o_in_int {neg : Bool} {i : Int} {y : Sl} {st : Store} {hs : List Int} (h : items st y = some (hs.map W.int)) : opIn neg (.v (.int i)) y st = .ok (.v (.bl (if neg then !decide (i ∈ hs) else decide (i ∈ hs)))) st := by
  unfold opIn
  dsimp only
  rw [h]
  dsimp only
  rw [if_pos ⟨rfl, flat_ints⟩, show toV (.int i) = .int i from rfl, inV_int]
theorem o_in_str {neg : Bool} {i : Str} {y : Sl} {st : Store} {hs : List Str} (h : items st y = some (hs.map W.str)) : opIn neg (.v (.str i)) y st = .ok (.v (.bl (if neg then !decide (i ∈ hs) else decide (i ∈ hs)))) st := by
  unfold opIn
  dsimp only
  rw [h]
  dsimp only
  rw [if_pos ⟨rfl, flat_strs⟩, show toV (.str i) = .str i from rfl, inV_str]
theorem items_push {st : Store} {x : Lo} {y : Sl} {xs : List W} (h : items st y = some xs) : items (st.push x) y = some xs := by
  cases y with
  | v w => cases w <;> first | exact h | (unfold items at h; cases h)
  | l n =>
    have h' : st.lget n = some xs := h
    show (st.push x).lget n = some xs
    rw [st_push_lt (lget_lt h')]
    exact h'
  | o n => cases h
theorem map_fill {α β : Type} {f : α → β} {xs : List α} {x : α} : xs.map f ++ [f x] = (xs ++ [x]).map f := by rw [List.map_append]; rfl
def izs (lo : Int) (n : Nat) : List Int := (List.range n).map fun k : Nat => lo + (k : Int)
theorem range_izs {lo : Int} {n : Nat} : rangeW lo n = (izs lo n).map W.int := by unfold rangeW izs; rw [List.map_map]; rfl
theorem mem_izs {lo : Int} {n : Nat} {x : Int} : x ∈ izs lo n ↔ lo ≤ x ∧ x < lo + n := by
  unfold izs
  rw [List.mem_map]
  constructor
  · rintro ⟨k, hk, rfl⟩
    have := List.mem_range.mp hk
    omega
  · rintro ⟨h1, h2⟩
    exact ⟨(x - lo).toNat, List.mem_range.mpr (by omega), by omega⟩
theorem nodup_map {α β : Type} {f : α → β} (hf : ∀ a b, f a = f b → a = b) : ∀ {xs : List α}, xs.Nodup → (xs.map f).Nodup
  | [], _ => List.nodup_nil
  | x :: xs, h => by
    rw [List.map_cons, List.nodup_cons]
    rw [List.nodup_cons] at h
    refine ⟨fun hm => ?_, nodup_map hf h.2⟩
    obtain ⟨y, hy, e⟩ := List.mem_map.mp hm
    exact h.1 (hf _ _ e ▸ hy)
theorem nodup_izs {lo : Int} {n : Nat} : (izs lo n).Nodup := nodup_map (fun a b h => by omega) List.nodup_range
theorem len_izs {lo : Int} {n : Nat} : (izs lo n).length = n := by unfold izs; simp
theorem nodup_filter {α : Type} {p : α → Bool} {xs : List α} (h : xs.Nodup) : (xs.filter p).Nodup := h.sublist List.filter_sublist
theorem filter_map_int {p : W → Bool} {hs : List Int} : (hs.map W.int).filter p = (hs.filter fun i => p (.int i)).map W.int := by rw [List.filter_map]; rfl
/-- two duplicate-free lists see each other alike -/
theorem count_swap {α : Type} [DecidableEq α] {xs ys : List α} (hx : xs.Nodup) (hy : ys.Nodup) : (xs.filter fun x => decide (x ∈ ys)).length = (ys.filter fun y => decide (y ∈ xs)).length :=
  ((List.perm_ext_iff_of_nodup (nodup_filter hx) (nodup_filter hy)).mpr fun a => by simp [List.mem_filter, and_comm]).length_eq
theorem filter_not_len {α : Type} (p : α → Bool) : ∀ xs : List α, (xs.filter fun x => !p x).length + (xs.filter p).length = xs.length
  | [] => rfl
  | x :: xs => by
    have := filter_not_len p xs
    rw [List.filter_cons, List.filter_cons]
    cases p x <;> simp <;> omega
end Mz
namespace Mz
open PySem L2
theorem push_get {st : Store} {k : Nat} {xs : List W} (h : st.l.length = k) : (st.push (.lst xs)).lget k = some xs := by subst h; exact st_push_get
theorem push_set {st : Store} {k : Nat} {x y : Lo} (h : st.l.length = k) : (st.push x).setl k y = st.push y := by subst h; exact st_push_set
theorem take_push {st st1 : Store} {x : Lo} (hl : st1.l.length = st.l.length) (ho : st1.o = st.o) : Store.mk ((st1.push x).l.take st.l.length) st.o = st1 := by rw [← hl, ← ho]; exact cut_push
theorem fin_pushl {st st1 : Store} {xs : List W} {k : Nat} (hk : k = st.l.length) (hl : st1.l.length = st.l.length) (ho : st1.o = st.o) : fin .tr st (.rt (.l k) (st1.push (.lst xs))) = .ok (.v (.lst xs)) st1 := by
  subst hk
  rw [fin_lst (st1 := st1.push (.lst xs)) (k := st.l.length) (xs := xs) ho (Nat.le_refl _) (push_get hl), take_push hl ho]
theorem fin_pushv {st st1 : Store} {w : W} {x : Lo} (hl : st1.l.length = st.l.length) (ho : st1.o = st.o) : fin .tr st (.rt (.v w) (st1.push x)) = .ok (.v w) st1 := by
  rw [fin_cutv (st1 := st1.push x) ho, take_push hl ho]
theorem fin_eqv {st st1 : Store} {w : W} (hl : st1.l.length = st.l.length) (ho : st1.o = st.o) : fin .tr st (.rt (.v w) st1) = .ok (.v w) st1 := by
  rw [fin_cutv ho, ← hl, List.take_length, ← ho]
end Mz
namespace Mz
theorem bl0 : 0 ≤ big := by decide
theorem bl1 : 1 ≤ big := by decide
theorem bl2 : 2 ≤ big := by decide
theorem bl3 : 3 ≤ big := by decide
theorem bl4 : 4 ≤ big := by decide
theorem bl5 : 5 ≤ big := by decide
theorem bl6 : 6 ≤ big := by decide
theorem bl7 : 7 ≤ big := by decide
theorem bl8 : 8 ≤ big := by decide
theorem bl9 : 9 ≤ big := by decide
theorem bl10 : 10 ≤ big := by decide
theorem bl11 : 11 ≤ big := by decide
theorem bl12 : 12 ≤ big := by decide
theorem bl13 : 13 ≤ big := by decide
theorem bl14 : 14 ≤ big := by decide
theorem bl15 : 15 ≤ big := by decide
theorem bl16 : 16 ≤ big := by decide
theorem bl17 : 17 ≤ big := by decide
theorem bl18 : 18 ≤ big := by decide
theorem bl19 : 19 ≤ big := by decide
theorem bl20 : 20 ≤ big := by decide
theorem bl21 : 21 ≤ big := by decide
theorem bl22 : 22 ≤ big := by decide
theorem bl23 : 23 ≤ big := by decide
theorem bl24 : 24 ≤ big := by decide
theorem bl25 : 25 ≤ big := by decide
theorem bl26 : 26 ≤ big := by decide
theorem bl27 : 27 ≤ big := by decide
theorem bl28 : 28 ≤ big := by decide
theorem bl29 : 29 ≤ big := by decide
theorem bl30 : 30 ≤ big := by decide
theorem bl31 : 31 ≤ big := by decide
theorem bl32 : 32 ≤ big := by decide
theorem bl33 : 33 ≤ big := by decide
theorem bl34 : 34 ≤ big := by decide
theorem bl35 : 35 ≤ big := by decide
theorem bl36 : 36 ≤ big := by decide
theorem bl37 : 37 ≤ big := by decide
theorem bl38 : 38 ≤ big := by decide
theorem bl39 : 39 ≤ big := by decide
theorem bl40 : 40 ≤ big := by decide
end Mz
namespace Mz
open PySem L2
theorem src_items {st : Store} {x : Sl} {xs : List W} (h : items st x = some xs) : ∃ gd, srcOf x st = .ok ⟨xs, gd⟩ st ∧ ∀ st', items st' x = some xs → gd st' := by
  cases x with
  | v w =>
    cases w <;> first | (unfold items at h; cases h; done) | (cases h; exact ⟨fun _ => True, rfl, fun _ _ => trivial⟩)
  | l n =>
    refine ⟨stands (.l n) xs, ?_, fun st' h' => h'⟩
    rw [src_l, show st.lget n = some xs from h]
    rfl
  | o n => cases h
/-- with break -/
theorem loop_brk {gd : Store → Prop} {pt : Pat} {mb : MS} (I : Nat → Env → Store → Prop) (Q : Env → Store → Prop) : ∀ (xs : List W) (i : Nat) (env : Env) (st : Store), I i env st →
    (∀ j x env st, xs[j]? = some x → I (i + j) env st → gd st ∧ ∃ env1, bindP pt x env = some env1 ∧ ∃ env2 st2, ((mb env1 st = .nx env2 st2 ∨ mb env1 st = .ct env2 st2) ∧ I (i + j + 1) env2 st2) ∨ (mb env1 st = .bk env2 st2 ∧ Q env2 st2)) →
    (∀ env st, I (i + xs.length) env st → gd st ∧ Q env st) → ∃ env' st', loopL gd pt mb xs env st = .nx env' st' ∧ Q env' st'
  | [], i, env, st, h, _, hg => ⟨env, st, by unfold loopL; rw [if_pos (hg env st h).1], (hg env st h).2⟩
  | x :: xs, i, env, st, h, hs, hg => by
    obtain ⟨g, env1, e1, env2, st2, ⟨e2, h2⟩ | ⟨e2, h2⟩⟩ := hs 0 x env st rfl h
    · obtain ⟨env', st', e3, h3⟩ := loop_brk I Q xs (i + 1) env2 st2 h2 (fun j y env st hy hi => by
        have := hs (j + 1) y env st (by simpa using hy) (by rw [show i + (j + 1) = i + 1 + j by omega]; exact hi)
        rw [show i + (j + 1) + 1 = i + 1 + j + 1 by omega] at this
        exact this) (fun env st hi => hg env st (by rw [List.length_cons, show i + (xs.length + 1) = i + 1 + xs.length by omega]; exact hi))
      refine ⟨env', st', ?_, h3⟩
      unfold loopL
      rw [if_pos g, e1]
      dsimp only
      rcases e2 with e2 | e2 <;> rw [e2] <;> exact e3
    · refine ⟨env2, st2, ?_, h2⟩
      unfold loopL
      rw [if_pos g, e1]
      dsimp only
      rw [e2]
def insAt {α : Type} (xs : List α) (i : Int) (x : α) : List α := xs.take i.toNat ++ [x] ++ xs.drop i.toNat
theorem insAt_perm {α : Type} {xs : List α} {i : Int} {x : α} : (insAt xs i x).Perm (x :: xs) := by
  unfold insAt
  rw [List.append_assoc]
  refine List.perm_middle.trans ?_
  show (x :: (xs.take i.toNat ++ xs.drop i.toNat)).Perm _
  rw [List.take_append_drop]
theorem insAt_0 {α : Type} {xs : List α} {x : α} : insAt xs 0 x = x :: xs := rfl
theorem l_insAt {α : Type} {f : α → W} {xs : List α} {i : Int} {x : α} (h : xs.length < big) (h0 : 0 ≤ i) (h1 : i < 2 ^ 63) : lmInsert (xs.map f) [.v (.int i), .v (f x)] = some (.non, (insAt xs i x).map f) := by
  rw [l_insert (by rw [List.length_map]; exact h) h0 h1]
  unfold insAt
  rw [List.map_append, List.map_append, List.map_take, List.map_drop]
  rfl
theorem l_appendM {α : Type} {f : α → W} {xs : List α} {x : α} (h : xs.length < big) : lmAppend (xs.map f) [.v (f x)] = some (.non, (xs ++ [x]).map f) := by
  rw [l_append (by rw [List.length_map]; exact h), List.map_append]
  rfl
theorem cut_from {xs : List W} {k : Nat} : cutW xs (some (k : Int)) none = xs.drop k := by
  unfold cutW
  rw [HT.sIx_nat, HT.sIx_none]
  by_cases h : k ≤ xs.length
  · rw [Nat.min_eq_left h, List.take_of_length_le (by rw [List.length_drop]; omega)]
  · rw [Nat.min_eq_right (by omega), Nat.sub_self, List.take_zero, List.drop_eq_nil_of_le (by omega)]
theorem cut_to {xs : List W} {k : Nat} : cutW xs none (some (k : Int)) = xs.take k := by
  unfold cutW
  rw [HT.sIx_nat, HT.sIx_none, List.drop_zero, Nat.sub_zero]
  by_cases h : k ≤ xs.length
  · rw [Nat.min_eq_left h]
  · rw [Nat.min_eq_right (by omega), List.take_length, List.take_of_length_le (by omega)]
theorem cut_1 {xs : List W} : cutW xs (some 1) none = xs.drop 1 := cut_from (k := 1)
end Mz
namespace Mz
open PySem L2
theorem o_addL {xs ys : List W} {st : Store} (h : xs.length + ys.length ≤ big) : opAdd (.v (.lst xs)) (.v (.lst ys)) st = .ok (.v (.lst (xs ++ ys))) st := by unfold opAdd; dsimp only; rw [if_pos h]
theorem o_addT {xs ys : List W} {st : Store} (h : xs.length + ys.length ≤ big) : opAdd (.v (.tup xs)) (.v (.tup ys)) st = .ok (.v (.tup (xs ++ ys))) st := by unfold opAdd; dsimp only; rw [if_pos h]
theorem o_addS {xs ys : Str} {st : Store} (h : xs.length + ys.length ≤ big) : opAdd (.v (.str xs)) (.v (.str ys)) st = .ok (.v (.str (xs ++ ys))) st := by unfold opAdd; dsimp only; rw [if_pos h]
theorem l_pop0 {x : W} {xs : List W} (h : xs.length < big) : lmPopAt (x :: xs) [.v (.int 0)] = some (x, xs) := by
  rw [l_popAt (Int.le_refl 0) (by rw [List.length_cons]; omega) (by rw [List.length_cons]; omega)]; rfl
def two (s : Store) (A B : List W) : Store := (s.push (.lst A)).push (.lst B)
theorem two_0 {s : Store} {A B : List W} {k : Nat} (h : s.l.length = k) : (two s A B).lget k = some A := by
  unfold two; rw [st_push_lt (by rw [st_push_len]; omega), push_get h]
theorem two_1 {s : Store} {A B : List W} {k : Nat} (h : s.l.length = k) : (two s A B).lget (k + 1) = some B := by
  unfold two; exact push_get (by rw [st_push_len, h])
theorem two_s0 {s : Store} {A B C : List W} {k : Nat} (h : s.l.length = k) : (two s A B).setl k (.lst C) = two s C B := by
  unfold two; rw [st_push_setl (by rw [st_push_len]; omega), push_set h]
theorem two_s1 {s : Store} {A B C : List W} {k : Nat} (h : s.l.length = k) : (two s A B).setl (k + 1) (.lst C) = two s A C := by
  unfold two; exact push_set (by rw [st_push_len, h])
theorem two_o {s : Store} {A B : List W} : (two s A B).o = s.o := rfl
end Mz

set_option Elab.async false
set_option linter.all false
set_option maxRecDepth 100000
set_option maxHeartbeats 4000000
namespace Mz
open PySem PySem.Spec PyProof.Rows L2
open Sem (wp)
/-! ## 18. enumerate over a list or a tuple -/
def enO (a : Addr) : Obj :=
  { cls := .type "enumerate",
    data := .fields #[.none, .bool false, .ref a, rawInt 0, .none, .none] }
def enH (h : Heap) (o : Obj) : Heap := (h.push o).push (enO h.objs.size)
set_option maxHeartbeats 1000000 in
theorem en_new {v : Value} {o : Obj} {H : Heap → Prop} (B : Begins v o H) :
    Meets (Builtin.«enumerate.__new__» ⟨[.type "enumerate", v], []⟩) (fun _ R s =>
      H s.heap ∧ R (.ok (.ret (.ref (s.heap.push o).objs.size))) { s with heap := enH s.heap o }) :=
  .of_wp fun prog w A R s h => by
    obtain ⟨hp, g, d, tk, os⟩ := s
    obtain ⟨h1, h⟩ := h
    have hsub := sub_enumerate
    have qi : ∀ {A' : Around} {E Q : Value → Shared → Prop}, Q (.ref hp.objs.size) ⟨hp.push o, g, d, tk, os⟩ →
        wpAny (model prog w) A' (pyIter v) Q E ⟨hp, g, d, tk, os⟩ := fun q => B.iter prog w _ _ ⟨hp, g, d, tk, os⟩ _ h1 q
    wp_walk using qi
    refine wpAny_stack_any fun st => wpAny_pure ?_
    split
    · rename_i c _ _ _ _ _
      rcases (c == Value.type "enumerate") with _ | _ <;> (wp_walk using qi; exact ⟨_, rfl, h⟩)
    · wp_walk using qi; exact ⟨_, rfl, h⟩
theorem en_call {prog : Program} {w : World} {A : Around} {E : Value → Shared → Prop} {s : Shared} {v : Value} {o : Obj} {H : Heap → Prop} {Q : Value → Shared → Prop} (B : Begins v o H) (h1 : H s.heap)
    (h : ∀ h', IsEnum h' (s.heap.objs.size + 1) s.heap.objs.size 0 .none → h'.get? s.heap.objs.size = some o → (∀ b o, s.heap.get? b = some o → h'.get? b = some o) →
      Q (.ref (s.heap.objs.size + 1)) { s with heap := h' }) : wpAny (model prog w) A (call (.type "enumerate") [v]) Q E s := by
  have hz : (s.heap.push o).objs.size = s.heap.objs.size + 1 := Heap.size_push ..
  have he : IsEnum (enH s.heap o) (s.heap.objs.size + 1) s.heap.objs.size 0 .none := by
    have := Heap.get?_push_size (s.heap.push o) (o := enO s.heap.objs.size) rfl
    rw [hz] at this
    exact this
  refine callType_new F.called_enumerate (by decide) (F.typeCall_enumerate_1 _) (F.newCall_enumerate_1 _)
    (fun obj => F.args_object_init_2 obj _) F.entry_enumerate_new (en_new B) ⟨h1, ?_⟩
  show _ ∧ _
  rw [hz]
  exact ⟨⟨_, he, rfl⟩, h _ he (Heap.get?_push_of_some _ (Heap.get?_push_size _ B.free))
    fun b o x => Heap.get?_push_of_some _ (Heap.get?_push_of_some _ x)⟩
/-- the tuple at a, each item in a new pair -/
def Itu (K : PySem.W.Frag) (a : Addr) : It where
  go := fun i H => ∃ (xs : List V) (x : V), SqT K H a xs ∧ xs[i]? = some x
  yld := fun i H v H' => ∃ T x, v = .ref T ∧ H T = none ∧ H' = upd H T (.tup [.int (i : Nat), x]) ∧ ∀ xs, SqT K H a xs → xs[i]? = some x
  stop := fun i H => ∃ xs : List V, SqT K H a xs ∧ xs.length ≤ i
theorem turn_itu {P : Program} {w : World} {K : PySem.W.Frag} {elts : List Expr} {kk : Nat} {tpos : Pos} (a e it : Addr) (hae : a ≠ e) (hai : a ≠ it) :
    Turn P w K (.Tuple elts kk tpos) (Itu K a) [e, it] e (fun i h => (∃ old, IsEnum h e it ((i : Nat) : Int) old) ∧ h.IsTupleIter it a i ∧ e ≠ it) where
  mem := List.mem_cons_self ..
  obj := fun i h st b hb => by
    obtain ⟨⟨old, he⟩, ⟨o, ho, hc, hd⟩, _⟩ := st
    rcases List.mem_cons.mp hb with z | hb
    · rw [z]; exact ⟨_, he, fun v q => nomatch q⟩
    · rw [List.mem_singleton.mp hb]; exact ⟨o, ho, fun v q => by rw [hd] at q; cases q⟩
  keep := fun i h h' st k => by
    obtain ⟨⟨old, he⟩, hi, hne⟩ := st
    exact ⟨⟨old, k e (List.mem_cons_self ..) _ he⟩, hi.at fun o q => k it (by simp) o q, hne⟩
  item := by
    intro X hP hw hK hc i pins s σ H E I hf st hg
    subst hP hw hK
    obtain ⟨⟨old, he⟩, hit, hne⟩ := st
    obtain ⟨xs, x, hq, hx⟩ := hg
    obtain ⟨its, rv, p, hz⟩ := I.tuple hq
    obtain ⟨u, hu, ru⟩ := rv.get hx
    have hel : e < s.heap.objs.size := Heap.lt_size he
    have hil : it < s.heap.objs.size := by obtain ⟨_, q, _⟩ := hit; exact Heap.lt_size q
    have D := Draws.tuple (prog := X.prog) (w := X.w) (A := X.A.in1) (I.ok.hd hc) it a hai its.toArray
    have hlt : i < its.toArray.size := by simp; exact get_lt hu
    refine wpAny_pyNext_enum_itemD D he ⟨hit, p⟩ hlt hne (by simp; exact ⟨hne, fun z => hae z.symm⟩) fun y h' tk hy ho hst hT hsz hk => ?_
    have hy' : y = u := by
      have : its.toArray[i]? = some u := by simpa using hu
      rw [this] at hy; exact (Option.some.inj hy).symm
    subst hy'
    refine ⟨_, rfl, wpAny_letOwnedTupleGo_enum (s := { s with heap := h', toks := tk + 1 }) ho fun h'' he' sb => ?_⟩
    have hT2 := (sb.2 _ (Nat.ne_of_gt hel)).trans hT
    have new : ObjOk X.prog X.w (upd H s.heap.objs.size (.tup [.int (i : Nat), x])) h'' s.heap.objs.size (.tup [.int (i : Nat), x]) :=
      ⟨by show 2 ≤ sizeLine; decide, [.int i tk, y], .cons ⟨_, rfl⟩ (.cons ru .nil), ⟨_, hT2, rfl, _, rfl⟩⟩
    have I1 : Inv X pins σ (upd H s.heap.objs.size (.tup [.int (i : Nat), x])) { s with heap := h'', toks := tk + 1 } :=
      I.turnedNew (ch := [e, it]) (fun b ob hb q => by
        have b1 : b ≠ e := fun z => hb (by simp [z])
        have b2 : b ≠ it := fun z => hb (by simp [z])
        exact (sb.2 b b1).trans (hk b ob b1 b2 q)) hf (Nat.le_refl _) new
    refine ⟨.ref s.heap.objs.size, _, I1, rfl, ⟨_, x, rfl, I.hok.fresh (Nat.le_refl _), rfl, fun ys hy => by rw [I.tuple_inj hy hq]; exact hx⟩, ⟨⟨y, ?_⟩, hst.1.at fun o q => (sb.2 it (Ne.symm hne)).trans q, hne⟩, fun b hb => ?_⟩
    · rw [show ((i + 1 : Nat) : Int) = (i : Int) + 1 by omega]
      exact he'
    · have hb' : b < s.heap.objs.size := by
        rcases List.mem_cons.mp hb with z | hb
        · rw [z]; exact hel
        · rw [List.mem_singleton.mp hb]; exact hil
      rw [upd_ne (Nat.ne_of_lt hb')]
      exact (hf b hb).1
  done := by
    intro X hP hw hK hc i pins s σ H E I hf st hg
    subst hP hw hK
    obtain ⟨⟨old, he⟩, hit, hne⟩ := st
    obtain ⟨xs, hq, hx⟩ := hg
    obtain ⟨its, rv, p, hz⟩ := I.tuple hq
    obtain ⟨f0, f1, f2, f3, f4, f5⟩ := hf it (by simp)
    have hl := rv.length
    have D : Draws X.prog X.w X.A.in1 it [it, a] i (fun _ _ => False) (fun j h => j = i ∧ h.IsTupleIter it a i ∧ h.IsTuple a its.toArray) :=
      { live := fun _ _ st => let ⟨o, ho, _⟩ := st.2.1; ⟨o, ho⟩
        frame := fun _ _ _ st hk => ⟨st.1, st.2.1.at fun o e => hk it (by simp) o e, st.2.2.at fun o e => hk a (by simp) o e⟩
        item := fun j s Q E hj st _ => absurd st.1 (Nat.ne_of_lt hj)
        done := fun s Q E st hE => wpAny_nextOf_tuple_end (I.ok.hd hc) st.2.1 st.2.2 (by simp; omega) hE }
    exact wpAny_pyNext_enum_endD D he ⟨rfl, hit, p⟩ fun h' eb => ⟨rfl, I.turned (t' := s.toks) (fun b o hb q => eb b o hb q) f0 f1 f3 f4 f5⟩
  self := fun A i s Q E st h => by
    obtain ⟨⟨_, he⟩, _⟩ := st
    exact wpAny_pyIter_enum he h
def iEnumA (K : PySem.W.Frag) (ta : TA) : TI := fun σ H R => ta σ H fun vs H1 => ∃ a, vs = [.ref a] ∧ ((∃ xs, SqL K H1 a xs ∧ R (Ite K a) H1) ∨ ∃ xs, SqT K H1 a xs ∧ R (Itu K a) H1)
theorem pi_enumA {X : Cx} {e : Expr} {ta : TA} {p pos tpos : Pos} {elts : List Expr} {kk : Nat} (hg : Gl X "enumerate") (hm : X.mg "enumerate" = none) (ha : PA X [e] ta) (hs : starEach [e] X.env = [(false, eval e X.env)] := by rfl) :
    PI X (.Tuple elts kk tpos) (.Call (.Name "enumerate" p) [e] [] pos) (iEnumA X.K ta) := by
  refine ⟨fun pins s σ H R I h => Call_ (ld_blt I hg hm boot_enumerate (PyProof.Rows.callWith_type1 (thn (ha.run pos pins s σ H _ I h) ?_) hs rfl))⟩
  rintro us s1 ⟨vs, H1, I1, r1, a, rfl, q1⟩
  cases r1 with
  | cons r rr =>
    cases rr
    cases r
    have two : ∀ b ∈ [s1.heap.objs.size + 1, s1.heap.objs.size], s1.heap.objs.size ≤ b := fun b hb => by
      rcases List.mem_cons.mp hb with z | hb
      · rw [z]; exact Nat.le_succ _
      · rw [List.mem_singleton.mp hb]; exact Nat.le_refl _
    rcases q1 with ⟨xs, hq, q⟩ | ⟨xs, hq, q⟩
    · obtain ⟨its, rv, p', hz⟩ := I1.list hq
      refine en_call (begins_list a its.toArray) p'.isList fun h' he hit hk => wpAny_pyIter_enum he ?_
      have I2 : Inv X pins σ H1 { s1 with heap := h' } := I1.kept (t' := s1.toks) hk
      exact ⟨s1.heap.objs.size + 1, [s1.heap.objs.size + 1, s1.heap.objs.size], _, _, H1, rfl, I2, turn_enum a (s1.heap.objs.size + 1) s1.heap.objs.size, ⟨⟨.none, he⟩, ⟨_, hit, rfl, rfl⟩, Nat.succ_ne_self _⟩,
        fun b hb => I1.fpOk (two b hb) (I1.hok.fresh (two b hb)), q⟩
    · obtain ⟨its, rv, p', hz⟩ := I1.tuple hq
      have hlt : a < s1.heap.objs.size := by obtain ⟨o, e, _⟩ := p'; exact Heap.lt_size e
      refine en_call (begins_tuple a its.toArray) p' fun h' he hit hk => wpAny_pyIter_enum he ?_
      have I2 : Inv X pins σ H1 { s1 with heap := h' } := I1.kept (t' := s1.toks) hk
      exact ⟨s1.heap.objs.size + 1, [s1.heap.objs.size + 1, s1.heap.objs.size], _, _, H1, rfl, I2, turn_itu a (s1.heap.objs.size + 1) s1.heap.objs.size (Nat.ne_of_lt (Nat.lt_succ_of_lt hlt)) (Nat.ne_of_lt hlt), ⟨⟨.none, he⟩, ⟨_, hit, rfl, rfl⟩, Nat.succ_ne_self _⟩,
        fun b hb => I1.fpOk (two b hb) (I1.hok.fresh (two b hb)), q⟩
/-- pairs of number and item -/
def numW (lo : Nat) : List W → List W
  | [] => []
  | x :: xs => .tup [.int lo, x] :: numW (lo + 1) xs
theorem numW_at : ∀ {xs : List W} {lo i : Nat}, (numW lo xs)[i]? = xs[i]?.map fun x => .tup [.int ((lo + i : Nat) : Int), x]
  | [], _, _ => by simp [numW]
  | x :: xs, lo, 0 => by simp [numW]
  | x :: xs, lo, i + 1 => by
    show (numW (lo + 1) xs)[i]? = _
    rw [numW_at, show lo + 1 + i = lo + (i + 1) by omega]; rfl
theorem numW_len : ∀ {xs : List W} {lo : Nat}, (numW lo xs).length = xs.length
  | [], _ => rfl
  | _ :: xs, lo => by show (numW (lo + 1) xs).length + 1 = _; rw [numW_len]; rfl
def enSrc : List Sl → Store → Res Src
  | [.v (.tup xs)], st1 => .ok ⟨numW 0 xs, fun _ => True⟩ st1
  | [x], st1 => match litems st1 x with
    | some xs => .ok ⟨numW 0 xs, stands x xs⟩ st1
    | none => .bad
  | _, _ => .bad
def mItE (a : MA) : MI := fun env st => (a env st).bind enSrc
theorem its_enum {T : Tx} {ρ : Mp} {G H : Hp} {st : Store} {x : Sl} {xs : List W} {a : Addr} (hx : SlR T ρ G x (.ref a)) (h : litems st x = some xs) : ItS T ρ G ⟨numW 0 xs, stands x xs⟩ (Ite T.K a) := by
  refine ⟨fun i H st' ρ' G' f r g hi => ?_, fun i w H st' ρ' G' f r g hw => ?_⟩
  · obtain ⟨b, vs, e, hq, hr⟩ := litems_at r (hx.mono f) (litems_stand h g)
    cases e
    exact ⟨vs, hq, by rw [← hr.length]; rw [numW_len] at hi; exact hi⟩
  · obtain ⟨b, vs, e, hq, hr⟩ := litems_at r (hx.mono f) (litems_stand h g)
    cases e
    have hw' : (numW 0 xs)[i]? = some w := hw
    rw [numW_at] at hw'
    obtain ⟨w0, hw0, rfl⟩ := Option.map_eq_some_iff.mp hw'
    obtain ⟨v, hv, rv⟩ := Reps.get' hr hw0
    refine ⟨⟨vs, v, hq, hv⟩, fun y H' hy => ?_⟩
    obtain ⟨q, v', rfl, hn, rfl, hy⟩ := hy
    have e := hy vs hq
    rw [hv] at e
    cases e
    obtain ⟨f2, r2⟩ := r.newG (o := .tup [.int (i : Nat), v]) hn
    refine ⟨_, f2, r2, ?_⟩
    unfold Rep
    exact ⟨q, _, rfl, SqT.of upd_same, Reps.cons (by unfold Rep; rw [Nat.zero_add]) (Reps.cons (Rep.mono f2.ex _ _ rv) Reps.nil)⟩
theorem its_enumT {T : Tx} {ρ : Mp} {G : Hp} {xs : List W} {a : Addr} {vs : List V} (hq : SqT T.K G a vs) (hr : Reps T G xs vs) : ItS T ρ G ⟨numW 0 xs, fun _ => True⟩ (Itu T.K a) := by
  refine ⟨fun i H st' ρ' G' f r g hi => ?_, fun i w H st' ρ' G' f r g hw => ?_⟩
  · exact ⟨vs, sqt_mono r.ext (sqt_mono f.ex hq), by rw [← hr.length]; rw [numW_len] at hi; exact hi⟩
  · have hw' : (numW 0 xs)[i]? = some w := hw
    rw [numW_at] at hw'
    obtain ⟨w0, hw0, rfl⟩ := Option.map_eq_some_iff.mp hw'
    obtain ⟨v, hv, rv⟩ := Reps.get' hr hw0
    have hq' := sqt_mono r.ext (sqt_mono f.ex hq)
    refine ⟨⟨vs, v, hq', hv⟩, fun y H' hy => ?_⟩
    obtain ⟨q, v', rfl, hn, rfl, hy⟩ := hy
    have e := hy vs hq'
    rw [hv] at e
    cases e
    obtain ⟨f2, r2⟩ := r.newG (o := .tup [.int (i : Nat), v]) hn
    refine ⟨_, f2, r2, ?_⟩
    unfold Rep
    exact ⟨q, _, rfl, SqT.of upd_same, Reps.cons (by unfold Rep; rw [Nat.zero_add]) (Reps.cons (Rep.mono f2.ex _ _ (Rep.mono f.ex _ _ rv)) Reps.nil)⟩
theorem ii_enum {X : Cx} {cl : Nat → Addr} {Wx : WX} {e : Expr} {ma : MA} {p pos tpos : Pos} {elts : List Expr} {kk : Nat} (hg : Gl X "enumerate") (hm : X.mg "enumerate" = none) (ha : IA X cl Wx [e] ma) (hs : starEach [e] X.env = [(false, eval e X.env)] := by rfl) :
    II X cl Wx (.Tuple elts kk tpos) (.Call (.Name "enumerate" p) [e] [] pos) (mItE ma) :=
  pi_weak (pi_enumA hg hm ha hs) fun σ H Q ⟨env, ρ, G, st, rel, er, p⟩ => ⟨env, ρ, G, st, rel, er, PostR.bind (R1 := SlRs ⟨X.K, cl⟩) p fun xs st1 ρ1 G1 H1 us f1 r1 s1 p1 => by
    unfold enSrc at p1
    split at p1
    · obtain ⟨u, rfl, h1⟩ := slrs1 s1
      unfold SlR Rep at h1
      obtain ⟨a, vs, rfl, hq, hr⟩ := h1
      exact ⟨a, rfl, .inr ⟨vs, sqt_mono r1.ext hq, p1.give r1 (its_enumT hq hr)⟩⟩
    · obtain ⟨u, rfl, h1⟩ := slrs1 s1
      split at p1
      · rename_i ys e
        obtain ⟨a, vs, rfl, hq, hr⟩ := litems_at r1 h1 e
        exact ⟨a, rfl, .inl ⟨vs, hq, p1.give r1 (its_enum (H := H1) h1 e)⟩⟩
      · exact p1.elim
    · exact p1.elim⟩
/-! small steps -/
def kEn (r : Res (List Sl)) : Res Src := r.bind enSrc
theorem e_itE {a : MA} {env : Env} {st : Store} : mItE a env st = kEn (a env st) := rfl
theorem k_en {xs : List Sl} {st : Store} : kEn (.ok xs st) = enSrc xs st := rfl
theorem en_items {st : Store} {x : Sl} {xs : List W} (h : items st x = some xs) : ∃ gd, enSrc [x] st = .ok ⟨numW 0 xs, gd⟩ st ∧ ∀ st', items st' x = some xs → gd st' := by
  cases x with
  | v w =>
    cases w <;> first | (unfold items at h; cases h; done) | (cases h; exact ⟨fun _ => True, rfl, fun _ _ => trivial⟩)
  | l n =>
    refine ⟨stands (.l n) xs, ?_, fun st' h' => h'⟩
    show (match litems st (.l n) with
      | some ys => Res.ok (⟨numW 0 ys, stands (.l n) ys⟩ : Src) st
      | none => .bad) = _
    rw [show litems st (.l n) = some xs from h]
  | o n => cases h
end Mz

set_option Elab.async false
set_option linter.all false
set_option maxRecDepth 100000
set_option maxHeartbeats 4000000
namespace Mz
open PySem L2
/-! ## 19. loops and comprehensions over told lists -/
section
variable {α : Type}
/-- a loop by what has been gone through: it goes on under I, or ends under Q -/
theorem loop_gen {gd : Store → Prop} {pt : Pat} {mb : MS} (g : α → W) (I : List α → Env → Store → Prop) (Q : SR → Prop) (xs : List α) : ∀ (post pre : List α) (env : Env) (st : Store), xs = pre ++ post → I pre env st →
    (∀ pre x post env st, xs = pre ++ x :: post → I pre env st → gd st ∧ ∃ env1, bindP pt (g x) env = some env1 ∧
      ((∃ env2 st2, (mb env1 st = .nx env2 st2 ∨ mb env1 st = .ct env2 st2) ∧ I (pre ++ [x]) env2 st2) ∨ (∃ env2 st2, mb env1 st = .bk env2 st2 ∧ Q (.nx env2 st2)) ∨ (∃ s st2, mb env1 st = .rt s st2 ∧ Q (.rt s st2)))) →
    (∀ env st, I xs env st → gd st) → ∃ r, loopL gd pt mb (post.map g) env st = r ∧ ((∃ env' st', r = .nx env' st' ∧ I xs env' st') ∨ Q r)
  | [], pre, env, st, e, h, _, hg => by
    rw [List.append_nil] at e
    subst e
    exact ⟨_, rfl, .inl ⟨env, st, by unfold loopL; rw [List.map_nil]; dsimp only; rw [if_pos (hg env st h)], h⟩⟩
  | x :: post, pre, env, st, e, h, hs, hg => by
    obtain ⟨gg, env1, e1, c⟩ := hs pre x post env st e h
    rw [List.map_cons]
    unfold loopL
    rw [if_pos gg, e1]
    dsimp only
    rcases c with ⟨env2, st2, e2, h2⟩ | ⟨env2, st2, e2, q⟩ | ⟨s, st2, e2, q⟩
    · have := loop_gen g I Q xs post (pre ++ [x]) env2 st2 (by rw [e, List.append_assoc]; rfl) h2 hs hg
      rcases e2 with e2 | e2 <;> rw [e2] <;> exact this
    · rw [e2]; exact ⟨_, rfl, .inr q⟩
    · rw [e2]; exact ⟨_, rfl, .inr q⟩
theorem loop_pre {gd : Store → Prop} {pt : Pat} {mb : MS} (g : α → W) (I : List α → Env → Store → Prop) (xs : List α) (env : Env) (st : Store) (h : I [] env st)
    (hs : ∀ pre x post env st, xs = pre ++ x :: post → I pre env st → gd st ∧ ∃ env1, bindP pt (g x) env = some env1 ∧ ∃ env2 st2, (mb env1 st = .nx env2 st2 ∨ mb env1 st = .ct env2 st2) ∧ I (pre ++ [x]) env2 st2)
    (hg : ∀ env st, I xs env st → gd st) : ∃ env' st', loopL gd pt mb (xs.map g) env st = .nx env' st' ∧ I xs env' st' := by
  obtain ⟨r, e, ⟨env', st', rfl, h⟩ | h⟩ := loop_gen (gd := gd) (pt := pt) (mb := mb) g I (fun _ => False) xs xs [] env st rfl h (fun pre x post env st e h => by
    obtain ⟨a, b, c, d⟩ := hs pre x post env st e h
    exact ⟨a, b, c, .inl d⟩) hg
  · exact ⟨env', st', e, h⟩
  · exact h.elim
/-- a comprehension that changes nothing, over a told list -/
theorem lc_map {gd : Store → Prop} {pt : Pat} {mt : MT} {me : ME} {env : Env} {st : Store} (g : α → W) (p : α → Bool) (f : α → W) (xs : List α) (hz : xs.length ≤ big) (hg : ∀ acc, gd (st.push (.lst acc)))
    (h : ∀ x ∈ xs, ∃ env1, bindP pt (g x) env = some env1 ∧ ∀ acc, mt env1 (st.push (.lst acc)) = .ok (p x) (st.push (.lst acc)) ∧ (p x = true → me env1 (st.push (.lst acc)) = .ok (.v (f x)) (st.push (.lst acc)))) :
    lcL gd pt mt me env st.l.length (freezeF st.l.length st.o) (xs.map g) (st.push (.lst [])) = .ok (.v (.lst ((xs.filter p).map f))) st := by
  obtain ⟨acc', st', hn, e, h1, h2⟩ := lc_inv (gd := gd) (pt := pt) (mt := mt) (me := me) (env := env) (n := st.l.length) (fin := freezeF st.l.length st.o)
    (fun i acc st2 => st2 = st ∧ acc = ((xs.take i).filter p).map f) (xs.map g) 0 [] st rfl ⟨rfl, by simp⟩ (by simpa using hz) (fun j x acc st2 _ hx ⟨e1, e2⟩ => by
      subst e1 e2
      rw [Nat.zero_add]
      rw [List.getElem?_map] at hx
      obtain ⟨y, hy, rfl⟩ := Option.map_eq_some_iff.mp hx
      obtain ⟨env1, b1, q⟩ := h y (List.mem_of_getElem? hy)
      have et : xs.take (j + 1) = xs.take j ++ [y] := by
        rw [List.take_succ, hy]; rfl
      refine ⟨hg _, env1, b1, ?_⟩
      obtain ⟨q1, q2⟩ := q (((xs.take j).filter p).map f)
      cases hp : p y with
      | false => exact .inl ⟨by rw [q1, hp], rfl, by rw [et]; simp [hp]⟩
      | true => exact .inr ⟨by rw [q1, hp], f y, st2, rfl, q2 hp, rfl, by rw [et]; simp [hp]⟩)
    (fun acc st2 ⟨e1, _⟩ => by subst e1; exact hg acc)
  rw [e]
  subst h1 h2
  rw [fr_push rfl, Nat.zero_add, List.length_map, List.take_length]
/-- one that filters nothing -/
theorem lc_all {gd : Store → Prop} {pt : Pat} {me : ME} {env : Env} {st : Store} (g : α → W) (f : α → W) (xs : List α) (hz : xs.length ≤ big) (hg : ∀ acc, gd (st.push (.lst acc)))
    (h : ∀ x ∈ xs, ∃ env1, bindP pt (g x) env = some env1 ∧ ∀ acc, me env1 (st.push (.lst acc)) = .ok (.v (f x)) (st.push (.lst acc))) :
    lcL gd pt mYes me env st.l.length (freezeF st.l.length st.o) (xs.map g) (st.push (.lst [])) = .ok (.v (.lst (xs.map f))) st := by
  have := lc_map (gd := gd) (pt := pt) (mt := mYes) (me := me) (env := env) (st := st) g (fun _ => true) f xs hz hg (fun x hx => by
    obtain ⟨env1, e, q⟩ := h x hx
    exact ⟨env1, e, fun acc => ⟨rfl, fun _ => q acc⟩⟩)
  rw [List.filter_eq_self.mpr (fun _ _ => rfl)] at this
  exact this
theorem range_idx (xs : List α) : rangeW 0 xs.length = xs.zipIdx.map fun q => W.int q.2 := by
  unfold rangeW
  apply List.ext_getElem?
  intro i
  rw [List.getElem?_map, List.getElem?_map, List.getElem?_zipIdx]
  by_cases h : i < xs.length
  · rw [List.getElem?_range h, List.getElem?_eq_getElem h]; simp
  · rw [List.getElem?_eq_none (by simp; omega), List.getElem?_eq_none (by omega)]; rfl
theorem num_idx (g : α → W) (xs : List α) : numW 0 (xs.map g) = xs.zipIdx.map fun q => .tup [.int (q.2 : Int), g q.1] := by
  apply List.ext_getElem?
  intro i
  rw [numW_at, List.getElem?_map, List.getElem?_map, List.getElem?_zipIdx]
  cases xs[i]? <;> simp
theorem idx_snoc {xs : List α} {x : α} : (xs ++ [x]).zipIdx = xs.zipIdx ++ [(x, xs.length)] := by rw [List.zipIdx_append]; simp
theorem idx_at {xs pre post : List α} {x : α} (h : xs = pre ++ x :: post) : xs[pre.length]? = some x := by subst h; simp
/-- the indexed list, gone through up to some place -/
theorem idx_pre {xs : List α} {pre post : List (α × Nat)} {q : α × Nat} (h : xs.zipIdx = pre ++ q :: post) : ∃ a b, xs = a ++ q.1 :: b ∧ pre = a.zipIdx ∧ q.2 = a.length := by
  have hl : pre.length < xs.length := by have := congrArg List.length h; simp at this; omega
  have hq : xs.zipIdx[pre.length]? = some q := idx_at h
  rw [List.getElem?_zipIdx, List.getElem?_eq_getElem hl] at hq
  simp at hq
  refine ⟨xs.take pre.length, xs.drop (pre.length + 1), ?_, ?_, ?_⟩
  · rw [← hq]; simp
  · have key : ∀ n, xs.zipIdx.take n = (xs.take n).zipIdx := fun n => by
      apply List.ext_getElem?
      intro i
      rw [List.getElem?_take, List.getElem?_zipIdx, List.getElem?_zipIdx, List.getElem?_take]
      split <;> rfl
    rw [← key, h]; simp
  · rw [← hq]; simp; omega
end
end Mz
namespace Mz
open PySem L2
theorem tab4 {a b c d r : Int} (h0 : 0 ≤ r) (h1 : r < 4) : ∃ v, atI [W.int a, .int b, .int c, .int d] r = some (.int v) ∧ (v = a ∨ v = b ∨ v = c ∨ v = d) := by
  have : r = 0 ∨ r = 1 ∨ r = 2 ∨ r = 3 := by omega
  rcases this with rfl | rfl | rfl | rfl
  · exact ⟨_, rfl, .inl rfl⟩
  · exact ⟨_, rfl, .inr (.inl rfl)⟩
  · exact ⟨_, rfl, .inr (.inr (.inl rfl))⟩
  · exact ⟨_, rfl, .inr (.inr (.inr rfl))⟩
theorem zip_mem {α : Type} {xs : List α} {q : α × Nat} (h : q ∈ xs.zipIdx) : xs[q.2]? = some q.1 ∧ xs.zipIdx[q.2]? = some q ∧ q.1 ∈ xs := by
  have e : xs[q.2]? = some q.1 := List.mem_zipIdx_iff_getElem?.mp h
  refine ⟨e, ?_, List.mem_of_getElem? e⟩
  rw [List.getElem?_zipIdx, e]; simp
theorem f_tupI {x : Sl} {st : Store} {xs : List W} (h : items st x = some xs) : fTuple [x] st = .ok (.v (.tup xs)) st := by
  cases x with
  | v w => cases w <;> first | (unfold items at h; cases h; done) | (cases h; rfl)
  | l n => rw [f_tupL, show st.lget n = some xs from h]; rfl
  | o n => cases h
theorem intsOf_f {α : Type} (f : α → Int) (xs : List α) : intsOf (xs.map fun q => W.int (f q)) = some (xs.map f) := by
  rw [show (xs.map fun q => W.int (f q)) = (xs.map f).map W.int by rw [List.map_map]; rfl]; exact intsOf_map _
theorem at_map {α : Type} {f : α → W} {xs : List α} {k : Nat} {x : α} (h : xs[k]? = some x) : atI (xs.map f) ((k : Nat) : Int) = some (f x) := by
  rw [atI_nat', List.getElem?_map, h]; rfl
theorem sum_snoc {α : Type} {f : α → Int} {xs : List α} {x : α} : ((xs ++ [x]).map f).sum = (xs.map f).sum + f x := by rw [List.map_append, List.sum_append]; simp
theorem fm_snoc {α β : Type} {p : α → Bool} {f : α → β} {xs : List α} {x : α} : ((xs ++ [x]).filter p).map f = (xs.filter p).map f ++ (if p x then [f x] else []) := by
  rw [List.filter_append, List.map_append]
  congr 1
  cases h : p x <;> simp [h]
theorem items_pw {p : Nat} {st st' : Store} {x : Sl} {xs : List W} (w : Pw p st st') (h : items st x = some xs) (hx : x ≠ .l p) : items st' x = some xs := by
  cases x with
  | v w => cases w <;> first | exact h | (unfold items at h; cases h)
  | l n =>
    have : n ≠ p := fun e => hx (by rw [e])
    show st'.lget n = some xs
    rw [w.get this]; exact h
  | o n => cases h
theorem sees_items {st : Store} {x : Sl} {xs : List W} (h : Sees st x (.lst xs)) : items st x = some xs := (sees_lst h).1
theorem sees_pw {p : Nat} {st st' : Store} {x : Sl} {w : W} (hw : Pw p st st') (h : Sees st x w) (hx : x ≠ .l p) : Sees st' x w := by
  cases x with
  | v w' => exact h
  | l n =>
    have : n ≠ p := fun e => hx (by rw [e])
    cases w <;> first | exact (show False from h).elim | (have h' : st.lget n = some _ := h; show st'.lget n = some _; rw [hw.get this]; exact h')
  | o n => cases w <;> exact (show False from h).elim
theorem sees_push {st : Store} {x : Sl} {w : W} {o : Lo} (h : Sees st x w) : Sees (st.push o) x w := by
  cases x with
  | v w' => exact h
  | l n => cases w <;> first | exact (show False from h).elim | (have h' : st.lget n = some _ := h; show (st.push o).lget n = some _; rw [st_push_lt (lget_lt h')]; exact h')
  | o n => cases w <;> exact (show False from h).elim
end Mz
namespace Mz
open PySem L2
theorem k_itRN {n : Nat} {st : Store} (h : n ≤ big) : kItR1 (.ok [.v (.int (n : Int))] st) = .ok ⟨rangeW 0 n, fun _ => True⟩ st := by
  have hb := big62
  rw [k_itR1 (n := (n : Int)) (by omega) (by omega), Int.toNat_natCast]
theorem stands_l {n : Nat} {xs : List W} {st : Store} (h : st.lget n = some xs) : stands (.l n) xs st := h
end Mz

set_option Elab.async false
set_option linter.all false
set_option maxRecDepth 100000
set_option maxHeartbeats 4000000
namespace Mz
open PySem PySem.Spec PyProof.Rows L2
/-! ## 20. instances: attributes, making, methods -/
section
variable {T : Tx} {ρ ρ' : Mp} {G G' H : Hp} {st : Store}
theorem look_reps : ∀ {ns : List Str} {ws : List W} {vs : List V} {f : Str} {w : W}, Reps T G ws vs → (ns.zip ws).lookup f = some w → ∃ v, (ns.zip vs).lookup f = some v ∧ Rep T G w v
  | [], _, _, _, _, _, e => by cases e
  | n :: ns, [], _, _, _, _, e => by cases e
  | n :: ns, w0 :: ws, vs, f, w, h, e => by
    unfold Reps at h
    obtain ⟨v, r, rfl, h1, h2⟩ := h
    rw [List.zip_cons_cons, List.lookup_cons] at e ⊢
    cases hb : (f == n) with
    | true => rw [hb] at e; cases e; exact ⟨v, rfl, h1⟩
    | false => rw [hb] at e; exact look_reps h2 e
theorem look_slrs : ∀ {ns : List Str} {ss : List Sl} {vs : List V} {f : Str} {s : Sl}, SlRs T ρ G ss vs → (ns.zip ss).lookup f = some s → ∃ v, (ns.zip vs).lookup f = some v ∧ SlR T ρ G s v
  | [], _, _, _, _, _, e => by cases e
  | n :: ns, [], _, _, _, _, e => by cases e
  | n :: ns, s0 :: ss, vs, f, s, h, e => by
    obtain ⟨v, r, rfl, h1, h2⟩ := h
    rw [List.zip_cons_cons, List.lookup_cons] at e ⊢
    cases hb : (f == n) with
    | true => rw [hb] at e; cases e; exact ⟨v, rfl, h1⟩
    | false => rw [hb] at e; exact look_slrs h2 e
theorem look_none : ∀ {ns : List Str} {α β : Type} {ws : List α} {vs : List β} {f : Str}, ws.length = vs.length → (ns.zip ws).lookup f = none → (ns.zip vs).lookup f = none
  | [], _, _, _, _, _, _, _ => rfl
  | n :: ns, _, _, [], [], _, _, _ => rfl
  | n :: ns, _, _, [], v :: vs, _, h, _ => by cases h
  | n :: ns, _, _, w :: ws, [], _, h, _ => by cases h
  | n :: ns, _, _, w :: ws, v :: vs, f, h, e => by
    rw [List.zip_cons_cons, List.lookup_cons] at e ⊢
    cases hb : (f == n) with
    | true => rw [hb] at e; cases e
    | false => rw [hb] at e; exact look_none (by simpa using h) e
/-- an attribute put -/
def putK (f : Str) : List Str → List Str
  | [] => [f]
  | g :: r => if g = f then g :: r else g :: putK f r
def putW {α : Type} (f : Str) (v : α) : List Str → List α → List α
  | [], _ => [v]
  | g :: r, x :: xs => if g = f then v :: xs else x :: putW f v r xs
  | _ :: _, [] => []
theorem putF_zip {f : Str} {v : V} : ∀ {ns : List Str} {us : List V}, ns.length = us.length → putF f v (ns.zip us) = (putK f ns).zip (putW f v ns us)
  | [], [], _ => rfl
  | [], _ :: _, h => by cases h
  | _ :: _, [], h => by cases h
  | g :: ns, x :: us, h => by
    unfold putF putK putW
    rw [List.zip_cons_cons]
    dsimp only
    by_cases e : g = f
    · rw [if_pos e, if_pos e, if_pos e]; rfl
    · rw [if_neg e, if_neg e, if_neg e, putF_zip (by simpa using h)]; rfl
theorem putK_len {f : Str} {α : Type} {v : α} : ∀ {ns : List Str} {us : List α}, ns.length = us.length → (putK f ns).length = (putW f v ns us).length
  | [], [], _ => rfl
  | [], _ :: _, h => by cases h
  | _ :: _, [], h => by cases h
  | g :: ns, x :: us, h => by
    unfold putK putW
    by_cases e : g = f
    · rw [if_pos e, if_pos e]; exact h
    · rw [if_neg e, if_neg e, List.length_cons, List.length_cons, putK_len (by simpa using h)]
theorem putW_slrs {f : Str} {s : Sl} {v : V} (hs : SlR T ρ G s v) : ∀ {ns : List Str} {ss : List Sl} {us : List V}, SlRs T ρ G ss us → SlRs T ρ G (putW f s ns ss) (putW f v ns us)
  | [], ss, us, h => ⟨v, [], rfl, hs, rfl⟩
  | _ :: _, [], us, h => by cases h; rfl
  | g :: ns, x :: ss, us, h => by
    obtain ⟨u, r, rfl, h1, h2⟩ := h
    unfold putW
    by_cases e : g = f
    · rw [if_pos e, if_pos e]; exact ⟨v, r, rfl, hs, h2⟩
    · rw [if_neg e, if_neg e]; exact ⟨u, _, rfl, h1, putW_slrs hs h2⟩
def Store.seto (st : Store) (n : Nat) (x : In) : Store := { st with o := st.o.set n x }
def Store.pusho (st : Store) (x : In) : Store := { st with o := st.o ++ [x] }
theorem Rel.seto (r : Rel T ρ G H st) {n : Nat} {a dx : Addr} {x : In} {us : List V} (hn : ρ.o[n]? = some a) (hr : InR T ρ G x (.ins (T.cl x.c) dx (x.ns.zip us))) : Rel T ρ G (upd H a (.ins (T.cl x.c) dx (x.ns.zip us))) (st.seto n x) := by
  obtain ⟨x0, hx0⟩ := r.oat' hn
  obtain ⟨hG, o0, ho0, hr0⟩ := r.oa n a x0 hn hx0
  refine ⟨fun b u e => ?_, r.ll, ?_, fun m b y hm hy => ?_, fun m b y hm hy => ?_, r.nl, r.no, r.tb.upd (fx_in ho0 hr0), r.nt⟩
  · have hb : b ≠ a := fun z => by rw [z, hG] at e; cases e
    rw [upd_ne hb]; exact r.ext b u e
  · show ρ.o.length = (st.o.set n x).length
    rw [List.length_set]; exact r.lo
  · obtain ⟨h1, o', h2, h3⟩ := r.la m b y hm hy
    have hb : b ≠ a := r.apart hm hn
    exact ⟨h1, o', by rw [upd_ne hb]; exact h2, h3⟩
  · by_cases hmn : n = m
    · subst hmn
      rw [hn] at hm; cases hm
      have hy' : (st.o.set n x)[n]? = some y := hy
      rw [List.getElem?_set_self (get_lt hx0)] at hy'; cases hy'
      exact ⟨hG, _, upd_same, hr⟩
    · have hb : b ≠ a := fun z => hmn (nodup_get r.no hn (z ▸ hm))
      have hy' : (st.o.set n x)[m]? = some y := hy
      rw [List.getElem?_set_ne hmn] at hy'
      obtain ⟨h1, o', h2, h3⟩ := r.oa m b y hm hy'
      exact ⟨h1, o', by rw [upd_ne hb]; exact h2, h3⟩
/-- a new object that is followed -/
theorem Rel.newO (r : Rel T ρ G H st) {p dx : Addr} {c : Nat} (h : H p = none) : Fr ρ ⟨ρ.l, ρ.o ++ [p]⟩ G G ∧ Rel T ⟨ρ.l, ρ.o ++ [p]⟩ G (upd H p (.ins (T.cl c) dx [])) (st.pusho ⟨c, [], []⟩) := by
  have f : Fr ρ ⟨ρ.l, ρ.o ++ [p]⟩ G G := ⟨le_snoc_o, fun _ _ h => h⟩
  have hG := fresh_G r h
  refine ⟨f, fun b u e => ?_, r.ll, ?_, fun m b y hm hy => ?_, fun m b y hm hy => ?_, r.nl, ?_, r.tb.upd (fx_none h), r.nt⟩
  · rw [upd_ne (ne_of_none e hG)]; exact r.ext b u e
  · show (ρ.o ++ [p]).length = (st.o ++ [_]).length
    rw [List.length_append, List.length_append, r.lo]; rfl
  · obtain ⟨h1, o', h2, h3⟩ := r.la m b y hm hy
    exact ⟨h1, o', by rw [upd_ne (ne_of_none h2 h)]; exact h2, h3⟩
  · have hm0 : (ρ.o ++ [p])[m]? = some b := hm
    have hy0 : (st.o ++ [(⟨c, [], []⟩ : In)])[m]? = some y := hy
    rcases get_snoc hm0 with hm' | ⟨rfl, rfl⟩
    · have hlt := get_lt hm'
      rw [List.getElem?_append_left (by rw [← r.lo]; exact hlt)] at hy0
      obtain ⟨h1, o', h2, h3⟩ := r.oa m b y hm' hy0
      exact ⟨h1, o', by rw [upd_ne (ne_of_none h2 h)]; exact h2, h3.mono f⟩
    · rw [r.lo, List.getElem?_append_right (Nat.le_refl _)] at hy0
      simp at hy0
      subst hy0
      exact ⟨hG, _, upd_same, dx, [], rfl, rfl, rfl⟩
  · exact nodup_snoc r.no fun hm => by
      obtain ⟨n, hn⟩ := List.getElem?_of_mem hm
      exact fresh_o r h hn rfl
/-- an object that no one follows stays as it is -/
theorem Rel.adopt (r : Rel T ρ G H st) {p : Addr} {o : HO} (hG : G p = none) (hH : H p = some o) (hl : ∀ (n : Nat) (a : Addr), ρ.l[n]? = some a → a ≠ p) (ho : ∀ (n : Nat) (a : Addr), ρ.o[n]? = some a → a ≠ p) (hnt : ∀ ps, o ≠ .tbl ps := by first | (intro _ z; cases z; done) | (intro _ z; unfold ItA at z; cases z) | assumption) : Fr ρ ρ G (upd G p o) ∧ Rel T ρ (upd G p o) H st := by
  have f : Fr ρ ρ G (upd G p o) := ⟨(Fr.refl ρ G).le, updG_ex hG⟩
  refine ⟨f, fun b u e => ?_, r.ll, r.lo, fun m b y hm hy => ?_, fun m b y hm hy => ?_, r.nl, r.no, r.tb, nt_upd r.nt hnt⟩
  · by_cases hb : b = p
    · subst hb; rw [upd_same] at e; cases e; exact hH
    · rw [upd_ne hb] at e; exact r.ext b u e
  · obtain ⟨h1, o', h2, h3⟩ := r.la m b y hm hy
    exact ⟨fun hd => by rw [upd_ne (hl m b hm)]; exact h1 hd, o', h2, h3.mono f.ex⟩
  · obtain ⟨h1, o', h2, h3⟩ := r.oa m b y hm hy
    exact ⟨by rw [upd_ne (ho m b hm)]; exact h1, o', h2, h3.mono f⟩
/-- an instance, as the heap has it -/
theorem ins_at (r : Rel T ρ G H st) {n : Nat} {x : In} {u : V} (h : SlR T ρ G (.o n) u) (hx : st.o[n]? = some x) : ∃ a dx us, u = .ref a ∧ ρ.o[n]? = some a ∧ G a = none ∧ H a = some (.ins (T.cl x.c) dx (x.ns.zip us)) ∧ x.ns.length = us.length ∧ SlRs T ρ G x.vs us := by
  obtain ⟨a, ha, rfl⟩ := h
  obtain ⟨hG, o, ho, dx, us, rfl, h2, h3⟩ := r.oa n a x ha hx
  exact ⟨a, dx, us, rfl, ha, hG, ho, h2, h3⟩
end
/-! ### reading an attribute -/
def attrOf (cs : List Nat) (f : Str) : Sl → Store → Res Sl
  | .v (.ins c ns ws), st => if c ∈ cs then (match (ns.zip ws).lookup f with
    | some w => .ok (.v w) st
    | none => .bad) else .bad
  | .o n, st => match st.o[n]? with
    | some y => if y.c ∈ cs then (match (y.ns.zip y.vs).lookup f with
      | some s => .ok s st
      | none => .bad) else .bad
    | none => .bad
  | _, _ => .bad
def mAttr (cs : List Nat) (f : Str) (a : ME) : ME := fun env st => (a env st).bind (attrOf cs f)
section
variable {X : Cx} {cl : Nat → Addr} {Wx : WX} {e o : Expr} {m mo : ME} {pos pos' p apos : Pos} {f x : Str}
theorem ie_attr (cs : List Nat) (h : IE X cl Wx e m) (hc : ∀ c ∈ cs, Cls X.K (cl c) ∧ NoAttr X.K (cl c) f) (hb : attributeBase e f X.env (eval e X.env) = eval e X.env := by rfl) : IE X cl Wx (.Attribute e f pos) (mAttr cs f m) :=
  pe_weak (pe_fld h hb) fun σ H Q ⟨env, ρ, G, st, rel, er, p⟩ => ⟨env, ρ, G, st, rel, er, PostR.bind (R1 := Mz.SlR ⟨X.K, cl⟩) p fun x st1 ρ1 G1 H1 u f1 r1 s1 p1 => by
    unfold attrOf at p1
    split at p1
    · split at p1
      · rename_i hm
        split at p1
        · rename_i w hw
          obtain ⟨c1, c2⟩ := hc _ hm
          have s1' := s1
          unfold Mz.SlR Rep at s1
          obtain ⟨a, dx, vs, rfl, hg, hl, hr⟩ := s1
          obtain ⟨v, hv, rv⟩ := look_reps hr hw
          exact ⟨a, _, dx, _, v, rfl, r1.ext _ _ hg, c1, c2, hv, p1.give r1 rv⟩
        · exact p1.elim
      · exact p1.elim
    · split at p1
      · rename_i y hy
        split at p1
        · rename_i hm
          split at p1
          · rename_i s hs
            obtain ⟨c1, c2⟩ := hc _ hm
            obtain ⟨a, dx, us, rfl, ha, hg, hH, hl, hr⟩ := ins_at r1 s1 hy
            obtain ⟨v, hv, rv⟩ := look_slrs hr hs
            exact ⟨a, _, dx, _, v, rfl, hH, c1, c2, hv, p1.give r1 rv⟩
          · exact p1.elim
        · exact p1.elim
      · exact p1.elim
    · exact p1.elim⟩
/-! ### setting one -/
def setOf (cs : List Nat) (f : Str) (env : Env) (y : Sl) : Sl → Store → SR
  | .o n, st => match st.o[n]? with
    | some z => if z.c ∈ cs ∧ z.ns.length < 1000 then .nx env (st.seto n ⟨z.c, putK f z.ns, putW f y z.ns z.vs⟩) else .bad
    | none => .bad
  | _, _ => .bad
def mSetA (cs : List Nat) (f : Str) (o e : ME) : MS := fun env st => ofR env (e env st) fun y st1 => ofR env (o env st1) fun x st2 => setOf cs f env y x st2
theorem is_setA (cs : List Nat) (hv : IE X cl Wx e m) (ho : IE X cl Wx o mo) (hc : ∀ c ∈ cs, Cls X.K (cl c) ∧ NoAttr X.K (cl c) f) (hs : swapsWith e (some (.Attribute o f pos')) pos.line X.env = pure false := by rfl) :
    IS X cl Wx (.Assign [.Attribute o f pos'] e pos) (mSetA cs f mo m) :=
  ps_weak (ps_fld ho hv hs) fun D σ H ⟨env, ρ, G, st, rel, er, p⟩ => ⟨env, ρ, G, st, rel, er, PostS.ofR (R := Mz.SlR ⟨X.K, cl⟩) er p fun y st1 ρ1 G1 H1 u f1 r1 s1 p1 =>
    ⟨env, ρ1, G1, st1, r1, er.mono f1, PostS.ofR (R := Mz.SlR ⟨X.K, cl⟩) (er.mono f1) p1 fun x st2 ρ2 G2 H2 v f2 r2 s2 p2 => by
      unfold setOf at p2
      split at p2
      · split at p2
        · rename_i z hz
          split at p2
          · rename_i hm
            obtain ⟨c1, c2⟩ := hc _ hm.1
            obtain ⟨a, dx, us, rfl, ha, hg, hH, hl, hr⟩ := ins_at r2 s2 hz
            refine ⟨a, _, dx, _, rfl, hH, c1, c2, by rw [List.length_zip, hl, Nat.min_self, ← hl]; exact hm.2, ?_⟩
            rw [putF_zip hl]
            have h' := putW_slrs (f := f) (s1.mono f2) (ns := z.ns) hr
            exact p2 ρ2 G2 _ σ (Fr.refl _ _) (Rel.seto (x := ⟨z.c, putK f z.ns, putW f y z.ns z.vs⟩) (us := putW f u z.ns us) r2 ha ⟨dx, _, rfl, putK_len hl, h'⟩) ((er.mono f1).mono f2)
          · exact p2.elim
        · exact p2.elim
      · exact p2.elim⟩⟩
/-! ### making -/
open Classical in
noncomputable def makeR (st : Store) : Res Sl → Res Sl
  | .ok (.v .non) st2 => if st2.o.take st.o.length = st.o then (match st2.o[st.o.length]? with
    | some y => match vals y.vs with
      | some ws => .ok (.v (.ins y.c y.ns ws)) ⟨st2.l.take st.l.length, st.o⟩
      | none => .bad
    | none => .bad) else .bad
  | .ex c ns ws st2 => if st2.o.take st.o.length = st.o then .ex c ns ws ⟨st2.l.take st.l.length, st.o⟩ else .bad
  | _ => .bad
noncomputable def mMake (c : Nat) (F : MF) (a : MA) : ME := fun env st => (a env st).bind fun xs st1 => makeR st1 (F (.o st1.o.length :: xs) (st1.pusho ⟨c, [], []⟩))
theorem make_post {T : Tx} {ρ : Mp} {G H : Hp} {st : Store} {Q : VK} {E : XK} {F : MF} {xs : List Sl} {us : List V} {c : Nat} {x dx : Addr} (r : Rel T ρ G H st) (rs : SlRs T ρ G xs us) (hx : H x = none) (hd : H dx = none) (hn : dx ≠ x)
    (p : PostR T ρ G (Mz.SlR T) (makeR st (F (.o st.o.length :: xs) (st.pusho ⟨c, [], []⟩))) Q E) :
    ∃ ρ', Rel T ρ' G (upd (upd H dx (.own x)) x (.ins (T.cl c) dx [])) (st.pusho ⟨c, [], []⟩) ∧ SlRs T ρ' G (.o st.o.length :: xs) (.ref x :: us) ∧
      PostR T ρ' G (Mz.SlR T) (F (.o st.o.length :: xs) (st.pusho ⟨c, [], []⟩)) (fun v H2 => v = .non ∧ Q (.ref x) H2) E := by
  have r1 := r.junk (o := .own x) hd
  have hx1 : upd H dx (.own x) x = none := by rw [upd_ne (Ne.symm hn)]; exact hx
  obtain ⟨f, r2⟩ := r1.newO (dx := dx) (c := c) hx1
  have hxx : (ρ.o ++ [x])[st.o.length]? = some x := by rw [← r.lo]; simp
  refine ⟨⟨ρ.l, ρ.o ++ [x]⟩, r2, ⟨.ref x, us, rfl, ⟨x, hxx, rfl⟩, rs.mono f⟩, ?_⟩
  revert p
  cases F (.o st.o.length :: xs) (st.pusho ⟨c, [], []⟩) with
  | ok a st2 =>
    intro p ρ2 G2 H2 u f2 rel su
    unfold makeR at p
    split at p
    · rename_i st3 e
      cases e
      unfold Mz.SlR Rep at su
      refine ⟨su, ?_⟩
      split at p
      · rename_i ho
        split at p
        · rename_i y hy
          split at p
          · rename_i ws hw
            have hx2 : ρ2.o[st.o.length]? = some x := f2.le.2 _ _ hxx
            obtain ⟨hG, o', hH, dx', us', rfl, hl, hr⟩ := rel.oa _ _ _ hx2 hy
            obtain ⟨ρ3, f3, r3, _⟩ := Rel.trunc r rel (f.trans f2) ho
            have hl3 : ∀ (n : Nat) (a : Addr), ρ3.l[n]? = some a → a ≠ x := fun n a hn z => by
              obtain ⟨z0, hz0⟩ := r3.lat' hn
              obtain ⟨_, o4, h4, h5⟩ := r3.la n a z0 hn hz0
              rw [z, hH] at h4
              cases h4
              exact lo_ne_ins h5 rfl
            have ho3 : ∀ (n : Nat) (a : Addr), ρ3.o[n]? = some a → a ≠ x := fun n a hn z => by
              obtain ⟨z0, hz0⟩ := r3.oat' hn
              have hz0' : st.o[n]? = some z0 := hz0
              obtain ⟨b, hb⟩ := r.oat hz0'
              have := f3.le.2 n b hb
              rw [hn] at this
              cases this
              exact fresh_o r hx hb z
            obtain ⟨f4, r4⟩ := r3.adopt hG hH hl3 ho3
            refine p ρ3 _ H2 (.ref x) (f3.trans f4) r4 ?_
            unfold Mz.SlR Rep
            exact ⟨x, dx', us', rfl, upd_same, hl, Reps.mono f4.ex _ _ (vals_reps hw hr)⟩
          · exact p.elim
        · exact p.elim
      · exact p.elim
    · rename_i e; cases e
    · exact p.elim
  | ex c' ns ws st2 =>
    intro p ρ2 G2 H2 d f2 rel hd'
    unfold makeR at p
    dsimp only at p
    split at p
    · rename_i ho
      obtain ⟨ρ3, f3, r3, _⟩ := Rel.trunc r rel (f.trans f2) ho
      exact p ρ3 G2 H2 d f3 r3 hd'
    · exact p.elim
  | bad => exact fun p => p.elim
theorem ie_make {F : MF} {k n c : Nat} {fI : Addr} {fd : FuncData} {ps : List Str} {e : Expr} {es : List Expr} {ra : MA} (M : Mk X.K (cl c) fI) (hF : FnOk X.prog X.w X.K X.mg X.base (L2.CX X.prog X.w) k fI fd ps (spM ⟨X.K, cl⟩ n F)) (hn : Ar F n) (tk : Takes X Wx) (hr : Room (k + 1) X.A) (hg : Gl X x) (hm : X.mg x = some (.ref (cl c))) (hb : Binds X.K fd ps [])
    (ha : IA X cl Wx (e :: es) ra) (hdb : (x == ("__debug__" : Str)) = false := by decide) (he : starEach (e :: es) X.env = (false, eval e X.env) :: starEach es X.env := by rfl) (hpl : (backTo pos (starEach es X.env)).any (·.1) = false := by rfl) :
    IE X cl Wx (.Call (.Name x p) (e :: es) [] pos) (mMake c F ra) := by
  refine ⟨fun pins s σ H Q I h => ?_⟩
  obtain ⟨env, ρ, G, st, rel, er, q⟩ := h
  refine wpAny_Call_Name_kw (ld_glob I hg hm ?_ hdb)
  have h1 : tL ⟨X.K, cl⟩ Wx ra σ H (fun us H1 => ∃ ρ1 G1 st1 xs, Rel ⟨X.K, cl⟩ ρ1 G1 H1 st1 ∧ SlRs ⟨X.K, cl⟩ ρ1 G1 xs us ∧ PostR ⟨X.K, cl⟩ ρ1 G1 (Mz.SlR ⟨X.K, cl⟩) (makeR st1 (F (.o st1.o.length :: xs) (st1.pusho ⟨c, [], []⟩))) Q (fun c d H' => Wx c d σ H')) :=
    ⟨env, ρ, G, st, rel, er, PostR.bind (R1 := SlRs ⟨X.K, cl⟩) q fun xs st1 ρ1 G1 H1 us f1 r1 s1 p1 => ⟨ρ1, G1, st1, xs, r1, s1, p1⟩⟩
  refine PySem.W.callWith_K (h₀ := X.base) I.ok.mod.kin M.kp (thn (ha.run pos pins s σ H _ I h1) ?_) he hpl
  rintro us s1 ⟨vs, H1, I1, rv, ρ1, G1, st1, xs, r1, s1', p1⟩
  refine ⟨I1.kIn, ?_⟩
  have hq : ∀ a dx, H1 a = none → H1 dx = none → dx ≠ a → spM ⟨X.K, cl⟩ n F (.ref a :: vs) (upd (upd H1 dx (.own a)) a (.ins (cl c) dx [])) (fun v H2 => v = .non ∧ Q (.ref a) H2) (fun c d H' => Wx c d σ H') := fun a dx h1 h2 h3 => by
    obtain ⟨ρ', k1, k2, k3⟩ := make_post r1 s1' h1 h2 h3 p1
    refine ⟨ρ', G1, _, _, k1, k2, ?_, k3⟩
    by_cases hz : (Sl.o st1.o.length :: xs).length = n
    · exact hz
    · rw [hn _ _ hz] at k3; exact k3.elim
  have hq' := hq (s1.heap.objs.size + 1) s1.heap.objs.size (I1.hok.fresh (Nat.le_succ _)) (I1.hok.fresh (Nat.le_refl _)) (Nat.ne_of_lt (Nat.lt_succ_self _))
  have I2 := Inv.made (C := cl c) I1
  have r2 : Vals (V.ref (s1.heap.objs.size + 1) :: vs) (Value.ref (s1.heap.objs.size + 1) :: us) := .cons rfl rv
  have hl : (Value.ref (s1.heap.objs.size + 1) :: us).length = ps.length := by rw [← r2.length]; exact hF.len _ _ _ _ hq'
  have hbb := hb _ (Value.ref (s1.heap.objs.size + 1) :: us) I2.kIn (by rw [List.append_nil]; exact hl)
  rw [List.append_nil] at hbb
  refine wpAny_call (make_map (f := fI) I1.kIn M.makes M.init (beq_iff_eq.mp M.fn) (codeAny_mono (hF.run _ X.stack _ _ ⟨Value.ref (s1.heap.objs.size + 1) :: us, []⟩ _ _ _ _ (hr.make (cl c) us [])
    (I2.env0.make (cl c) us []) hbb r2 hq') fun r s' hq2 => ?_))
  cases r with
  | error e => exact passAt tk σ pins _ _ e s' I2 hq2
  | ok fl =>
    cases fl with
    | ret u =>
      obtain ⟨v, H', I3, rv', ev, q3⟩ := I2.after hq2
      subst ev
      exact ⟨rv', ⟨V.ref (s1.heap.objs.size + 1), H', I3, rfl, q3⟩⟩
    | next => exact False.elim hq2
    | brk => exact False.elim hq2
    | cont => exact False.elim hq2
/-! ### methods, properties -/
/-- an instance of class c that has no attribute of that name -/
def isOf (c : Nat) (m : Str) (st : Store) : Sl → Bool
  | .v (.ins c' ns ws) => decide (c' = c) && ((ns.zip ws).lookup m).isNone
  | .o n => match st.o[n]? with
    | some y => decide (y.c = c) && ((y.ns.zip y.vs).lookup m).isNone
    | none => false
  | _ => false
theorem isOf_at {T : Tx} {ρ : Mp} {G H : Hp} {st : Store} {c : Nat} {m : Str} {x : Sl} {u : V} (r : Rel T ρ G H st) (h : SlR T ρ G x u) (hi : isOf c m st x = true) : ∃ a dx fs, u = .ref a ∧ H a = some (.ins (T.cl c) dx fs) ∧ fs.lookup m = none := by
  unfold isOf at hi
  split at hi
  · rename_i c' ns ws
    rw [Bool.and_eq_true, decide_eq_true_eq, Option.isNone_iff_eq_none] at hi
    unfold Mz.SlR Rep at h
    obtain ⟨a, dx, vs, rfl, hg, hl, hr⟩ := h
    obtain ⟨rfl, hn⟩ := hi
    exact ⟨a, dx, _, rfl, r.ext _ _ hg, look_none hr.length hn⟩
  · split at hi
    · rename_i n y hy
      rw [Bool.and_eq_true, decide_eq_true_eq, Option.isNone_iff_eq_none] at hi
      obtain ⟨a, dx, us, rfl, ha, hg, hH, hl, hr⟩ := ins_at r h hy
      obtain ⟨e, hn⟩ := hi
      subst e
      exact ⟨a, dx, _, rfl, hH, look_none hr.length hn⟩
    · cases hi
  · cases hi
def mMeth (c : Nat) (m : Str) (F : MF) (o : ME) (a : MA) : ME := fun env st => (o env st).bind fun x st1 => if isOf c m st1 x = true then (a env st1).bind fun xs st2 => F (x :: xs) st2 else .bad
theorem sp_of {T : Tx} {ρ : Mp} {G H : Hp} {st : Store} {F : MF} {n : Nat} {xs : List Sl} {us : List V} {Q : VK} {E : XK} (hn : Ar F n) (r : Rel T ρ G H st) (s : SlRs T ρ G xs us) (p : PostR T ρ G (Mz.SlR T) (F xs st) Q E) : spM T n F us H Q E := by
  refine ⟨ρ, G, st, xs, r, s, ?_, p⟩
  by_cases h : xs.length = n
  · exact h
  · rw [hn xs st h] at p; exact p.elim
theorem ie_meth {F : MF} {k n c : Nat} {g : Addr} {fd : FuncData} {ps : List Str} {mm : Str} {e1 : Expr} {es : List Expr} {ra : MA} {pl : Sem Bool} (ho : IE X cl Wx o mo) (hc : Cls X.K (cl c)) (hmt : Meth X.K (cl c) mm g) (hF : FnOk X.prog X.w X.K X.mg X.base (L2.CX X.prog X.w) k g fd ps (spM ⟨X.K, cl⟩ n F)) (hn : Ar F n) (tk : Takes X Wx) (hr : Room k X.A) (hb : Binds X.K fd ps [])
    (ha : IA X cl Wx (e1 :: es) ra) (hst : starEach (e1 :: es) X.env = (false, eval e1 X.env) :: starEach es X.env := by rfl) (hpl : (backTo pos (starEach es X.env)).any (·.1) = false := by rfl)
    (ht : eval (.Call (.Attribute o mm apos) (e1 :: es) [] pos) X.env = (do
      let ov ← eval o X.env
      standAt apos.atName
      let (f, first) ← holding [ov] (getMethod ov mm pl)
      callWith pos f first (backTo pos (starEach (e1 :: es) X.env)) (backToKw pos (keywordEach [] X.env))) := by rfl) :
    IE X cl Wx (.Call (.Attribute o mm apos) (e1 :: es) [] pos) (mMeth c mm F mo ra) := by
  refine ⟨fun pins s σ H Q I h => ?_⟩
  obtain ⟨env, ρ, G, st, rel, er, q⟩ := h
  have h1 : tM ⟨X.K, cl⟩ Wx mo σ H (fun u H1 => ∃ ρ1 G1 st1 x, Rel ⟨X.K, cl⟩ ρ1 G1 H1 st1 ∧ EnvR ⟨X.K, cl⟩ ρ1 G1 env σ ∧ Mz.SlR ⟨X.K, cl⟩ ρ1 G1 x u ∧ isOf c mm st1 x = true ∧ PostR ⟨X.K, cl⟩ ρ1 G1 (Mz.SlR ⟨X.K, cl⟩) ((ra env st1).bind fun xs st2 => F (x :: xs) st2) Q (fun c d H' => Wx c d σ H')) :=
    ⟨env, ρ, G, st, rel, er, PostR.bind (R1 := Mz.SlR ⟨X.K, cl⟩) q fun x st1 ρ1 G1 H1 u f1 r1 s1 p1 => by
      split at p1
      · rename_i hi
        exact ⟨ρ1, G1, st1, x, r1, er.mono f1, s1, hi, p1⟩
      · exact p1.elim⟩
  refine PySem.W.methodCall_KW (pl := pl) (thn (ho.run pins s σ H _ I h1) ?_) ht
  rintro u s1 ⟨v, H1, I1, rx, ρ1, G1, st1, x, r1, er1, sx, hi, p1⟩
  obtain ⟨a, dx, fs, rfl, hH, hl⟩ := isOf_at r1 sx hi
  obtain rfl : u = Value.ref a := rx
  refine getmeth_ok I1 hH hc hmt hl ?_
  have h2 : tL ⟨X.K, cl⟩ Wx ra σ H1 (fun us H2 => spM ⟨X.K, cl⟩ n F (.ref a :: us) H2 Q (fun c d H' => Wx c d σ H')) :=
    ⟨env, ρ1, G1, st1, r1, er1, PostR.bind (R1 := SlRs ⟨X.K, cl⟩) p1 fun xs st2 ρ2 G2 H2 us f2 r2 s2 p2 => sp_of (xs := x :: xs) hn r2 ⟨_, us, rfl, sx.mono f2, s2⟩ p2⟩
  refine PySem.W.callWith_K (first := [.ref a]) (h₀ := X.base) I.ok.mod.kin hmt.kp (thn (ha.run pos pins s1 σ H1 _ I1 h2) ?_) hst hpl
  rintro us s2 ⟨vs, H2, I2, r, q2⟩
  refine ⟨I2.kIn, ?_⟩
  exact run_fnS (E := WE Wx) (us := .ref a :: us) (vs := .ref a :: vs) hF hr hb (passAt tk σ) I2 (.cons rfl r) q2
theorem ie_meth0 {F : MF} {k n c : Nat} {g : Addr} {fd : FuncData} {ps : List Str} {mm : Str} {pl : Sem Bool} (ho : IE X cl Wx o mo) (hc : Cls X.K (cl c)) (hmt : Meth X.K (cl c) mm g) (hF : FnOk X.prog X.w X.K X.mg X.base (L2.CX X.prog X.w) k g fd ps (spM ⟨X.K, cl⟩ n F)) (hn : Ar F n) (tk : Takes X Wx) (hr : Room k X.A) (hb : Binds X.K fd ps [])
    (ht : eval (.Call (.Attribute o mm apos) [] [] pos) X.env = (do
      let ov ← eval o X.env
      standAt apos.atName
      let (f, first) ← holding [ov] (getMethod ov mm pl)
      callWith pos f first (backTo pos (starEach [] X.env)) (backToKw pos (keywordEach [] X.env))) := by rfl) :
    IE X cl Wx (.Call (.Attribute o mm apos) [] [] pos) (mMeth c mm F mo mNil) := by
  refine ⟨fun pins s σ H Q I h => ?_⟩
  obtain ⟨env, ρ, G, st, rel, er, q⟩ := h
  have h1 : tM ⟨X.K, cl⟩ Wx mo σ H (fun u H1 => ∃ a dx fs, u = .ref a ∧ H1 a = some (.ins (cl c) dx fs) ∧ fs.lookup mm = none ∧ spM ⟨X.K, cl⟩ n F [.ref a] H1 Q (fun c d H' => Wx c d σ H')) :=
    ⟨env, ρ, G, st, rel, er, PostR.bind (R1 := Mz.SlR ⟨X.K, cl⟩) q fun x st1 ρ1 G1 H1 u f1 r1 s1 p1 => by
      split at p1
      · rename_i hi
        obtain ⟨a, dx, fs, rfl, hH, hl⟩ := isOf_at r1 s1 hi
        exact ⟨a, dx, fs, rfl, hH, hl, sp_of (xs := [x]) hn r1 ⟨_, [], rfl, s1, rfl⟩ p1⟩
      · exact p1.elim⟩
  refine PySem.W.methodCall_KW (pl := pl) (thn (ho.run pins s σ H _ I h1) ?_) ht
  rintro u s1 ⟨v, H1, I1, rx, a, dx, fs, rfl, hH, hl, q1⟩
  obtain rfl : u = Value.ref a := rx
  refine getmeth_ok I1 hH hc hmt hl ?_
  exact PySem.W.callWith_K0 (first := [.ref a]) I1.kIn hmt.kp (run_fnS (E := WE Wx) (us := [.ref a]) (vs := [.ref a]) hF hr hb (passAt tk σ) I1 (.cons rfl .nil) q1)
end
end Mz
namespace Mz
open PySem PySem.Spec PyProof.Rows L2
/-! ### what a class must have -/
structure ClF (K : PySem.W.Frag) (C : Addr) : Prop where
  cl : Cls K C
  ha : PySem.W.findIn K (.ref C) "__class__" = some (some (.builtin "object.__class__"))
  hn : PySem.W.specialIn K (.builtin "object.__class__") "__get__" = some (some (.builtin "getset_descriptor.__get__"))
  htk : PySem.W.takesIn K (.builtin "object.__class__") = some true
  hm : PySem.W.mroIn K C (.type "object") = some true
  sf : PySem.W.selfFirst K C = true
/-- a value that is an instance of class c -/
def isCl (c : Nat) (st : Store) : Sl → Bool
  | .v (.ins c' _ _) => decide (c' = c)
  | .o n => match st.o[n]? with
    | some y => decide (y.c = c)
    | none => false
  | _ => false
section
variable {X : Cx} {cl : Nat → Addr} {Wx : WX} {a b e o : Expr} {ma mb me mo : ME} {pos p p2 : Pos} {x : Str}
theorem isCl_at {T : Tx} {ρ : Mp} {G H : Hp} {st : Store} {c : Nat} {x : Sl} {u : V} (r : Rel T ρ G H st) (h : SlR T ρ G x u) (hi : isCl c st x = true) : ∃ a dx fs, u = .ref a ∧ H a = some (.ins (T.cl c) dx fs) := by
  unfold isCl at hi
  split at hi
  · rename_i c' ns ws
    rw [decide_eq_true_eq] at hi
    subst hi
    unfold Mz.SlR Rep at h
    obtain ⟨a, dx, vs, rfl, hg, hl, hr⟩ := h
    exact ⟨a, dx, _, rfl, r.ext _ _ hg⟩
  · split at hi
    · rename_i n y hy
      rw [decide_eq_true_eq] at hi
      obtain ⟨a, dx, us, rfl, ha, hg, hH, hl, hr⟩ := ins_at r h hy
      subst hi
      exact ⟨a, dx, _, rfl, hH⟩
    · cases hi
  · cases hi
/-! ### isinstance of an own class -/
def isclOf (ok : List (Nat × Bool)) (tys : List String) (x : Sl) (st : Store) : Res Sl := match x with
  | .v (.ins c _ _) => match ok.lookup c with
    | some b => .ok (.v (.bl b)) st
    | none => .bad
  | .o n => match st.o[n]? with
    | some y => match ok.lookup y.c with
      | some b => .ok (.v (.bl b)) st
      | none => .bad
    | none => .bad
  | x => match tyName st x with
    | some n => if n ∈ tys then .ok (.v (.bl false)) st else .bad
    | none => .bad
def mIsCl (ok : List (Nat × Bool)) (tys : List String) (a : ME) : ME := fun env st => (a env st).bind (isclOf ok tys)
theorem ie_isCl {c : Nat} (ok : List (Nat × Bool)) (tys : List String) (he : IE X cl Wx e me) (hg : Gl X "isinstance") (hm : X.mg "isinstance" = none) (hg2 : Gl X x) (hm2 : X.mg x = some (.ref (cl c))) (h1 : ∀ c' b, ok.lookup c' = some b → ClF X.K (cl c') ∧ PySem.W.kitOne X.K (.ref (cl c')) (.ref (cl c)) = some b) (h2 : ∀ n ∈ tys, PySem.W.kitOne X.K (.type n) (.ref (cl c)) = some false)
    (hv : bootBuiltins "isinstance" = some (.builtin "isinstance") := by decide +kernel) (hd2 : (x == ("__debug__" : Str)) = false := by decide)
    (hs : starEach (e :: [.Name x p2]) X.env = (false, eval e X.env) :: starEach [.Name x p2] X.env := by rfl) (hs2 : starEach [.Name x p2] X.env = (false, eval (.Name x p2) X.env) :: starEach [] X.env := by rfl) (hpl : (backTo pos (starEach [.Name x p2] X.env)).any (·.1) = false := by rfl) :
    IE X cl Wx (.Call (.Name "isinstance" p) [e, .Name x p2] [] pos) (mIsCl ok tys me) :=
  pe_weak (pe_callB call_isi hg hm hv (pa_cons he (pa_cons (pe_glob (v := .ref (cl c)) hg2 hm2 rfl hd2) pa_nil hs2) hs) (by decide) (by decide) hs hpl) fun σ H Q ⟨env, ρ, G, st, rel, er, q⟩ =>
    ⟨env, ρ, G, st, rel, er, PostR.bind (R1 := Mz.SlR ⟨X.K, cl⟩) q fun y st1 ρ1 G1 H1 u f1 r1 s1 p1 => by
      have own : ∀ c' b, isCl c' st1 y = true → ok.lookup c' = some b → PostR ⟨X.K, cl⟩ ρ1 G1 (Mz.SlR ⟨X.K, cl⟩) (.ok (.v (.bl b)) st1) Q (fun c d H' => Wx c d σ H') → ∃ (x c_1 : V) (t u_1 : Value) (b : Bool), [u, .ref (cl c)] = [x, c_1] ∧ ClsV c_1 u_1 ∧ TyX X.K H1 x t ∧ PySem.W.kitOne X.K t u_1 = some b ∧ Q (.bl b) H1 := fun c' b hi hb p => by
        obtain ⟨a, dx, fs, rfl, hH⟩ := isCl_at r1 s1 hi
        obtain ⟨F, hk⟩ := h1 c' b hb
        exact ⟨_, _, _, _, b, rfl, .own (cl c), .base (.ins hH F.cl F.ha F.hn F.htk F.hm), hk, pg p r1 rep_bl⟩
      unfold isclOf at p1
      split at p1
      · split at p1
        · rename_i c' _ _ _ b hb
          exact own c' b (by unfold isCl; simp) hb p1
        · exact p1.elim
      · split at p1
        · rename_i n y hy
          split at p1
          · rename_i b hb
            exact own y.c b (by unfold isCl; dsimp only; rw [hy]; simp) hb p1
          · exact p1.elim
        · exact p1.elim
      · split at p1
        · rename_i n hn
          split at p1
          · rename_i hmem
            obtain ⟨t', h3, rfl⟩ := tyName_at r1 s1 hn
            exact ⟨u, _, _, _, false, rfl, .own (cl c), h3, h2 _ hmem, pg p1 r1 rep_bl⟩
          · exact p1.elim
        · exact p1.elim⟩
/-! ### operators, own ones among them -/
def OpM (X : Cx) (cl : Nat → Addr) (Wx : WX) (f : Value → Value → Sem Value) (g : Op2) : Prop :=
  ∀ (pins : List (Addr × Obj)) (s : Shared) (σ : L2.St) (H : Hp) (x y : V) (v u : Value) (Q : VK) (ρ : Mp) (G : Hp) (st : Store) (sx sy : Sl), Inv X pins σ H s → L2.RelV x v → L2.RelV y u →
    Rel ⟨X.K, cl⟩ ρ G H st → Mz.SlR ⟨X.K, cl⟩ ρ G sx x → Mz.SlR ⟨X.K, cl⟩ ρ G sy y → PostR ⟨X.K, cl⟩ ρ G (Mz.SlR ⟨X.K, cl⟩) (g sx sy st) Q (fun c d H' => Wx c d σ H') →
    wpAny (model X.prog X.w) X.A (f v u) (EP X pins σ Q) X.xe s
theorem opm_std {f : Value → Value → Sem Value} {r : R2} {g : Op2} (ho : OpR X f r) (hs : OpS ⟨X.K, cl⟩ r g) : OpM X cl Wx f g :=
  fun pins s σ H x y v u Q ρ G st sx sy I rx ry rel hx hy p => ho pins s σ H x y v u Q I rx ry (hs ρ G H st sx sy x y Q _ rel hx hy p)
theorem opm_or {f : Value → Value → Sem Value} {g1 g2 : Op2} (q : Sl → Sl → Store → Bool) (h1 : OpM X cl Wx f g1) (h2 : OpM X cl Wx f g2) : OpM X cl Wx f (fun x y st => if q x y st = true then g1 x y st else g2 x y st) :=
  fun pins s σ H x y v u Q ρ G st sx sy I rx ry rel hx hy p => by
    dsimp only at p
    split at p
    · exact h1 pins s σ H x y v u Q ρ G st sx sy I rx ry rel hx hy p
    · exact h2 pins s σ H x y v u Q ρ G st sx sy I rx ry rel hx hy p
theorem ops_run {ma mb : ME} {g : Op2} {f : Value → Value → Sem Value} (hf : OpM X cl Wx f g) (ha : IE X cl Wx a ma) (hb : IE X cl Wx b mb) {pins : List (Addr × Obj)} {s : Shared} {σ : L2.St} {H : Hp} {Q : VK} (I : Inv X pins σ H s) (h : tM ⟨X.K, cl⟩ Wx (mOp g ma mb) σ H Q) :
    wpAny (model X.prog X.w) X.A (eval a X.env) (fun v s₁ => wpAny (model X.prog X.w) X.A (eval b X.env) (fun u s₂ => wpAny (model X.prog X.w) X.A (f v u) (EP X pins σ Q) X.xe s₂) X.xe s₁) X.xe s := by
  obtain ⟨env, ρ, G, st, rel, er, q⟩ := h
  refine binT (R := fun x y H2 => ∃ ρ2 G2 st2 sx sy, Rel ⟨X.K, cl⟩ ρ2 G2 H2 st2 ∧ Mz.SlR ⟨X.K, cl⟩ ρ2 G2 sx x ∧ Mz.SlR ⟨X.K, cl⟩ ρ2 G2 sy y ∧ PostR ⟨X.K, cl⟩ ρ2 G2 (Mz.SlR ⟨X.K, cl⟩) (g sx sy st2) Q (fun c d H' => Wx c d σ H')) ha hb I
    ⟨env, ρ, G, st, rel, er, PostR.bind (R1 := Mz.SlR ⟨X.K, cl⟩) q fun x st1 ρ1 G1 H1 u f1 r1 s1 p1 => ⟨env, ρ1, G1, st1, r1, er.mono f1, PostR.bind (R1 := Mz.SlR ⟨X.K, cl⟩) p1 fun y st2 ρ2 G2 H2 v f2 r2 s2 p2 => ⟨ρ2, G2, st2, x, y, r2, s1.mono f2, s2, p2⟩⟩⟩ ?_
  rintro v u s2 x y H2 I2 rx ry ⟨ρ2, G2, st2, sx, sy, r2, hx, hy, p2⟩
  exact hf pins s2 σ H2 x y v u Q ρ2 G2 st2 sx sy I2 rx ry r2 hx hy p2
theorem ie_opM {op : Operator} {g : Op2} (hf : OpM X cl Wx (binaryOp op) g) (ha : IE X cl Wx a ma) (hb : IE X cl Wx b mb) : IE X cl Wx (.BinOp a op b pos) (mOp g ma mb) :=
  ⟨fun pins s σ H Q I h => wpAny_BinOp (ops_run hf ha hb I h)⟩
theorem ie_cmpM {op : CmpOp} {g : Op2} (hf : OpM X cl Wx (compareOp op) g) (ha : IE X cl Wx a ma) (hb : IE X cl Wx b mb) (hm : behindInMarks op b = false) : IE X cl Wx (.Compare a [op] [b] pos) (mOp g ma mb) :=
  ⟨fun pins s σ H Q I h => wpAny_Compare1 (ops_run hf ha hb I h) hm⟩
theorem it_cmpM {op : CmpOp} {g : Op2} (hf : OpM X cl Wx (compareOp op) g) (ha : IE X cl Wx a ma) (hb : IE X cl Wx b mb) (hm : behindInMarks op b = false) : IT X cl Wx (.Compare a [op] [b] pos) (mTest (mOp g ma mb)) := by
  refine ⟨fun pins s σ H Q I h => ?_⟩
  obtain ⟨env, ρ, G, st, rel, er, q⟩ := h
  have h' : tM ⟨X.K, cl⟩ Wx (mOp g ma mb) σ H (fun x H' => ∃ k, x = .bl k ∧ Q k H') := ⟨env, ρ, G, st, rel, er, PostR.bind (R1 := Mz.SlR ⟨X.K, cl⟩) q fun x st1 ρ1 G1 H1 u f1 r1 s1 p1 => by
    obtain ⟨k, h1, h2⟩ := PostR.tru (k := fun b st => .ok b st) (by
      have e : ((Mz.tru x st1).bind fun b st => Res.ok b st) = Mz.tru x st1 := by cases Mz.tru x st1 <;> rfl
      rw [e]; exact p1) s1
    exact ⟨k, h1, h2.give r1 rfl⟩⟩
  refine wpAny_isTrue_Compare1 (thn (ops_run hf ha hb I h') fun v s1 h1 => thn h1 fun u s2 h2 => thn h2 fun c s3 ⟨z, H3, I3, r3, k, e, q3⟩ => ?_) hm
  subst e
  cases r3
  exact wpAny_truthy_bool ⟨H3, I3, q3⟩
theorem cmp_back {pins : List (Addr × Obj)} {σ : L2.St} {Q : VK} {v : Value} {s : Shared} (h : EP X pins σ Q v s) : PySem.W.CmpBack (EP X pins σ Q) v s := by
  obtain ⟨x, H, I, r, q⟩ := h
  have h2 : EP X pins σ Q v s := ⟨x, H, I, r, q⟩
  cases x <;> first | (obtain ⟨t, rfl⟩ := (show ∃ t, v = _ from r); exact h2) | (cases (show v = _ from r); exact h2)
/-- an own operator between two of the class -/
def opOwn (c : Nat) (F : MF) : Op2 := fun x y st => if isCl c st x = true ∧ isCl c st y = true then F [x, y] st else .bad
/-- an own operator, the right side of a built-in type -/
def opOwnT (c : Nat) (t : String) (F : MF) : Op2 := fun x y st => if isCl c st x = true ∧ tyName st y = some t then F [x, y] st else .bad
theorem own_call {F : MF} {k : Nat} {g : Addr} {fd : FuncData} {ps : List Str} {pins : List (Addr × Obj)} {s : Shared} {σ : L2.St} {H : Hp} {y : V} {u : Value} {Q : VK} {ρ : Mp} {G : Hp} {st : Store} {sx sy : Sl} {a : Addr}
    (hF : FnOk X.prog X.w X.K X.mg X.base (L2.CX X.prog X.w) k g fd ps (spM ⟨X.K, cl⟩ 2 F)) (tk : Takes X Wx) (hr : Room k X.A) (hb : Binds X.K fd ps []) (I : Inv X pins σ H s) (ry : L2.RelV y u)
    (rel : Rel ⟨X.K, cl⟩ ρ G H st) (hx : Mz.SlR ⟨X.K, cl⟩ ρ G sx (.ref a)) (hy : Mz.SlR ⟨X.K, cl⟩ ρ G sy y) (p : PostR ⟨X.K, cl⟩ ρ G (Mz.SlR ⟨X.K, cl⟩) (F [sx, sy] st) Q (fun c d H' => Wx c d σ H')) :
    wpAny (model X.prog X.w) X.A (call (.ref g) [.ref a, u]) (EP X pins σ Q) X.xe s :=
  run_fnS (E := WE Wx) (us := [.ref a, u]) (vs := [.ref a, y]) hF hr hb (passAt tk σ) I (.cons rfl (.cons ry .nil)) ⟨ρ, G, st, [sx, sy], rel, ⟨_, _, rfl, hx, _, _, rfl, hy, rfl⟩, rfl, p⟩
theorem opm_own {op : Operator} {F : MF} {k c : Nat} {g : Addr} {fd : FuncData} {ps : List Str} (C : ClF X.K (cl c)) (hs : PySem.W.findIn X.K (.ref (cl c)) (PySem.dunder op.info.2) = some (some (.ref g))) (hf : PySem.W.isFn X.K (.ref g) = true)
    (hF : FnOk X.prog X.w X.K X.mg X.base (L2.CX X.prog X.w) k g fd ps (spM ⟨X.K, cl⟩ 2 F)) (tk : Takes X Wx) (hr : Room k X.A) (hb : Binds X.K fd ps []) : OpM X cl Wx (binaryOp op) (opOwn c F) :=
  fun pins s σ H x y v u Q ρ G st sx sy I rx ry rel hx hy p => by
    unfold opOwn at p
    split at p
    · rename_i hi
      obtain ⟨a, dx, fs, rfl, hH⟩ := isCl_at rel hx hi.1
      obtain ⟨a2, dx2, fs2, rfl, hH2⟩ := isCl_at rel hy hi.2
      cases rx
      cases ry
      obtain ⟨mA, J, _⟩ := ins_get I.hok hH
      obtain ⟨mB, J', _⟩ := ins_get I.hok hH2
      obtain ⟨od, J, _⟩ := J.look
      obtain ⟨od', J', _⟩ := J'.look
      obtain ⟨m, hFr⟩ := I.fr
      exact PySem.W.binop_K hFr I.ok.mod.kin J J'.type C.sf hs hf (wpAny_mono (own_call hF tk hr hb I (y := .ref a2) rfl rel hx hy p) (fun _ _ h => cmp_back h) fun _ _ h => h)
    · exact p.elim
theorem ty_of {T : Tx} {ρ : Mp} {G : Hp} {st : Store} {t : String} {sy : Sl} {y : V} {u : Value} (h : tyName st sy = some t) (ht : t = "int" ∨ t = "bool" ∨ t = "str" ∨ t = "NoneType") (hy : Mz.SlR T ρ G sy y) (ry : L2.RelV y u) : typeOf u = pure (.type t) := by
  cases sy with
  | v w =>
    cases w <;> first
      | (unfold Mz.SlR Rep at hy; subst hy; cases h; first | (obtain ⟨t, rfl⟩ := ry; rfl) | (cases (show u = _ from ry); rfl))
      | (cases h; rcases ht with h | h | h | h <;> exact absurd h (by decide))
      | cases h
  | l n =>
    unfold tyName at h
    dsimp only at h
    split at h
    · cases h; rcases ht with h | h | h | h <;> exact absurd h (by decide)
    · cases h; rcases ht with h | h | h | h <;> exact absurd h (by decide)
    · cases h
  | o n => cases h
theorem opm_ownT {op : Operator} {F : MF} {k c : Nat} {g : Addr} {fd : FuncData} {ps : List Str} {t : String} {fo ro rc : Option Value} (C : ClF X.K (cl c)) (ht : t = "int" ∨ t = "bool" ∨ t = "str" ∨ t = "NoneType") (hs : PySem.W.findIn X.K (.ref (cl c)) (PySem.dunder op.info.2) = some (some (.ref g))) (hf : PySem.W.isFn X.K (.ref g) = true)
    (hr1 : PySem.W.findIn X.K (.ref (cl c)) (dunderR op.info.2) = some rc) (hp : rc = none ∨ ∃ g : Addr, rc = some (.ref g)) (h1 : PySem.W.findIn X.K (.type t) (PySem.dunder op.info.2) = some fo) (h2 : PySem.W.findIn X.K (.type t) (dunderR op.info.2) = some ro) (hsub : PySem.W.subIn X.K (.type t) (.ref (cl c)) = some false)
    (hF : FnOk X.prog X.w X.K X.mg X.base (L2.CX X.prog X.w) k g fd ps (spM ⟨X.K, cl⟩ 2 F)) (tk : Takes X Wx) (hr : Room k X.A) (hb : Binds X.K fd ps []) : OpM X cl Wx (binaryOp op) (opOwnT c t F) :=
  fun pins s σ H x y v u Q ρ G st sx sy I rx ry rel hx hy p => by
    unfold opOwnT at p
    split at p
    · rename_i hi
      obtain ⟨a, dx, fs, rfl, hH⟩ := isCl_at rel hx hi.1
      cases rx
      obtain ⟨mA, J, _⟩ := ins_get I.hok hH
      obtain ⟨od, J, _⟩ := J.look
      obtain ⟨m, hFr⟩ := I.fr
      exact PySem.W.ksp_binT hFr I.ok.mod.kin J (ty_of hi.2 ht hy ry) C.sf hs hf hr1 hp h1 h2 hsub (wpAny_mono (own_call hF tk hr hb I ry rel hx hy p) (fun _ _ h => cmp_back h) fun _ _ h => h)
    · exact p.elim
theorem opm_ownEq {F : MF} {k c : Nat} {g : Addr} {fd : FuncData} {ps : List Str} (hs : PySem.W.findIn X.K (.ref (cl c)) "__eq__" = some (some (.ref g))) (hf : PySem.W.isFn X.K (.ref g) = true)
    (hF : FnOk X.prog X.w X.K X.mg X.base (L2.CX X.prog X.w) k g fd ps (spM ⟨X.K, cl⟩ 2 F)) (tk : Takes X Wx) (hr : Room k X.A) (hb : Binds X.K fd ps []) : OpM X cl Wx (compareOp .Eq) (opOwn c F) :=
  fun pins s σ H x y v u Q ρ G st sx sy I rx ry rel hx hy p => by
    unfold opOwn at p
    split at p
    · rename_i hi
      obtain ⟨a, dx, fs, rfl, hH⟩ := isCl_at rel hx hi.1
      obtain ⟨a2, dx2, fs2, rfl, hH2⟩ := isCl_at rel hy hi.2
      cases rx
      cases ry
      obtain ⟨mA, J, _⟩ := ins_get I.hok hH
      obtain ⟨mB, J', _⟩ := ins_get I.hok hH2
      obtain ⟨od, J, _⟩ := J.look
      obtain ⟨od', J', _⟩ := J'.look
      obtain ⟨m, hFr⟩ := I.fr
      exact PySem.W.cmp_K (op := .Eq) (tb := .ref (cl c)) hr.units0 hFr I.ok.mod.kin J J'.type (by simp [PySem.W.notFirst]) hs hf (wpAny_mono (own_call hF tk hr hb I (y := .ref a2) rfl rel hx hy p) (fun _ _ h => cmp_back h) fun _ _ h => h)
    · exact p.elim
theorem opm_ownLt {F : MF} {k c : Nat} {g : Addr} {fd : FuncData} {ps : List Str} (hs : PySem.W.findIn X.K (.ref (cl c)) "__lt__" = some (some (.ref g))) (hf : PySem.W.isFn X.K (.ref g) = true)
    (hF : FnOk X.prog X.w X.K X.mg X.base (L2.CX X.prog X.w) k g fd ps (spM ⟨X.K, cl⟩ 2 F)) (tk : Takes X Wx) (hr : Room k X.A) (hb : Binds X.K fd ps []) : OpM X cl Wx (compareOp .Lt) (opOwn c F) :=
  fun pins s σ H x y v u Q ρ G st sx sy I rx ry rel hx hy p => by
    unfold opOwn at p
    split at p
    · rename_i hi
      obtain ⟨a, dx, fs, rfl, hH⟩ := isCl_at rel hx hi.1
      obtain ⟨a2, dx2, fs2, rfl, hH2⟩ := isCl_at rel hy hi.2
      cases rx
      cases ry
      obtain ⟨mA, J, _⟩ := ins_get I.hok hH
      obtain ⟨mB, J', _⟩ := ins_get I.hok hH2
      obtain ⟨od, J, _⟩ := J.look
      obtain ⟨od', J', _⟩ := J'.look
      obtain ⟨m, hFr⟩ := I.fr
      exact PySem.W.cmp_K (op := .Lt) (tb := .ref (cl c)) hr.units0 hFr I.ok.mod.kin J J'.type (by simp [PySem.W.notFirst]) hs hf (wpAny_mono (own_call hF tk hr hb I (y := .ref a2) rfl rel hx hy p) (fun _ _ h => cmp_back h) fun _ _ h => h)
    · exact p.elim
/-! ### what is not reached -/
theorem is_bad {t : Stmt} : IS X cl Wx t (fun _ _ => .bad) := ⟨fun pins s σ H D I h => by obtain ⟨env, ρ, G, st, rel, er, p⟩ := h; exact p.elim⟩
theorem ie_bad {t : Expr} : IE X cl Wx t (fun _ _ => .bad) := ⟨fun pins s σ H D I h => by obtain ⟨env, ρ, G, st, rel, er, p⟩ := h; exact p.elim⟩
end
end Mz
namespace Mz
open PySem PySem.Spec PyProof.Rows L2
theorem al_nil {P : Nat → Prop} : ∀ c ∈ ([] : List Nat), P c := fun _ h => by cases h
theorem al_cons {P : Nat → Prop} {a : Nat} {l : List Nat} (h : P a) (t : ∀ c ∈ l, P c) : ∀ c ∈ a :: l, P c := fun c hc => by
  rcases List.mem_cons.mp hc with rfl | hc
  · exact h
  · exact t c hc
theorem at_nil {P : String → Prop} : ∀ c ∈ ([] : List String), P c := fun _ h => by cases h
theorem at_cons {P : String → Prop} {a : String} {l : List String} (h : P a) (t : ∀ c ∈ l, P c) : ∀ c ∈ a :: l, P c := fun c hc => by
  rcases List.mem_cons.mp hc with rfl | hc
  · exact h
  · exact t c hc
theorem lk_nil {P : Nat → Bool → Prop} : ∀ c b, ([] : List (Nat × Bool)).lookup c = some b → P c b := fun _ _ h => by cases h
theorem lk_cons {P : Nat → Bool → Prop} {k : Nat} {v : Bool} {l : List (Nat × Bool)} (h : P k v) (t : ∀ c b, l.lookup c = some b → P c b) : ∀ c b, ((k, v) :: l).lookup c = some b → P c b := fun c b e => by
  rw [List.lookup_cons] at e
  cases hb : (c == k) with
  | true => rw [hb] at e; cases e; cases beq_iff_eq.mp hb; exact h
  | false => rw [hb] at e; exact t c b e
/-! small steps -/
def kAttr (cs : List Nat) (f : Str) (r : Res Sl) : Res Sl := r.bind (attrOf cs f)
theorem e_attr {cs : List Nat} {f : Str} {a : ME} {env : Env} {st : Store} : mAttr cs f a env st = kAttr cs f (a env st) := rfl
theorem k_attr {cs : List Nat} {f : Str} {x : Sl} {st : Store} : kAttr cs f (.ok x st) = attrOf cs f x st := rfl
def kSetA1 (cs : List Nat) (f : Str) (o : ME) (env : Env) (r : Res Sl) : SR := ofR env r fun y st1 => ofR env (o env st1) fun x st2 => setOf cs f env y x st2
def kSetA2 (cs : List Nat) (f : Str) (env : Env) (y : Sl) (r : Res Sl) : SR := ofR env r fun x st2 => setOf cs f env y x st2
theorem e_setA {cs : List Nat} {f : Str} {o e : ME} {env : Env} {st : Store} : mSetA cs f o e env st = kSetA1 cs f o env (e env st) := rfl
theorem k_setA1 {cs : List Nat} {f : Str} {o : ME} {env : Env} {y : Sl} {st : Store} : kSetA1 cs f o env (.ok y st) = kSetA2 cs f env y (o env st) := rfl
theorem k_setA2 {cs : List Nat} {f : Str} {env : Env} {x y : Sl} {st : Store} : kSetA2 cs f env y (.ok x st) = setOf cs f env y x st := rfl
noncomputable def kMake (c : Nat) (F : MF) (r : Res (List Sl)) : Res Sl := r.bind fun xs st1 => makeR st1 (F (.o st1.o.length :: xs) (st1.pusho ⟨c, [], []⟩))
theorem e_make {c : Nat} {F : MF} {a : MA} {env : Env} {st : Store} : mMake c F a env st = kMake c F (a env st) := rfl
theorem k_make {c : Nat} {F : MF} {xs : List Sl} {st : Store} : kMake c F (.ok xs st) = makeR st (F (.o st.o.length :: xs) (st.pusho ⟨c, [], []⟩)) := rfl
theorem make_ok {c : Nat} {ns : List Str} {ws : List W} {vs : List Sl} {st : Store} {st2 : Store} (h : st2 = ⟨st.l, st.o ++ [⟨c, ns, vs⟩]⟩) (hv : vals vs = some ws) : makeR st (.ok (.v .non) st2) = .ok (.v (.ins c ns ws)) st := by
  subst h
  unfold makeR
  dsimp only
  rw [if_pos (by simp), show (st.o ++ [(⟨c, ns, vs⟩ : In)])[st.o.length]? = some ⟨c, ns, vs⟩ by simp]
  dsimp only
  rw [hv]
  dsimp only
  rw [List.take_length]
def kMeth1 (c : Nat) (m : Str) (F : MF) (a : MA) (env : Env) (r : Res Sl) : Res Sl := r.bind fun x st1 => if isOf c m st1 x = true then (a env st1).bind fun xs st2 => F (x :: xs) st2 else .bad
def kMeth2 (F : MF) (x : Sl) (r : Res (List Sl)) : Res Sl := r.bind fun xs st2 => F (x :: xs) st2
def kMethB (b : Bool) (F : MF) (x : Sl) (a : MA) (env : Env) (st : Store) : Res Sl := if b = true then kMeth2 F x (a env st) else .bad
theorem e_meth {c : Nat} {m : Str} {F : MF} {o : ME} {a : MA} {env : Env} {st : Store} : mMeth c m F o a env st = kMeth1 c m F a env (o env st) := rfl
theorem k_meth1 {c : Nat} {m : Str} {F : MF} {a : MA} {env : Env} {x : Sl} {st : Store} : kMeth1 c m F a env (.ok x st) = kMethB (isOf c m st x) F x a env st := rfl
theorem k_methB {F : MF} {x : Sl} {a : MA} {env : Env} {st : Store} : kMethB true F x a env st = kMeth2 F x (a env st) := rfl
theorem k_meth2 {F : MF} {x : Sl} {xs : List Sl} {st : Store} : kMeth2 F x (.ok xs st) = F (x :: xs) st := rfl
def kIsCl (ok : List (Nat × Bool)) (tys : List String) (r : Res Sl) : Res Sl := r.bind (isclOf ok tys)
theorem e_isCl {ok : List (Nat × Bool)} {tys : List String} {a : ME} {env : Env} {st : Store} : mIsCl ok tys a env st = kIsCl ok tys (a env st) := rfl
theorem k_isCl {ok : List (Nat × Bool)} {tys : List String} {x : Sl} {st : Store} : kIsCl ok tys (.ok x st) = isclOf ok tys x st := rfl
theorem set_at {cs : List Nat} {f : Str} {env : Env} {y : Sl} {n : Nat} {st : Store} {z : In} (h : st.o[n]? = some z) (hc : z.c ∈ cs) (hl : z.ns.length < 1000) : setOf cs f env y (.o n) st = .nx env (st.seto n ⟨z.c, putK f z.ns, putW f y z.ns z.vs⟩) := by
  unfold setOf
  dsimp only
  rw [h]
  dsimp only
  rw [if_pos ⟨hc, hl⟩]
end Mz

set_option Elab.async false
set_option linter.all false
set_option maxRecDepth 100000
set_option maxHeartbeats 4000000
namespace Mz
open PySem L2
/-! ## 21. making, reckoned -/
theorem items_pusho {st : Store} {x : Sl} {y : In} : items (st.pusho y) x = items st x := by
  cases x with
  | v w => cases w <;> rfl
  | l n => rfl
  | o n => rfl
theorem pusho_at {st : Store} {y : In} : (st.pusho y).o[st.o.length]? = some y := by unfold Store.pusho; simp
theorem pusho_set {st : Store} {y z : In} : (st.pusho y).seto st.o.length z = st.pusho z := by
  unfold Store.seto Store.pusho; dsimp only; rw [List.set_append_right _ _ (Nat.le_refl _)]; simp
theorem pusho_l {st : Store} {y : In} : (st.pusho y).l = st.l := rfl
theorem attr_o {cs : List Nat} {f : Str} {n : Nat} {st : Store} {y : In} {s : Sl} (h : st.o[n]? = some y) (hc : y.c ∈ cs) (hs : (y.ns.zip y.vs).lookup f = some s) : attrOf cs f (.o n) st = .ok s st := by
  unfold attrOf
  dsimp only
  rw [h]
  dsimp only
  rw [if_pos hc, hs]
theorem fin_ini_ok {st : Store} {y z : In} {env : Env} (hv : valsS z.vs = true) : fin .ini (st.pusho y) (.nx env (st.pusho z)) = .ok (.v .non) (st.pusho z) := by
  have e1 : (st.pusho z).o[(st.pusho y).o.length - 1]? = some z := by unfold Store.pusho; simp
  have e2 : (st.pusho z).o.take ((st.pusho y).o.length - 1) = (st.pusho y).o.take ((st.pusho y).o.length - 1) := by unfold Store.pusho; simp
  have e3 : (st.pusho y).o.take ((st.pusho y).o.length - 1) = st.o := by unfold Store.pusho; simp
  unfold fin
  dsimp only
  unfold cutI
  rw [e1]
  dsimp only
  rw [if_pos ⟨e2, hv, by unfold Store.pusho; simp⟩, e3]
  show Res.ok _ (Store.mk ((st.l).take st.l.length) (st.o ++ [z])) = _
  rw [List.take_length]
  rfl
theorem bsOf_f {α : Type} (f : α → Bool) (xs : List α) : bsOf (xs.map fun q => W.bl (f q)) = some (xs.map f) := by
  rw [show (xs.map fun q => W.bl (f q)) = (xs.map f).map W.bl by rw [List.map_map]; rfl]; exact bsOf_map _
theorem make_ok' {c : Nat} {ns : List Str} {ws : List W} {vs : List Sl} {st : Store} (hv : vals vs = some ws) : makeR st (.ok (.v .non) (st.pusho ⟨c, ns, vs⟩)) = .ok (.v (.ins c ns ws)) st := make_ok rfl hv
/-- loops by while -/
theorem while_of {t : MT} {b : MS} (I : Nat → Env → Store → Prop) : ∀ (n : Nat) (env : Env) (st : Store), I n env st →
    (∀ n env st, I n env st → (t env st = .ok false st ∧ n = 0) ∨ (t env st = .ok true st ∧ ∃ m env2 st2, m < n ∧ b env st = .nx env2 st2 ∧ I m env2 st2)) →
    ∃ env' st', mWhile t b env st = .nx env' st' ∧ I 0 env' st' := by
  intro n env st h hs
  suffices hh : ∀ n env st, I n env st → ∃ k env' st', whileN t b k env st = some (.nx env' st') ∧ I 0 env' st' by
    obtain ⟨k, env', st', e, h'⟩ := hh n env st h
    exact ⟨env', st', mWhile_of e, h'⟩
  intro n
  induction n using Nat.strongRecOn with
  | ind n ih =>
    intro env st h
    rcases hs n env st h with ⟨e, rfl⟩ | ⟨e, m, env2, st2, hm, e2, h2⟩
    · exact ⟨1, env, st, by unfold whileN; rw [e]; rfl, h⟩
    · obtain ⟨k, env', st', e3, h3⟩ := ih m hm env2 st2 h2
      exact ⟨k + 1, env', st', by unfold whileN; rw [e]; dsimp only; rw [if_pos rfl, e2]; exact e3, h3⟩
theorem kit_self {K : PySem.W.Frag} {C : Addr} : PySem.W.kitOne K (.ref C) (.ref C) = some true := by unfold PySem.W.kitOne; simp
theorem kit_sub {K : PySem.W.Frag} {C : Addr} {t : Value} {b : Bool} (ne : (t == Value.ref C) = false) (hd : PySem.W.hasDictIn K C = true) (ty : PySem.W.typeIn K (.ref C) = some (.type "type")) (s : PySem.W.subIn K t (.ref C) = some b) : PySem.W.kitOne K t (.ref C) = some b := by
  obtain ⟨cd, h1, _⟩ := PySem.W.any_some hd
  unfold PySem.W.kitOne PySem.W.kitCls
  rw [if_neg (by rw [ne]; exact Bool.false_ne_true)]
  dsimp only
  rw [if_pos (by rw [h1, ty]; simp), s]
theorem ty_ne {T : String} {C : Addr} : (Value.type T == Value.ref C) = false := Bool.eq_false_iff.mpr fun q => by cases beq_iff_eq.mp q
/-- a list drawn from a pool -/
theorem lc_draw {α : Type} {gd : Store → Prop} {pt : Pat} {me : ME} {env : Env} {st : Store} {p : Nat} (f : α → W) (P : α → Prop) (xs : List W) (hp : Pl st p) (hz : xs.length ≤ big) (hg : ∀ s, gd s)
    (h : ∀ x ∈ xs, ∃ env1, bindP pt x env = some env1 ∧ ∀ s acc, Pl s p → s.l.length = st.l.length → ∃ r s', me env1 (s.push (.lst acc)) = .ok (.v (f r)) (s'.push (.lst acc)) ∧ Pw p s s' ∧ P r) :
    ∃ (ys : List α) (st' : Store), lcL gd pt mYes me env st.l.length (freezeF st.l.length st.o) xs (st.push (.lst [])) = .ok (.v (.lst (ys.map f))) st' ∧ Pw p st st' ∧ ys.length = xs.length ∧ ∀ y ∈ ys, P y := by
  obtain ⟨acc', st', hn, e, ys, h1, h2, h3, h4⟩ := lc_inv (gd := gd) (pt := pt) (mt := mYes) (me := me) (env := env) (n := st.l.length) (fin := freezeF st.l.length st.o)
    (fun i acc st2 => ∃ ys : List α, acc = ys.map f ∧ Pw p st st2 ∧ ys.length = i ∧ ∀ y ∈ ys, P y) xs 0 [] st rfl ⟨[], rfl, Pw.refl hp, rfl, fun _ h => by cases h⟩ (by simpa using hz) (by
      rintro j x acc s hn hx ⟨ys, rfl, hw, hl, hP⟩
      obtain ⟨env1, b1, q⟩ := h x (List.mem_of_getElem? hx)
      obtain ⟨r, s', e1, w1, hr⟩ := q s (ys.map f) hw.pl hn
      refine ⟨hg _, env1, b1, .inr ⟨rfl, f r, s', w1.len.trans hn, e1, ys ++ [r], by rw [List.map_append]; rfl, hw.trans w1, by rw [List.length_append, hl]; rfl, fun y hy => ?_⟩⟩
      rcases List.mem_append.mp hy with h | h
      · exact hP y h
      · rw [List.mem_singleton.mp h]; exact hr)
    (fun _ _ _ => hg _)
  refine ⟨ys, st', ?_, h2, by rw [h3]; simp, h4⟩
  rw [e, ← hn, h1]
  exact fr_push h2.o
def atZ (xs : List Int) (i : Int) : Int := xs.getD i.toNat 0
theorem at_z {xs : List Int} {i : Int} (h0 : 0 ≤ i) (h1 : i < xs.length) : atI (xs.map W.int) i = some (.int (atZ xs i)) := by
  rw [atI_pos h0, List.getElem?_map, List.getElem?_eq_getElem (by omega)]
  unfold atZ
  rw [List.getD_eq_getElem?_getD, List.getElem?_eq_getElem (by omega)]
  rfl
theorem atZ_nn {xs : List Int} (h : ∀ i ∈ xs, 0 ≤ i) {i : Int} : 0 ≤ atZ xs i := by
  unfold atZ
  rw [List.getD_eq_getElem?_getD]
  by_cases hl : i.toNat < xs.length
  · rw [List.getElem?_eq_getElem hl]; exact h _ (List.getElem_mem hl)
  · rw [List.getElem?_eq_none (by omega)]; exact Int.le_refl 0
end Mz

set_option Elab.async false
set_option linter.all false
set_option maxRecDepth 100000
set_option maxHeartbeats 4000000
namespace Mz
open PySem PySem.Spec PyProof.Rows L2
/-! ## 22. raise, try -/
def mRaise (c : Nat) : MS := fun env st => .ex c [] [] env st
def tryR (cs : List (Nat × Bool)) (ms : MS) : SR → SR
  | .ex c ns ws env st => match cs.lookup c with
    | some true => ms env st
    | some false => .ex c ns ws env st
    | none => .bad
  | r => r
def mTry (cs : List (Nat × Bool)) (mb ms : MS) : MS := fun env st => tryR cs ms (mb env st)
section
variable {X : Cx} {cl : Nat → Addr} {Wx : WX} {x : Str} {pos pos' p p2 np : Pos} {mb ms : MS}
theorem is_raise {c : Nat} {bmB : List Value} {B newId initId : String} {m : Str} {j : Nat} (F : ExcBaseFacts B newId initId bmB) (q : PySem.W.excIn X.K (cl c) bmB newId = true) (gC : X.mg x = some (.ref (cl c))) (kC : PySem.W.keepIn X.K (.ref (cl c)) = true) (r : Raises X (.ref (cl c))) (hg : Gl X x)
    (hc : X.calm = true) (tk : Takes X Wx) (hdb : (x == ("__debug__" : Str)) = false := by decide) : IS X cl Wx (.Raise (some (.Call (.Name x p) [.Constant (.str m) j p2] [] pos)) none pos') (mRaise c) :=
  ps_weak (ps_raise hc tk (pmk_own F q gC kC r hg hdb)) fun D σ H ⟨env, ρ, G, st, rel, er, h⟩ => h ρ G H σ none (Fr.refl _ _) rel er (.inl ⟨rfl, rfl, rfl⟩)
theorem is_tryOnly {k : Nat} {body suite : List Stmt} {b₀ : Stmt} (cs : List (Nat × Bool)) (hs : X.stack = X.env :: X.outer) (hf : X.env.frame = some X.env.locals) (hc : Names X x (.ref (cl k))) (tk : Takes X Wx)
    (hcs : ∀ c b, cs.lookup c = some b → PySem.W.exmOne X.K (.ref (cl c)) (.ref (cl k)) = some b)
    (hb : ∀ (W : WX) (pn : List (Addr × Obj)) (xe : Value → Shared → Prop), Takes (X.tr pn xe) W → PassesOwn (model X.prog X.w) X.A X.env xe → ISs (X.tr pn xe) cl W body mb)
    (hsu : ∀ (a : Addr) (oe : Obj) (cls : Value) (d : Option Addr) (pn : List (Addr × Obj)), Zc cls d oe → (∃ vs, oe.data = .fields vs) → ISs (X.suite a ((a, oe) :: pn)) cl Wx (b₀ :: suite) ms) :
    IS X cl Wx (.Try body [.ExceptHandler (some (.Name x np)) none (b₀ :: suite) pos'] [] [] pos) (mTry cs mb ms) :=
  ps_weak (ps_try_only (Wout := Wx) (ts := fun _ _ _ => tS ⟨X.K, cl⟩ Wx ms) (tb := fun W => tS ⟨X.K, cl⟩ W mb) hs hf hc tk (fun W pn xe t o => hb W pn xe t o) (fun a oe cls d pn z f => hsu a oe cls d pn z f)) fun D σ H ⟨env, ρ, G, st, rel, er, h⟩ => by
    refine ⟨env, ρ, G, st, rel, er, ?_⟩
    have h' : PostS ⟨X.K, cl⟩ ρ G (tryR cs ms (mb env st)) D Wx := h
    revert h'
    cases mb env st with
    | ex c ns ws env2 st2 =>
      intro h' ρ1 G1 H1 σ1 d f1 r1 e1 hx
      unfold tryR at h'
      dsimp only at h'
      cases hl : cs.lookup c with
      | none => rw [hl] at h'; exact h'.elim
      | some b =>
        rw [hl] at h'
        refine ⟨b, hcs c b hl, fun hb2 a _ => ?_, fun hb2 => ?_⟩
        · subst hb2
          exact ⟨env2, ρ1, G1, st2, r1, e1, PostS.mono f1 h'⟩
        · subst hb2
          exact h' ρ1 G1 H1 σ1 d f1 r1 e1 hx
    | nx env2 st2 => exact fun h' => h'
    | rt s st2 => exact fun h' => h'
    | bk env2 st2 => exact fun h' => h'
    | ct env2 st2 => exact fun h' => h'
    | bad => exact fun h' => h'
end
theorem e_raise {c : Nat} {env : Env} {st : Store} : mRaise c env st = .ex c [] [] env st := rfl
theorem e_try {cs : List (Nat × Bool)} {mb ms : MS} {env : Env} {st : Store} : mTry cs mb ms env st = tryR cs ms (mb env st) := rfl
theorem t_nx {cs : List (Nat × Bool)} {ms : MS} {env : Env} {st : Store} : tryR cs ms (.nx env st) = .nx env st := rfl
theorem t_rt {cs : List (Nat × Bool)} {ms : MS} {s : Sl} {st : Store} : tryR cs ms (.rt s st) = .rt s st := rfl
def kTry (o : Option Bool) (ms : MS) (c : Nat) (ns : List Str) (ws : List W) (env : Env) (st : Store) : SR := match o with
    | some true => ms env st
    | some false => .ex c ns ws env st
    | none => .bad
theorem t_ex {cs : List (Nat × Bool)} {ms : MS} {c : Nat} {ns : List Str} {ws : List W} {env : Env} {st : Store} : tryR cs ms (.ex c ns ws env st) = kTry (cs.lookup c) ms c ns ws env st := by
  unfold tryR kTry; rfl
theorem t_yes {ms : MS} {c : Nat} {ns : List Str} {ws : List W} {env : Env} {st : Store} : kTry (some true) ms c ns ws env st = ms env st := rfl
theorem t_no {ms : MS} {c : Nat} {ns : List Str} {ws : List W} {env : Env} {st : Store} : kTry (some false) ms c ns ws env st = .ex c ns ws env st := rfl
end Mz

set_option Elab.async false
set_option linter.all false
set_option maxRecDepth 100000
set_option maxHeartbeats 4000000
namespace Mz
open PySem PySem.Spec PyProof.Rows L2
/-! ## 23. properties, own len, own [] -/
def noEx : Res Sl → Res Sl
  | .ex _ _ _ _ => .bad
  | r => r
def mProp (c : Nat) (F : MF) (a : ME) : ME := fun env st => (a env st).bind fun x st1 => if isCl c st1 x = true then noEx (F [x] st1) else .bad
theorem noEx_post {T : Tx} {ρ : Mp} {G : Hp} {r : Res Sl} {Q : VK} {E E' : XK} (h : PostR T ρ G (Mz.SlR T) (noEx r) Q E) : PostR T ρ G (Mz.SlR T) r Q E' := by
  cases r with
  | ok a st => exact h
  | ex c ns ws st => exact h.elim
  | bad => exact h
section
variable {X : Cx} {cl : Nat → Addr} {Wx : WX} {e a b o : Expr} {m ma mb : ME} {pos p apos : Pos} {f x : Str}
theorem ie_prop {F : MF} {k c : Nat} {g pr : Addr} {fd : FuncData} {ps : List Str} (he : IE X cl Wx e m) (C : ClF X.K (cl c)) (hp : PropOf X.K (cl c) f pr g) (hF : FnOk X.prog X.w X.K X.mg X.base (L2.CX X.prog X.w) k g fd ps (spM ⟨X.K, cl⟩ 1 F)) (hr : Room (k + 1) X.A) (hb : Binds X.K fd ps []) (hab : attributeBase e f X.env (eval e X.env) = eval e X.env := by rfl) :
    IE X cl Wx (.Attribute e f pos) (mProp c F m) :=
  pe_weak (pe_prop (E := fun _ _ _ => False) (dvs := []) (ds := []) he C.cl hp hF hr hb .nil (fun pins σ H s u s' I hc => by
    obtain ⟨_, _, _, _, _, hh⟩ := hc
    exact hh.2.2.2.2.2.2.2.elim) hab) fun σ H Q ⟨env, ρ, G, st, rel, er, p⟩ => ⟨env, ρ, G, st, rel, er, PostR.bind (R1 := Mz.SlR ⟨X.K, cl⟩) p fun y st1 ρ1 G1 H1 u f1 r1 s1 p1 => by
      split at p1
      · rename_i hi
        obtain ⟨a, dx, fs, rfl, hH⟩ := isCl_at r1 s1 hi
        exact ⟨a, dx, fs, rfl, hH, ρ1, G1, st1, [y], r1, ⟨_, [], rfl, s1, rfl⟩, rfl, noEx_post p1⟩
      · exact p1.elim⟩
/-! built-ins of which an own class may say more -/
def CaM (X : Cx) (cl : Nat → Addr) (Wx : WX) (f : Value) (g : MF) : Prop :=
  ∀ (pins : List (Addr × Obj)) (s : Shared) (σ : L2.St) (H : Hp) (xs : List V) (us : List Value) (Q : VK) (ρ : Mp) (G : Hp) (st : Store) (ss : List Sl), Inv X pins σ H s → Vals xs us →
    Rel ⟨X.K, cl⟩ ρ G H st → SlRs ⟨X.K, cl⟩ ρ G ss xs → PostR ⟨X.K, cl⟩ ρ G (Mz.SlR ⟨X.K, cl⟩) (g ss st) Q (fun c d H' => Wx c d σ H') →
    wpAny (model X.prog X.w) X.A (call f us) (EP X pins σ Q) X.xe s
theorem cam_std {f : Value} {r : List V → Hp → VK → Prop} {g : MF} (hc : CallR X f r) (hs : CaS ⟨X.K, cl⟩ r g) : CaM X cl Wx f g :=
  fun pins s σ H xs us Q ρ G st ss I rv rel hss p => hc pins s σ H xs us Q I rv (hs ρ G H st ss xs Q _ rel hss p)
theorem cam_or {f : Value} {g1 g2 : MF} (q : List Sl → Store → Bool) (h1 : CaM X cl Wx f g1) (h2 : CaM X cl Wx f g2) : CaM X cl Wx f (fun xs st => if q xs st = true then g1 xs st else g2 xs st) :=
  fun pins s σ H xs us Q ρ G st ss I rv rel hss p => by
    dsimp only at p
    split at p
    · exact h1 pins s σ H xs us Q ρ G st ss I rv rel hss p
    · exact h2 pins s σ H xs us Q ρ G st ss I rv rel hss p
theorem ie_callBM {id : String} {F : MF} {es : List Expr} {ra : MA} (hc : CaM X cl Wx (.builtin id) F) (hg : Gl X x) (hm : X.mg x = none) (hv : bootBuiltins x = some (.builtin id)) (ha : IA X cl Wx (e :: es) ra) (hn : x ≠ "__name__" := by decide) (hdb : (x == ("__debug__" : Str)) = false := by decide)
    (he : starEach (e :: es) X.env = (false, eval e X.env) :: starEach es X.env := by rfl) (hpl : (backTo pos (starEach es X.env)).any (·.1) = false := by rfl) : IE X cl Wx (.Call (.Name x p) (e :: es) [] pos) (mCall F ra) := by
  refine ⟨fun pins s σ H Q I h => ?_⟩
  obtain ⟨env, ρ, G, st, rel, er, q⟩ := h
  refine wpAny_Call_Name_kw (ld_blt I hg hm hv ?_ hn hdb)
  have h1 : tL ⟨X.K, cl⟩ Wx ra σ H (fun us H1 => ∃ ρ1 G1 st1 xs, Rel ⟨X.K, cl⟩ ρ1 G1 H1 st1 ∧ SlRs ⟨X.K, cl⟩ ρ1 G1 xs us ∧ PostR ⟨X.K, cl⟩ ρ1 G1 (Mz.SlR ⟨X.K, cl⟩) (F xs st1) Q (fun c d H' => Wx c d σ H')) :=
    ⟨env, ρ, G, st, rel, er, PostR.bind (R1 := SlRs ⟨X.K, cl⟩) q fun xs st1 ρ1 G1 H1 us f1 r1 s1 p1 => ⟨ρ1, G1, st1, xs, r1, s1, p1⟩⟩
  refine PyProof.Rows.callWith_builtin1 (thn (ha.run pos pins s σ H _ I h1) ?_) he hpl
  rintro us s1 ⟨vs, H1, I1, rv, ρ1, G1, st1, xs, r1, hs, p1⟩
  exact hc pins s1 σ H1 vs us Q ρ1 G1 st1 xs I1 rv r1 hs p1
/-- len of an own class -/
def lenBk : Res Sl → Res Sl
  | .ok (.v (.int i)) st1 => if 0 ≤ i ∧ i < 2 ^ 62 then .ok (.v (.int i)) st1 else .bad
  | _ => .bad
def lenOwn (c : Nat) (F : MF) : MF := fun xs st => match xs with
  | [x] => if isCl c st x = true then lenBk (F [x] st) else .bad
  | _ => .bad
theorem cam_len {F : MF} {k c : Nat} {g : Addr} {fd : FuncData} {ps : List Str} (hs : PySem.W.findIn X.K (.ref (cl c)) "__len__" = some (some (.ref g))) (hf : PySem.W.isFn X.K (.ref g) = true)
    (hF : FnOk X.prog X.w X.K X.mg X.base (L2.CX X.prog X.w) k g fd ps (spM ⟨X.K, cl⟩ 1 F)) (hr : Room (k + 1) X.A) (hb : Binds X.K fd ps []) : CaM X cl Wx (.builtin "len") (lenOwn c F) :=
  fun pins s σ H xs us Q ρ G st ss I rv rel hss p => by
    unfold lenOwn at p
    split at p
    · rename_i y
      obtain ⟨u, rfl, hy⟩ := slrs1 hss
      split at p
      · rename_i hi
        obtain ⟨a, dx, fs, rfl, hH⟩ := isCl_at rel hy hi
        cases rv with
        | cons r rr =>
          cases rr
          cases r
          obtain ⟨mA, J, _⟩ := ins_get I.hok hH
          obtain ⟨od, J, _⟩ := J.look
          obtain ⟨m, hFr⟩ := I.fr
          have sp : spM ⟨X.K, cl⟩ 1 F [.ref a] H (fun v H2 => ∃ i : Int, v = .int i ∧ 0 ≤ i ∧ i < 2 ^ 62 ∧ Q (.int i) H2) (fun _ _ _ => False) := by
            refine ⟨ρ, G, st, [y], rel, ⟨_, [], rfl, hy, rfl⟩, rfl, ?_⟩
            revert p
            cases F [y] st with
            | ok s1 st1 =>
              intro p ρ2 G2 H2 v f2 r2 hv
              unfold lenBk at p
              split at p
              · rename_i i st2 e
                cases e
                split at p
                · rename_i hi2
                  unfold Mz.SlR Rep at hv
                  subst hv
                  exact ⟨i, rfl, hi2.1, hi2.2, p ρ2 G2 H2 _ f2 r2 (by unfold Mz.SlR Rep; rfl)⟩
                · exact p.elim
              · exact p.elim
            | ex c ns ws st1 => exact fun p => p.elim
            | bad => exact fun p => p.elim
          have hl : ([Value.ref a]).length = ps.length := hF.len [.ref a] _ _ _ sp
          have bb := hb s [.ref a] I.kIn (by rw [List.append_nil]; exact hl)
          rw [List.append_nil] at bb
          refine PySem.W.len_K hFr I.ok.mod.kin J hs hf ?_
          refine wpAny_call (codeAny_mono (hF.run X.A.in1 X.stack s H ⟨[.ref a], []⟩ [.ref a] [.ref a] _ _ hr.in1 I.env0.in1 bb (.cons rfl .nil) sp) fun r s' hq => ?_)
          cases r with
          | error e =>
            obtain ⟨_, _, _, _, _, hh⟩ := hq
            exact hh.2.2.2.2.2.2.2.elim
          | ok fl =>
            cases fl with
            | ret u =>
              obtain ⟨v, H', I3, rv3, i, rfl, h0, h1, q3⟩ := I.after hq
              obtain ⟨t, rfl⟩ := (show ∃ t, u = Value.int i t from rv3)
              exact ⟨⟨h0, by omega⟩, .int i, H', I3.tok _, ⟨_, rfl⟩, q3⟩
            | next => exact False.elim hq
            | brk => exact False.elim hq
            | cont => exact False.elim hq
      · exact p.elim
    · exact p.elim
end
end Mz

set_option Elab.async false
set_option linter.all false
set_option maxRecDepth 100000
set_option maxHeartbeats 4000000
namespace Mz
open PySem PySem.Spec PyProof.Rows L2
/-! ## 24. class methods, cls(..) -/
section
variable {X : Cx} {cl : Nat → Addr} {Wx : WX} {e a b o : Expr} {m ma mb : ME} {pos p apos : Pos} {f x : Str}
def mCMeth (c : Nat) (F : MF) (a : MA) : ME := fun env st => (a env st).bind fun xs st1 => F (.v (.cls c) :: xs) st1
theorem ie_cmeth {F : MF} {k n c : Nat} {g pr : Addr} {mc : Value} {fd : FuncData} {ps : List Str} {mm : Str} {e1 : Expr} {es : List Expr} {ra : MA} {pl : Sem Bool} (hg : Gl X x) (hm : X.mg x = some (.ref (cl c))) (r : ClX.CRead X.K (cl c) mc) (ct : ClX.CMet X.K (cl c) mc mm pr g)
    (hF : FnOk X.prog X.w X.K X.mg X.base (L2.CX X.prog X.w) k g fd ps (spM ⟨X.K, cl⟩ n F)) (hn : Ar F n) (tk : Takes X Wx) (hr : Room k X.A) (hb : Binds X.K fd ps []) (ha : IA X cl Wx (e1 :: es) ra) (hdb : (x == ("__debug__" : Str)) = false := by decide)
    (hst : starEach (e1 :: es) X.env = (false, eval e1 X.env) :: starEach es X.env := by rfl) (hpl : (backTo pos (starEach es X.env)).any (·.1) = false := by rfl)
    (ht : eval (.Call (.Attribute (.Name x p) mm apos) (e1 :: es) [] pos) X.env = (do
      let ov ← eval (.Name x p) X.env
      standAt apos.atName
      let (f, first) ← holding [ov] (getMethod ov mm pl)
      callWith pos f first (backTo pos (starEach (e1 :: es) X.env)) (backToKw pos (keywordEach [] X.env))) := by rfl) :
    IE X cl Wx (.Call (.Attribute (.Name x p) mm apos) (e1 :: es) [] pos) (mCMeth c F ra) := by
  refine ⟨fun pins s σ H Q I h => ?_⟩
  obtain ⟨env, ρ, G, st, rel, er, q⟩ := h
  have h2 : tL ⟨X.K, cl⟩ Wx ra σ H (fun us H2 => spM ⟨X.K, cl⟩ n F (.ref (cl c) :: us) H2 Q (fun c d H' => Wx c d σ H')) :=
    ⟨env, ρ, G, st, rel, er, PostR.bind (R1 := SlRs ⟨X.K, cl⟩) q fun xs st2 ρ2 G2 H2 us f2 r2 s2 p2 => sp_of (xs := .v (.cls c) :: xs) hn r2 ⟨_, us, rfl, (by unfold Mz.SlR Rep; rfl), s2⟩ p2⟩
  refine PySem.W.methodCall_KW (pl := pl) (thn ((pe_glob (pos := p) (v := .ref (cl c)) hg hm rfl hdb).run pins s σ H (fun v H1 => v = .ref (cl c) ∧ H1 = H) I ⟨rfl, rfl⟩) ?_) ht
  rintro u s1 ⟨v, H1, I1, rx, rfl, rfl⟩
  obtain rfl : u = Value.ref (cl c) := rx
  refine ClX.getmethcm_ok I1 r ct fun s2 I2 => ?_
  refine ClX.callwith_cm I2 (ClX.base_none I1 (Nat.le_refl _)) ct.fi (thn (ha.run pos _ s2 σ _ _ I2 h2) ?_) hst hpl
  rintro us s3 ⟨vs, H2, I3, rv, q2⟩
  refine ⟨⟨ClX.pin_at I3, I3.kIn⟩, ?_⟩
  have z : wpAny (model X.prog X.w) X.A (call (.ref s1.heap.objs.size) us) (EP X ((s1.heap.objs.size, PySem.W.methodObj (.ref g) (.ref (cl c))) :: pins) σ Q) X.xe s3 := by
    have r2 : Vals (V.ref (cl c) :: vs) (Value.ref (cl c) :: us) := .cons rfl rv
    have hl : (Value.ref (cl c) :: us).length = ps.length := by rw [← r2.length]; exact hF.len _ _ _ _ q2
    have bb := hb s3 (Value.ref (cl c) :: us) I3.kIn (by rw [List.append_nil]; exact hl)
    rw [List.append_nil] at bb
    refine wpAny_call (PySem.W.method_call (ClX.pin_at I3) (codeAny_mono (hF.run X.A X.stack s3 H2 ⟨Value.ref (cl c) :: us, []⟩ _ _ Q _ hr I3.env0 bb r2 q2) fun r s' hq => ?_))
    cases r with
    | error er => exact passAt tk σ _ _ _ er s' I3 hq
    | ok fl =>
      cases fl with
      | ret u => exact I3.after hq
      | next => exact False.elim hq
      | brk => exact False.elim hq
      | cont => exact False.elim hq
  exact thn z fun _ _ y => ClX.unpinE y
/-- cls(..): the class in slot i -/
noncomputable def mMakeL (i c : Nat) (F : MF) (a : MA) : ME := fun env st => match env[i]? with
  | some (some (.v (.cls c'))) => if c' = c then mMake c F a env st else .bad
  | _ => .bad
theorem ie_makeL {F : MF} {k n c i : Nat} {fI : Addr} {fd : FuncData} {ps : List Str} {es : List Expr} {ra : MA} (M : Mk X.K (cl c) fI) (hF : FnOk X.prog X.w X.K X.mg X.base (L2.CX X.prog X.w) k fI fd ps (spM ⟨X.K, cl⟩ n F)) (hn : Ar F n) (tk : Takes X Wx) (hr : Room (k + 1) X.A) (hb : Binds X.K fd ps [])
    (hN : X.N[i]? = some x) (hv : Vis X.env.scope x) (ha : IA X cl Wx (e :: es) ra) (hdb : (x == ("__debug__" : Str)) = false := by decide) (hcd : (x == ("__classdict__" : Str)) = false := by decide) (he : starEach (e :: es) X.env = (false, eval e X.env) :: starEach es X.env := by rfl) (hpl : (backTo pos (starEach es X.env)).any (·.1) = false := by rfl) :
    IE X cl Wx (.Call (.Name x p) (e :: es) [] pos) (mMakeL i c F ra) := by
  refine ⟨fun pins s σ H Q I h => ?_⟩
  obtain ⟨env, ρ, G, st, rel, er, q⟩ := h
  have hi : env[i]? = some (some (.v (.cls c))) ∧ PostR ⟨X.K, cl⟩ ρ G (Mz.SlR ⟨X.K, cl⟩) (mMake c F ra env st) Q (fun c d H' => Wx c d σ H') := by
    unfold mMakeL at q
    split at q
    · rename_i c' hc
      split at q
      · rename_i hcc
        subst hcc
        exact ⟨hc, q⟩
      · exact q.elim
    · exact q.elim
  obtain ⟨u0, hu0, hs0⟩ := er.2 i _ hi.1
  have hu : u0 = .ref (cl c) := by unfold Mz.SlR Rep at hs0; exact hs0
  subst hu
  have q := hi.2
  refine wpAny_Call_Name_kw (thn ((pe_var (pos := p) hN hv hdb hcd).run pins s σ H (fun v H1 => v = .ref (cl c) ∧ H1 = H) I ⟨_, hu0, rfl, rfl⟩) ?_)
  rintro u s0 ⟨v, H0, I0, rx, rfl, rfl⟩
  obtain rfl : u = Value.ref (cl c) := rx
  have h1 : tL ⟨X.K, cl⟩ Wx ra σ H0 (fun us H1 => ∃ ρ1 G1 st1 xs, Rel ⟨X.K, cl⟩ ρ1 G1 H1 st1 ∧ SlRs ⟨X.K, cl⟩ ρ1 G1 xs us ∧ PostR ⟨X.K, cl⟩ ρ1 G1 (Mz.SlR ⟨X.K, cl⟩) (makeR st1 (F (.o st1.o.length :: xs) (st1.pusho ⟨c, [], []⟩))) Q (fun c d H' => Wx c d σ H')) :=
    ⟨env, ρ, G, st, rel, er, PostR.bind (R1 := SlRs ⟨X.K, cl⟩) q fun xs st1 ρ1 G1 H1 us f1 r1 s1 p1 => ⟨ρ1, G1, st1, xs, r1, s1, p1⟩⟩
  refine PySem.W.callWith_K (h₀ := X.base) I0.ok.mod.kin M.kp (thn (ha.run pos pins s0 σ _ _ I0 h1) ?_) he hpl
  rintro us s1 ⟨vs, H1, I1, rv, ρ1, G1, st1, xs, r1, s1', p1⟩
  refine ⟨I1.kIn, ?_⟩
  have hq : ∀ a dx, H1 a = none → H1 dx = none → dx ≠ a → spM ⟨X.K, cl⟩ n F (.ref a :: vs) (upd (upd H1 dx (.own a)) a (.ins (cl c) dx [])) (fun v H2 => v = .non ∧ Q (.ref a) H2) (fun c d H' => Wx c d σ H') := fun a dx h1 h2 h3 => by
    obtain ⟨ρ', k1, k2, k3⟩ := make_post r1 s1' h1 h2 h3 p1
    exact sp_of hn k1 k2 k3
  have hq' := hq (s1.heap.objs.size + 1) s1.heap.objs.size (I1.hok.fresh (Nat.le_succ _)) (I1.hok.fresh (Nat.le_refl _)) (Nat.ne_of_lt (Nat.lt_succ_self _))
  have I2 := Inv.made (C := cl c) I1
  have r2 : Vals (V.ref (s1.heap.objs.size + 1) :: vs) (Value.ref (s1.heap.objs.size + 1) :: us) := .cons rfl rv
  have hl : (Value.ref (s1.heap.objs.size + 1) :: us).length = ps.length := by rw [← r2.length]; exact hF.len _ _ _ _ hq'
  have hbb := hb _ (Value.ref (s1.heap.objs.size + 1) :: us) I2.kIn (by rw [List.append_nil]; exact hl)
  rw [List.append_nil] at hbb
  refine wpAny_call (make_map (f := fI) I1.kIn M.makes M.init (beq_iff_eq.mp M.fn) (codeAny_mono (hF.run _ X.stack _ _ ⟨Value.ref (s1.heap.objs.size + 1) :: us, []⟩ _ _ _ _ (hr.make (cl c) us [])
    (I2.env0.make (cl c) us []) hbb r2 hq') fun r s' hq2 => ?_))
  cases r with
  | error e => exact passAt tk σ pins _ _ e s' I2 hq2
  | ok fl =>
    cases fl with
    | ret u =>
      obtain ⟨v, H', I3, rv', ev, q3⟩ := I2.after hq2
      subst ev
      exact ⟨rv', ⟨V.ref (s1.heap.objs.size + 1), H', I3, rfl, q3⟩⟩
    | next => exact False.elim hq2
    | brk => exact False.elim hq2
    | cont => exact False.elim hq2
end
def kCMeth (c : Nat) (F : MF) (r : Res (List Sl)) : Res Sl := r.bind fun xs st1 => F (.v (.cls c) :: xs) st1
theorem e_cmeth {c : Nat} {F : MF} {a : MA} {env : Env} {st : Store} : mCMeth c F a env st = kCMeth c F (a env st) := rfl
theorem k_cmeth {c : Nat} {F : MF} {xs : List Sl} {st : Store} : kCMeth c F (.ok xs st) = F (.v (.cls c) :: xs) st := rfl
theorem e_makeL {i c : Nat} {F : MF} {a : MA} {env : Env} {st : Store} (h : env[i]? = some (some (.v (.cls c)))) : mMakeL i c F a env st = mMake c F a env st := by
  unfold mMakeL; rw [h]; dsimp only; rw [if_pos rfl]
def kProp (c : Nat) (F : MF) (r : Res Sl) : Res Sl := r.bind fun x st1 => if isCl c st1 x = true then noEx (F [x] st1) else .bad
theorem e_prop {c : Nat} {F : MF} {a : ME} {env : Env} {st : Store} : mProp c F a env st = kProp c F (a env st) := rfl
theorem k_prop {c : Nat} {F : MF} {x : Sl} {st : Store} (h : isCl c st x = true) : kProp c F (.ok x st) = noEx (F [x] st) := by
  unfold kProp Res.bind; dsimp only; rw [if_pos h]
theorem k_noEx {s : Sl} {st : Store} : noEx (.ok s st) = .ok s st := rfl
end Mz

set_option Elab.async false
set_option linter.all false
set_option maxRecDepth 100000
set_option maxHeartbeats 4000000
namespace Mz
open PySem PySem.Spec PyProof.Rows L2
/-! ## 25. {2: 1, ..}[e] with whole numbers, xs[::-1] -/
def kvI (tab : List (Int × Int)) : List (Key × V) := tab.map fun kv => (.inl kv.1, .int kv.2)
def trI (tab : List (Int × Int)) : List (TE × TE) := tab.map fun kv => (tC (.int kv.1), tC (.int kv.2))
theorem val_kvI {i j : Int} : ∀ {tab : List (Int × Int)}, tab.lookup i = some j → valV (kvI tab) (.inl i : Key) = some (.int j)
  | [], h => by cases h
  | (k, v) :: tab, h => by
    rw [List.lookup_cons] at h
    show valV ((.inl k, .int v) :: kvI tab) (.inl i : Key) = _
    cases hb : (i == k) with
    | true => rw [hb] at h; cases h; rw [valV_pos (by show (Sum.inl k : Key) = .inl i; rw [beq_iff_eq.mp hb])]
    | false =>
      rw [hb] at h
      rw [valV_neg (fun e => by have := Sum.inl.inj e; simp [this] at hb)]
      exact val_kvI h
theorem pairs_I {Q : List (V × V) → Hp → Prop} {σ : L2.St} {H : Hp} : ∀ {tab : List (Int × Int)}, Q ((kvI tab).map fun kv => (kV kv.1, kv.2)) H → tPairs (trI tab) σ H Q
  | [], h => h
  | (k, v) :: tab, h => pairs_I (tab := tab) (Q := fun ps H3 => Q ((.int k, .int v) :: ps) H3) h
def mDIxI (tab : List (Int × Int)) (b : ME) : ME := fun env st => (b env st).bind fun y st1 => match y with
  | .v (.int i) => match tab.lookup i with
    | some j => .ok (.v (.int j)) st1
    | none => .bad
  | _ => .bad
section
variable {X : Cx} {cl : Nat → Addr} {Wx : WX} {b : Expr} {mb : ME} {pos p2 : Pos} {keys : List (Option Expr)} {values : List Expr}
theorem ppsI_nil : PPs X p2 [] [] (trI []) := pps_nil
theorem ppsI_cons {k v : Int} {j1 j2 : Nat} {q1 q2 : Pos} {tab : List (Int × Int)} (h : PPs X p2 keys values (trI tab)) : PPs X p2 (some (.Constant (.int k) j1 q1) :: keys) (.Constant (.int v) j2 q2 :: values) (trI ((k, v) :: tab)) := pps_cons pe_int pe_int h
theorem ie_dixI (tab : List (Int × Int)) (hu : X.A.units + 1 < cLine) (h : PPs X p2 keys values (trI tab)) (hb : IE X cl Wx b mb) (hs : NoSl b) (hm : mergeK [] (kvI tab) = kvI tab) (h15 : keys.length ≤ 15) (hall : keys.all (·.isSome) = true) (hl : keys.length = values.length) (h0 : keys ≠ []) (ht : tab.length = keys.length) :
    IE X cl Wx (.Subscript (.Dict keys values p2) b pos) (mDIxI tab mb) :=
  pe_weak (pe_dget hu (pe_disp h hall hl h0 h15) hb hs) fun σ H Q ⟨env, ρ, G, st, rel, er, q⟩ => fun p hp => pairs_I ⟨upd_same, kvI tab, rfl, by unfold kvI; rw [List.length_map, ht]; exact h15, by
    rw [hm, upd_upd]
    obtain ⟨f, r1⟩ := rel.newG (o := .dK (kvI tab)) hp
    refine ⟨env, ρ, _, st, r1, er.mono f, PostR.bind (R1 := Mz.SlR ⟨X.K, cl⟩) (PostR.mono f q) fun y st1 ρ1 G1 H1 u f1 r2 s1 p1 => ?_⟩
    split at p1
    · rename_i i
      split at p1
      · rename_i j hj
        unfold Mz.SlR Rep at s1
        subst s1
        exact ⟨p, .int j, rfl, .inl ⟨kvI tab, .inl i, .inl (r2.ext _ _ (f1.ex _ _ upd_same)), rfl, (val_kvI hj).symm⟩, pg p1 r2 rep_int⟩
      · exact p1.elim
    · exact p1.elim⟩
def revS : Sl → Store → Res Sl := fun x st => match litems st x with
  | some xs => .ok (.v (.lst xs.reverse)) st
  | none => .bad
def mRev (a : ME) : ME := fun env st => (a env st).bind revS
theorem ie_rev {e : Expr} {m : ME} {k : Nat} {q1 q2 q3 : Pos} (he : IE X cl Wx e m) : IE X cl Wx (.Subscript e (.Slice none none (some (.UnaryOp .USub (.Constant (.int 1) k q1) q2)) q3) pos) (mRev m) :=
  pe_weak (pe_revL he) fun σ H Q ⟨env, ρ, G, st, rel, er, q⟩ => ⟨env, ρ, G, st, rel, er, PostR.bind (R1 := Mz.SlR ⟨X.K, cl⟩) q fun x st1 ρ1 G1 H1 u f1 r1 s1 p1 => by
    unfold revS at p1
    split at p1
    · rename_i xs hx
      obtain ⟨a, vs, rfl, hq, hr⟩ := litems_at r1 s1 hx
      refine ⟨a, vs, rfl, hq, fun p hp => ?_⟩
      obtain ⟨f2, r2⟩ := r1.newG (o := .lst vs.reverse) hp
      exact p1 _ _ _ _ f2 r2 (by unfold Mz.SlR Rep; exact ⟨p, _, rfl, upd_same, Reps.mono f2.ex _ _ (Reps.reverse hr)⟩)
    · exact p1.elim⟩
end
def kDIxI (tab : List (Int × Int)) (r : Res Sl) : Res Sl := r.bind fun y st1 => match y with
  | .v (.int i) => match tab.lookup i with
    | some j => .ok (.v (.int j)) st1
    | none => .bad
  | _ => .bad
theorem e_dixI {tab : List (Int × Int)} {b : ME} {env : Env} {st : Store} : mDIxI tab b env st = kDIxI tab (b env st) := rfl
theorem k_dixI {tab : List (Int × Int)} {i j : Int} {st : Store} (h : tab.lookup i = some j) : kDIxI tab (.ok (.v (.int i)) st) = .ok (.v (.int j)) st := by
  unfold kDIxI Res.bind; dsimp only; rw [h]
def kRev (r : Res Sl) : Res Sl := r.bind revS
theorem e_rev {a : ME} {env : Env} {st : Store} : mRev a env st = kRev (a env st) := rfl
theorem k_rev {x : Sl} {st : Store} {xs : List W} (h : litems st x = some xs) : kRev (.ok x st) = .ok (.v (.lst xs.reverse)) st := by
  unfold kRev Res.bind revS; dsimp only; rw [h]
/-! ### a, b = x, y -/
def parE (i j : Nat) (env : Env) : List Sl → Store → SR
  | [x, y], st => .nx ((env.set i (some x)).set j (some y)) st
  | _, _ => .bad
def mPar (i j : Nat) (a : MA) : MS := fun env st => ofR env (a env st) (parE i j env)
theorem is_par {X : Cx} {cl : Nat → Addr} {Wx : WX} (i j : Nat) {x y : Str} {a b : Expr} {ra : MA} {px py pt pos : Pos} {kt k2 pt2} (hc : X.calm = true) (hN : X.N.Nodup) (hi : X.N[i]? = some x) (hj : X.N[j]? = some y) (hij : i ≠ j)
    (hx : X.env.scope.names.lookup x = some .local) (hy : X.env.scope.names.lookup y = some .local) (ha : IA X cl Wx [a, b] ra)
    (hw : swappedStores [.Tuple [.Name x px, .Name y py] kt pt] (.Tuple [a, b] k2 pt2) X.env = pure (some [x, y]))
    (hs : swapsWithSole [.Tuple [.Name x px, .Name y py] kt pt] (.Tuple [a, b] k2 pt2) pos.line X.env = pure false := by rfl) :
    IS X cl Wx (.Assign [.Tuple [.Name x px, .Name y py] kt pt] (.Tuple [a, b] k2 pt2) pos) (mPar i j ra) :=
  ps_weak (ps_par hc hN hi hj hij hx hy ha hw hs) fun D σ H ⟨env, ρ, G, st, rel, er, p⟩ => ⟨env, ρ, G, st, rel, er, PostS.ofR (R := SlRs ⟨X.K, cl⟩) er p fun xs st1 ρ1 G1 H1 us f1 r1 s1 p1 => by
    unfold parE at p1
    split at p1
    · obtain ⟨u, v, rfl, h1, h2⟩ := slrs2 s1
      exact ⟨u, v, rfl, p1 ρ1 G1 H1 _ (Fr.refl _ _) r1 (((er.mono f1).set i h1).set j h2)⟩
    · exact p1.elim⟩
def kPar (i j : Nat) (env : Env) (r : Res (List Sl)) : SR := ofR env r (parE i j env)
theorem e_par {i j : Nat} {a : MA} {env : Env} {st : Store} : mPar i j a env st = kPar i j env (a env st) := rfl
theorem k_par {i j : Nat} {x y : Sl} {env : Env} {st : Store} : kPar i j env (.ok [x, y] st) = .nx ((env.set i (some x)).set j (some y)) st := rfl
end Mz

set_option Elab.async false
set_option linter.all false
set_option maxRecDepth 100000
set_option maxHeartbeats 4000000
namespace Mz
open PySem PySem.Spec PyProof.Rows L2
/-! ## 26. constants of the module -/
section
variable {X : Cx} {cl : Nat → Addr} {Wx : WX} {x : Str} {pos : Pos}
theorem ie_glI {i : Int} {t : Tok} (hg : Gl X x) (hm : X.mg x = some (.int i t)) (hd : (x == ("__debug__" : Str)) = false := by decide) : IE X cl Wx (.Name x pos) (mC (.int i)) :=
  pe_weak (pe_glob (v := .int i) hg hm ⟨_, rfl⟩ hd) fun σ H Q ⟨env, ρ, G, st, rel, er, p⟩ => p.give rel (by unfold Mz.SlR Rep; rfl)
theorem ie_glS {z : Str} {t : Tok} (hg : Gl X x) (hm : X.mg x = some (.str z t)) (hd : (x == ("__debug__" : Str)) = false := by decide) : IE X cl Wx (.Name x pos) (mC (.str z)) :=
  pe_weak (pe_glob (v := .str z) hg hm ⟨_, rfl⟩ hd) fun σ H Q ⟨env, ρ, G, st, rel, er, p⟩ => p.give rel (by unfold Mz.SlR Rep; rfl)
end
/-! ### own [] -/
def IxM (X : Cx) (cl : Nat → Addr) (Wx : WX) (b : Expr) (g : Op2) : Prop :=
  ∀ (value : Expr) (pins : List (Addr × Obj)) (s : Shared) (σ : L2.St) (H : Hp) (x y : V) (v u : Value) (Q : VK) (ρ : Mp) (G : Hp) (st : Store) (sx sy : Sl), Inv X pins σ H s → L2.RelV x v → L2.RelV y u →
    Rel ⟨X.K, cl⟩ ρ G H st → Mz.SlR ⟨X.K, cl⟩ ρ G sx x → Mz.SlR ⟨X.K, cl⟩ ρ G sy y → PostR ⟨X.K, cl⟩ ρ G (Mz.SlR ⟨X.K, cl⟩) (g sx sy st) Q (fun c d H' => Wx c d σ H') →
    wpAny (model X.prog X.w) X.A (subscriptTail value b v u) (EP X pins σ Q) X.xe s
section
variable {X : Cx} {cl : Nat → Addr} {Wx : WX} {a b : Expr} {ma mb : ME} {pos : Pos}
theorem ixm_std {r : R2} {g : Op2} (ho : IxR X r) (hs : OpS ⟨X.K, cl⟩ r g) (hp : PlainIx b) : IxM X cl Wx b g :=
  fun value pins s σ H x y v u Q ρ G st sx sy I rx ry rel hx hy p => ho value b pins s σ H x y v u Q I rx ry (hs ρ G H st sx sy x y Q _ rel hx hy p) (hp _ _)
theorem ixm_or {g1 g2 : Op2} (q : Sl → Sl → Store → Bool) (h1 : IxM X cl Wx b g1) (h2 : IxM X cl Wx b g2) : IxM X cl Wx b (fun x y st => if q x y st = true then g1 x y st else g2 x y st) :=
  fun value pins s σ H x y v u Q ρ G st sx sy I rx ry rel hx hy p => by
    dsimp only at p
    split at p
    · exact h1 value pins s σ H x y v u Q ρ G st sx sy I rx ry rel hx hy p
    · exact h2 value pins s σ H x y v u Q ρ G st sx sy I rx ry rel hx hy p
def ixOwn (c : Nat) (F : MF) : Op2 := fun x y st => if isCl c st x = true then F [x, y] st else .bad
theorem ixm_own {F : MF} {k c : Nat} {g : Addr} {fd : FuncData} {ps : List Str} (hs : PySem.W.findIn X.K (.ref (cl c)) "__getitem__" = some (some (.ref g))) (hf : PySem.W.isFn X.K (.ref g) = true) (hfn : PySem.W.fnIn X.K g = true)
    (hF : FnOk X.prog X.w X.K X.mg X.base (L2.CX X.prog X.w) k g fd ps (spM ⟨X.K, cl⟩ 2 F)) (tk : Takes X Wx) (hr : Room (k + 1) X.A) (hb : Binds X.K fd ps []) (hsl : ∀ v u, subscripted b true v u = runValue (.builtin "lifetime.subscript" ⟨[v, u], []⟩)) : IxM X cl Wx b (ixOwn c F) :=
  fun value pins s σ H x y v u Q ρ G st sx sy I rx ry rel hx hy p => by
    unfold ixOwn at p
    split at p
    · rename_i hi
      obtain ⟨a, dx, fs, rfl, hH⟩ := isCl_at rel hx hi
      cases rx
      obtain ⟨mA, J, _⟩ := ins_get I.hok hH
      obtain ⟨od, J, _⟩ := J.look
      obtain ⟨m, hFr⟩ := I.fr
      have sp : spM ⟨X.K, cl⟩ 2 F [.ref a, y] H Q (fun c d H' => Wx c d σ H') := ⟨ρ, G, st, [sx, sy], rel, ⟨_, _, rfl, hx, _, _, rfl, hy, rfl⟩, rfl, p⟩
      have rv : Vals [V.ref a, y] [Value.ref a, u] := .cons rfl (.cons ry .nil)
      have hl : ([Value.ref a, u]).length = ps.length := by rw [← rv.length]; exact hF.len _ _ _ _ sp
      have bb := hb s [.ref a, u] I.kIn (by rw [List.append_nil]; exact hl)
      rw [List.append_nil] at bb
      refine PySem.W.sub_K hFr I.ok.mod.kin J hs hfn hf ?_ (hsl _ _)
      refine wpAny_call (codeAny_mono (hF.run X.A.in1 X.stack s H ⟨[.ref a, u], []⟩ _ _ Q _ hr.in1 I.env0.in1 bb rv sp) fun r s' hq => ?_)
      cases r with
      | error e => exact passAt tk σ pins _ _ e s' I hq
      | ok fl =>
        cases fl with
        | ret u => exact I.after hq
        | next => exact False.elim hq
        | brk => exact False.elim hq
        | cont => exact False.elim hq
    · exact p.elim
theorem ie_ixM {g : Op2} (hf : IxM X cl Wx b g) (ha : IE X cl Wx a ma) (hb : IE X cl Wx b mb) : IE X cl Wx (.Subscript a b pos) (mOp g ma mb) := by
  refine ⟨fun pins s σ H Q I h => ?_⟩
  obtain ⟨env, ρ, G, st, rel, er, q⟩ := h
  refine Subscript_ (binT (R := fun x y H2 => ∃ ρ2 G2 st2 sx sy, Rel ⟨X.K, cl⟩ ρ2 G2 H2 st2 ∧ Mz.SlR ⟨X.K, cl⟩ ρ2 G2 sx x ∧ Mz.SlR ⟨X.K, cl⟩ ρ2 G2 sy y ∧ PostR ⟨X.K, cl⟩ ρ2 G2 (Mz.SlR ⟨X.K, cl⟩) (g sx sy st2) Q (fun c d H' => Wx c d σ H')) (f := subscriptTail a b) ha hb I
    ⟨env, ρ, G, st, rel, er, PostR.bind (R1 := Mz.SlR ⟨X.K, cl⟩) q fun x st1 ρ1 G1 H1 u f1 r1 s1 p1 => ⟨env, ρ1, G1, st1, r1, er.mono f1, PostR.bind (R1 := Mz.SlR ⟨X.K, cl⟩) p1 fun y st2 ρ2 G2 H2 v f2 r2 s2 p2 => ⟨ρ2, G2, st2, x, y, r2, s1.mono f2, s2, p2⟩⟩⟩ ?_)
  rintro v u s2 x y H2 I2 rx ry ⟨ρ2, G2, st2, sx, sy, r2, hx, hy, p2⟩
  exact hf a pins s2 σ H2 x y v u Q ρ2 G2 st2 sx sy I2 rx ry r2 hx hy p2
end
end Mz

set_option Elab.async false
set_option linter.all false
set_option maxRecDepth 100000
set_option maxHeartbeats 4000000
namespace Mz
open PySem PySem.Spec PyProof.Rows L2
/-! ## 27. constants of a class, read off the class -/
theorem ie_ccon {X : Cx} {cl : Nat → Addr} {Wx : WX} {x f : Str} {p pos : Pos} {c : Nat} {i : Int} {t : Tok} {mc : Value} (hg : Gl X x) (hm : X.mg x = some (.ref (cl c))) (r : ClX.CRead X.K (cl c) mc) (k : ClX.CVal X.K (cl c) mc f (.int i) (.int i t))
    (hd : (x == ("__debug__" : Str)) = false := by decide) (hb : attributeBase (.Name x p) f X.env (eval (.Name x p) X.env) = eval (.Name x p) X.env := by rfl) : IE X cl Wx (.Attribute (.Name x p) f pos) (mC (.int i)) :=
  pe_weak (ClX.pe_cval (pe_glob (v := .ref (cl c)) hg hm rfl hd) hb) fun σ H Q ⟨env, ρ, G, st, rel, er, h⟩ => ⟨_, mc, .int i, _, rfl, r, k, h.give rel (by unfold Mz.SlR Rep; rfl)⟩
def oneIs (c : Nat) (xs : List Sl) (st : Store) : Bool := match xs with
  | [x] => isCl c st x
  | _ => false
end Mz

set_option Elab.async false
set_option linter.all false
set_option maxRecDepth 100000
set_option maxHeartbeats 4000000
namespace Mz
open PySem PySem.Spec PyProof.Rows L2
/-! ## 28. zip of two tuples -/
def Itzt (K : PySem.W.Frag) (a b : Addr) : It where
  go := fun i H => ∃ (xs ys : List V) (x y : V), SqT K H a xs ∧ SqT K H b ys ∧ xs[i]? = some x ∧ ys[i]? = some y
  yld := fun i H v H' => ∃ T x y, v = .ref T ∧ H T = none ∧ H' = upd H T (.tup [x, y]) ∧ (∀ xs, SqT K H a xs → xs[i]? = some x) ∧ ∀ ys, SqT K H b ys → ys[i]? = some y
  stop := fun i H => ∃ xs ys : List V, SqT K H a xs ∧ SqT K H b ys ∧ (xs.length ≤ i ∨ ys.length ≤ i)
theorem draws_end {prog : Program} {w : World} {A : Around} (hh : A.handled = none) {it t : Addr} {items : Array Value} {i : Nat} (hx : items[i]? = none) :
    Draws prog w A it [it, t] i (fun _ _ => False) (fun j h => j = i ∧ h.IsTupleIter it t i ∧ h.IsTuple t items) where
  live := fun _ _ st => let ⟨o, ho, _⟩ := st.2.1; ⟨o, ho⟩
  frame := fun _ _ _ st hk => ⟨st.1, st.2.1.at fun o e => hk it (by simp) o e, st.2.2.at fun o e => hk t (by simp) o e⟩
  item := fun j s Q E hj st _ => absurd st.1 (Nat.ne_of_lt hj)
  done := fun s Q E st hE => wpAny_nextOf_tuple_end hh st.2.1 st.2.2 hx hE
theorem turn_zt {P : Program} {w : World} {K : PySem.W.Frag} {elts : List Expr} {kk : Nat} {tpos : Pos} {a b z TI TO i1 i2 : Addr} (D : ZipSep2 z TI TO i1 i2 [i1, a] [i2, b]) (hai : a ≠ i1) (hbi : b ≠ i2) :
    Turn P w K (.Tuple elts kk tpos) (Itzt K a b) [z, TI, TO, i1, i2] z (fun i h => IsZip h z TI TO .none ∧ IsTupOf2 h TI (.ref i1) (.ref i2) ∧ (∃ x y, IsTupOf2 h TO x y) ∧ h.IsTupleIter i1 a i ∧ h.IsTupleIter i2 b i) where
  mem := List.mem_cons_self ..
  obj := fun i h st c hc => by
    obtain ⟨hz, hTI, ⟨x, y, hTO⟩, ⟨o1, e1, _, d1⟩, ⟨o2, e2, _, d2⟩⟩ := st
    have e' : c = z ∨ c = TI ∨ c = TO ∨ c = i1 ∨ c = i2 := by simpa using hc
    rcases e' with q | q | q | q | q <;> rw [q]
    · exact ⟨_, hz, fun v q => nomatch q⟩
    · exact ⟨_, hTI, fun v q => nomatch q⟩
    · exact ⟨_, hTO, fun v q => nomatch q⟩
    · exact ⟨o1, e1, fun v q => by rw [d1] at q; cases q⟩
    · exact ⟨o2, e2, fun v q => by rw [d2] at q; cases q⟩
  keep := fun i h h' st k => by
    obtain ⟨hz, hTI, ⟨x, y, hTO⟩, h1, h2⟩ := st
    exact ⟨k z (by simp) _ hz, k TI (by simp) _ hTI, ⟨x, y, k TO (by simp) _ hTO⟩, h1.at fun o q => k i1 (by simp) o q, h2.at fun o q => k i2 (by simp) o q⟩
  item := by
    intro X hP hw hK hc i pins s σ H E I hf st hg
    subst hP hw hK
    obtain ⟨hz, hTI, ⟨x0, y0, hTO⟩, h1, h2⟩ := st
    obtain ⟨xs, ys, x, y, hqx, hqy, hx, hy⟩ := hg
    obtain ⟨its, rv, p, _⟩ := I.tuple hqx
    obtain ⟨its2, rv2, p2, _⟩ := I.tuple hqy
    obtain ⟨u, hu, ru⟩ := rv.get hx
    obtain ⟨u2, hu2, ru2⟩ := rv2.get hy
    have hzl : z < s.heap.objs.size := Heap.lt_size hz
    have D1 := Draws.tuple (prog := X.prog) (w := X.w) (A := X.A.in1) (I.ok.hd hc) i1 a hai its.toArray
    have D2 := Draws.tuple (prog := X.prog) (w := X.w) (A := X.A.in1) (I.ok.hd hc) i2 b hbi its2.toArray
    have hlt1 : i < its.toArray.size := by simp; exact get_lt hu
    have hlt2 : i < its2.toArray.size := by simp; exact get_lt hu2
    refine wpAny_pyNext_zipD2_item D D1 D2 hz hTI hTO ⟨h1, p⟩ ⟨h2, p2⟩ hlt1 hlt2 fun y1 y2 h' tk hy1 hy2 hz' hTO' st1 st2 hT hsz hk => ?_
    have e1 : y1 = u := by
      have : its.toArray[i]? = some u := by simpa using hu
      rw [this] at hy1; exact (Option.some.inj hy1).symm
    have e2 : y2 = u2 := by
      have : its2.toArray[i]? = some u2 := by simpa using hu2
      rw [this] at hy2; exact (Option.some.inj hy2).symm
    subst e1 e2
    refine ⟨_, rfl, wpAny_letOwnedTupleGo_zip (s := { s with heap := h', toks := tk }) hz' fun h'' z'' sb => ?_⟩
    have hT2 : h''.get? s.heap.objs.size = some { cls := .type "tuple", data := .seq #[y1, y2] } := (sb.2 _ (Nat.ne_of_gt hzl)).trans hT
    have new : ObjOk X.prog X.w (upd H s.heap.objs.size (.tup [x, y])) h'' s.heap.objs.size (.tup [x, y]) :=
      ⟨by show 2 ≤ sizeLine; decide, [y1, y2], .cons ru (.cons ru2 .nil), ⟨_, hT2, rfl, _, rfl⟩⟩
    have I1 : Inv X pins σ (upd H s.heap.objs.size (.tup [x, y])) { s with heap := h'', toks := tk } :=
      I.turnedNew (ch := [z, TI, TO, i1, i2]) (fun b ob hb q => by
        have b1 : b ≠ z := fun e => hb (by simp [e])
        have b2 : b ≠ TO := fun e => hb (by simp [e])
        have b3 : b ≠ i1 := fun e => hb (by simp [e])
        have b4 : b ≠ i2 := fun e => hb (by simp [e])
        exact (sb.2 b b1).trans (hk b ob b1 b2 b3 b4 q)) hf (Nat.le_refl _) new
    refine ⟨.ref s.heap.objs.size, _, I1, rfl, ⟨_, x, y, rfl, I.hok.fresh (Nat.le_refl _), rfl, fun zs hy => by rw [I.tuple_inj hy hqx]; exact hx, fun zs hy' => by rw [I.tuple_inj hy' hqy]; exact hy⟩,
      ⟨z'', (sb.2 TI D.TIz).trans (hk TI _ D.TIz D.TITO D.TIi1 D.TIi2 hTI), ⟨_, _, (sb.2 TO D.TOz).trans hTO'⟩, st1.1.at fun o q => (sb.2 i1 (Ne.symm D.zi1)).trans q, st2.1.at fun o q => (sb.2 i2 (Ne.symm D.zi2)).trans q⟩, fun b hb => ?_⟩
    have hb' : b < s.heap.objs.size := by
      have e' : b = z ∨ b = TI ∨ b = TO ∨ b = i1 ∨ b = i2 := by simpa using hb
      rcases e' with q | q | q | q | q <;> rw [q]
      · exact hzl
      · exact Heap.lt_size hTI
      · exact Heap.lt_size hTO
      · obtain ⟨_, q1, _⟩ := h1; exact Heap.lt_size q1
      · obtain ⟨_, q1, _⟩ := h2; exact Heap.lt_size q1
    rw [upd_ne (Nat.ne_of_lt hb')]
    exact (hf b hb).1
  done := by
    intro X hP hw hK hc i pins s σ H E I hf st hg
    subst hP hw hK
    obtain ⟨hz, hTI, ⟨x0, y0, hTO⟩, h1, h2⟩ := st
    obtain ⟨xs, ys, hqx, hqy, hx⟩ := hg
    obtain ⟨its, rv, p, _⟩ := I.tuple hqx
    obtain ⟨its2, rv2, p2, _⟩ := I.tuple hqy
    have l1 := rv.length
    have l2 := rv2.length
    have fin : ∀ h' tk, (∀ c o, c ≠ z → c ≠ TO → c ≠ i1 → c ≠ i2 → s.heap.get? c = some o → h'.get? c = some o) → (none : Option Value) = none ∧ Inv X pins σ H { s with heap := h', toks := tk } := fun h' tk hk =>
      ⟨rfl, I.turnedL (ch := [z, TI, TO, i1, i2]) (fun c o hb q => hk c o (fun e => hb (by simp [e])) (fun e => hb (by simp [e])) (fun e => hb (by simp [e])) (fun e => hb (by simp [e])) q) hf⟩
    have D1 := Draws.tuple (prog := X.prog) (w := X.w) (A := X.A.in1) (I.ok.hd hc) i1 a hai its.toArray
    have D2 := Draws.tuple (prog := X.prog) (w := X.w) (A := X.A.in1) (I.ok.hd hc) i2 b hbi its2.toArray
    have s1 : its.toArray.size = xs.length := by simp; omega
    have s2 : its2.toArray.size = ys.length := by simp; omega
    have E1 : xs.length ≤ i → Draws X.prog X.w X.A.in1 i1 [i1, a] i (fun _ _ => False) (fun j h => j = i ∧ h.IsTupleIter i1 a i ∧ h.IsTuple a its.toArray) := fun h => draws_end (A := X.A.in1) (I.ok.hd hc) (show its.toArray[i]? = none from Array.getElem?_eq_none (by omega))
    have E2 : ys.length ≤ i → Draws X.prog X.w X.A.in1 i2 [i2, b] i (fun _ _ => False) (fun j h => j = i ∧ h.IsTupleIter i2 b i ∧ h.IsTuple b its2.toArray) := fun h => draws_end (A := X.A.in1) (I.ok.hd hc) (show its2.toArray[i]? = none from Array.getElem?_eq_none (by omega))
    by_cases c1 : i < xs.length
    · have c2 : ys.length ≤ i := by omega
      exact wpAny_pyNext_zipD2_end D D1 (E2 c2) hz hTI hTO ⟨h1, p⟩ ⟨rfl, h2, p2⟩ (by omega) (Nat.le_refl i) (.inr rfl) fin
    · by_cases c2 : i < ys.length
      · exact wpAny_pyNext_zipD2_end D (E1 (Nat.le_of_not_lt c1)) D2 hz hTI hTO ⟨rfl, h1, p⟩ ⟨h2, p2⟩ (Nat.le_refl i) (by omega) (.inl rfl) fin
      · exact wpAny_pyNext_zipD2_end D (E1 (by omega)) (E2 (by omega)) hz hTI hTO ⟨rfl, h1, p⟩ ⟨rfl, h2, p2⟩ (Nat.le_refl i) (Nat.le_refl i) (.inl rfl) fin
  self := fun A i s Q E st h => by
    obtain ⟨hz, _⟩ := st
    exact wpAny_pyIter_zip hz h
def iZipT (K : PySem.W.Frag) (ta : TA) : TI := fun σ H R => ta σ H fun vs H1 => ∃ a b, vs = [.ref a, .ref b] ∧ (∃ xs, SqT K H1 a xs) ∧ (∃ ys, SqT K H1 b ys) ∧ R (Itzt K a b) H1
theorem pi_zipT {X : Cx} {e1 e2 : Expr} {ta : TA} {p pos tpos : Pos} {elts : List Expr} {kk : Nat} (hg : Gl X "zip") (hm : X.mg "zip" = none) (ha : PA X [e1, e2] ta) (hs : starEach [e1, e2] X.env = (false, eval e1 X.env) :: starEach [e2] X.env := by rfl) (hpl : (backTo pos (starEach [e2] X.env)).any (·.1) = false := by rfl) :
    PI X (.Tuple elts kk tpos) (.Call (.Name "zip" p) [e1, e2] [] pos) (iZipT X.K ta) := by
  refine ⟨fun pins s σ H R I h => Call_ (ld_blt I hg hm boot_zip (PyProof.Rows.callWith_type1 (thn (ha.run pos pins s σ H _ I h) ?_) hs hpl))⟩
  rintro us s1 ⟨vs, H1, I1, r1, a, b, rfl, ⟨xs, hqx⟩, ⟨ys, hqy⟩, q⟩
  cases r1 with
  | cons r rr =>
    cases rr with
    | cons r' rr' =>
      cases rr'
      cases r
      cases r'
      obtain ⟨its, rv, p1, _⟩ := I1.tuple hqx
      obtain ⟨its2, rv2, p2, _⟩ := I1.tuple hqy
      have la : a < s1.heap.objs.size := by obtain ⟨o, e, _⟩ := p1; exact Heap.lt_size e
      have lb : b < s1.heap.objs.size := by obtain ⟨o, e, _⟩ := p2; exact Heap.lt_size e
      generalize hN : s1.heap.objs.size = N at la lb
      refine zip_begins2 (begins_tuple a its.toArray) (begins_tuple b its2.toArray) p1 p2 fun h' hz hTI hTO g1 g2 hsz hk => wpAny_pyIter_zip hz ?_
      rw [hN] at hz hTI hTO g1 g2 ⊢
      have I2 : Inv X pins σ H1 { s1 with heap := h' } := I1.kept (t' := s1.toks) hk
      have ni : ∀ {c x y : Nat}, c ≠ x → c ≠ y → c ∉ [x, y] := fun h1 h2 h => by
        rcases List.mem_cons.mp h with e | e
        · exact h1 e
        · exact h2 (List.mem_singleton.mp e)
      have ne : ∀ {x : Nat} (k : Nat), x < N → N + k ≠ x := fun k hx e => Nat.not_lt.mpr (Nat.le_add_right N k) (e ▸ hx)
      have nk : ∀ (j k : Nat), j ≠ k → N + j ≠ N + k := fun j k h e => h (Nat.add_left_cancel e)
      have hD : ZipSep2 (N + 4) (N + 2) (N + 3) N (N + 1) [N, a] [N + 1, b] :=
        ⟨nk 2 4 (by decide), nk 3 4 (by decide), nk 2 3 (by decide), nk 2 0 (by decide), List.mem_cons_self .., ni (nk 4 0 (by decide)) (ne 4 la), ni (nk 3 0 (by decide)) (ne 3 la), nk 2 1 (by decide), List.mem_cons_self .., ni (nk 4 1 (by decide)) (ne 4 lb), ni (nk 3 1 (by decide)) (ne 3 lb), ni (nk 0 1 (by decide)) (ne 0 lb), ni (nk 1 0 (by decide)) (ne 1 la)⟩
      refine ⟨N + 4, [N + 4, N + 2, N + 3, N, N + 1], _, _, H1, rfl, I2, turn_zt hD (Ne.symm (ne 0 la)) (Ne.symm (ne 1 lb)), ⟨hz, hTI, ⟨_, _, hTO⟩, ⟨_, g1, rfl, rfl⟩, ⟨_, g2, rfl, rfl⟩⟩, fun c hc => ?_, q⟩
      have hle : s1.heap.objs.size ≤ c := by
        rw [hN]
        have e' : c = N + 4 ∨ c = N + 2 ∨ c = N + 3 ∨ c = N ∨ c = N + 1 := by simpa using hc
        rcases e' with z | z | z | z | z <;> rw [z] <;> omega
      exact I1.fpOk hle (I1.hok.fresh hle)
/-! pairs of two tuples -/
def pairW : List W → List W → List W
  | x :: xs, y :: ys => .tup [x, y] :: pairW xs ys
  | _, _ => []
theorem pairW_at : ∀ {xs ys : List W} {i : Nat} {w : W}, (pairW xs ys)[i]? = some w → ∃ x y, xs[i]? = some x ∧ ys[i]? = some y ∧ w = .tup [x, y]
  | [], _, _, _, h => by simp [pairW] at h
  | _ :: _, [], _, _, h => by simp [pairW] at h
  | x :: xs, y :: ys, 0, w, h => by simp [pairW] at h; exact ⟨x, y, rfl, rfl, h.symm⟩
  | x :: xs, y :: ys, i + 1, w, h => pairW_at (xs := xs) (ys := ys) (i := i) h
theorem pairW_len : ∀ {xs ys : List W} {i : Nat}, (pairW xs ys).length ≤ i → xs.length ≤ i ∨ ys.length ≤ i
  | [], _, _, _ => .inl (Nat.zero_le _)
  | _ :: _, [], _, _ => .inr (Nat.zero_le _)
  | x :: xs, y :: ys, 0, h => by simp [pairW] at h
  | x :: xs, y :: ys, i + 1, h => by
    rcases pairW_len (xs := xs) (ys := ys) (i := i) (by simpa [pairW] using h) with h | h
    · exact .inl (Nat.succ_le_succ h)
    · exact .inr (Nat.succ_le_succ h)
def zipSrc : List Sl → Store → Res Src
  | [.v (.tup xs), .v (.tup ys)], st1 => .ok ⟨pairW xs ys, fun _ => True⟩ st1
  | _, _ => .bad
def mItZ (a : MA) : MI := fun env st => (a env st).bind zipSrc
theorem its_zipT {T : Tx} {ρ : Mp} {G : Hp} {xs ys : List W} {a b : Addr} {us vs : List V} (hq : SqT T.K G a us) (hr : Reps T G xs us) (hq2 : SqT T.K G b vs) (hr2 : Reps T G ys vs) : ItS T ρ G ⟨pairW xs ys, fun _ => True⟩ (Itzt T.K a b) := by
  refine ⟨fun i H st' ρ' G' f r g hi => ?_, fun i w H st' ρ' G' f r g hw => ?_⟩
  · refine ⟨us, vs, sqt_mono r.ext (sqt_mono f.ex hq), sqt_mono r.ext (sqt_mono f.ex hq2), ?_⟩
    rw [← hr.length, ← hr2.length]
    exact pairW_len hi
  · obtain ⟨x, y, hx, hy, rfl⟩ := pairW_at (show (pairW xs ys)[i]? = some w from hw)
    obtain ⟨u, hu, ru⟩ := Reps.get' hr hx
    obtain ⟨v, hv, rv⟩ := Reps.get' hr2 hy
    have q1 := sqt_mono r.ext (sqt_mono f.ex hq)
    have q2 := sqt_mono r.ext (sqt_mono f.ex hq2)
    refine ⟨⟨us, vs, u, v, q1, q2, hu, hv⟩, fun z H' hy => ?_⟩
    obtain ⟨q, u', v', rfl, hn, rfl, h1, h2⟩ := hy
    have e1 := h1 us q1
    have e2 := h2 vs q2
    rw [hu] at e1
    rw [hv] at e2
    cases e1
    cases e2
    obtain ⟨f2, r2⟩ := r.newG (o := .tup [u, v]) hn
    refine ⟨_, f2, r2, ?_⟩
    unfold Rep
    exact ⟨q, _, rfl, SqT.of upd_same, Reps.cons (Rep.mono f2.ex _ _ (Rep.mono f.ex _ _ ru)) (Reps.cons (Rep.mono f2.ex _ _ (Rep.mono f.ex _ _ rv)) Reps.nil)⟩
theorem ii_zip {X : Cx} {cl : Nat → Addr} {Wx : WX} {e1 e2 : Expr} {ma : MA} {p pos tpos : Pos} {elts : List Expr} {kk : Nat} (hg : Gl X "zip") (hm : X.mg "zip" = none) (ha : IA X cl Wx [e1, e2] ma) (hs : starEach [e1, e2] X.env = (false, eval e1 X.env) :: starEach [e2] X.env := by rfl) (hpl : (backTo pos (starEach [e2] X.env)).any (·.1) = false := by rfl) :
    II X cl Wx (.Tuple elts kk tpos) (.Call (.Name "zip" p) [e1, e2] [] pos) (mItZ ma) :=
  pi_weak (pi_zipT hg hm ha hs hpl) fun σ H Q ⟨env, ρ, G, st, rel, er, p⟩ => ⟨env, ρ, G, st, rel, er, PostR.bind (R1 := SlRs ⟨X.K, cl⟩) p fun xs st1 ρ1 G1 H1 us f1 r1 s1 p1 => by
    unfold zipSrc at p1
    split at p1
    · obtain ⟨u, v, rfl, h1, h2⟩ := slrs2 s1
      unfold Mz.SlR Rep at h1 h2
      obtain ⟨a, vs, rfl, hq, hr⟩ := h1
      obtain ⟨b, vs2, rfl, hq2, hr2⟩ := h2
      exact ⟨a, b, rfl, ⟨vs, sqt_mono r1.ext hq⟩, ⟨vs2, sqt_mono r1.ext hq2⟩, p1.give r1 (its_zipT hq hr hq2 hr2)⟩
    · exact p1.elim⟩
def kZip (r : Res (List Sl)) : Res Src := r.bind zipSrc
theorem e_itZ {a : MA} {env : Env} {st : Store} : mItZ a env st = kZip (a env st) := rfl
theorem k_zip {xs ys : List W} {st : Store} : kZip (.ok [.v (.tup xs), .v (.tup ys)] st) = .ok ⟨pairW xs ys, fun _ => True⟩ st := rfl
end Mz

set_option Elab.async false
set_option linter.all false
set_option maxRecDepth 100000
set_option maxHeartbeats 4000000
namespace Mz
open PySem L2
/-! ## 29. a making that fails -/
theorem fin_ini_ex {st : Store} {y z : In} {c : Nat} {ns : List Str} {ws : List W} {env : Env} (hv : valsS z.vs = true) : fin .ini (st.pusho y) (.ex c ns ws env (st.pusho z)) = .ex c ns ws (st.pusho z) := by
  have e1 : (st.pusho z).o[(st.pusho y).o.length - 1]? = some z := by unfold Store.pusho; simp
  have e2 : (st.pusho z).o.take ((st.pusho y).o.length - 1) = (st.pusho y).o.take ((st.pusho y).o.length - 1) := by unfold Store.pusho; simp
  have e3 : (st.pusho y).o.take ((st.pusho y).o.length - 1) = st.o := by unfold Store.pusho; simp
  unfold fin
  dsimp only
  unfold cutI
  rw [e1]
  dsimp only
  rw [if_pos ⟨e2, hv, by unfold Store.pusho; simp⟩, e3]
  show Res.ex c ns ws (Store.mk ((st.l).take st.l.length) (st.o ++ [z])) = _
  rw [List.take_length]
  rfl
theorem make_ex {st : Store} {c : Nat} {ns : List Str} {ws : List W} {z : In} : makeR st (.ex c ns ws (st.pusho z)) = .ex c ns ws st := by
  unfold makeR
  dsimp only
  rw [if_pos (by unfold Store.pusho; simp)]
  show Res.ex c ns ws (Store.mk (st.l.take st.l.length) st.o) = _
  rw [List.take_length]
end Mz

set_option Elab.async false
set_option linter.all false
set_option maxRecDepth 100000
set_option maxHeartbeats 4000000
namespace Mz
open PySem PySem.Spec PyProof.Rows L2
/-! ## 30. own unary minus -/
def UnM (X : Cx) (cl : Nat → Addr) (Wx : WX) (f : Value → Sem Value) (g : Sl → Store → Res Sl) : Prop :=
  ∀ (pins : List (Addr × Obj)) (s : Shared) (σ : L2.St) (H : Hp) (x : V) (v : Value) (Q : VK) (ρ : Mp) (G : Hp) (st : Store) (sx : Sl), Inv X pins σ H s → L2.RelV x v →
    Rel ⟨X.K, cl⟩ ρ G H st → Mz.SlR ⟨X.K, cl⟩ ρ G sx x → PostR ⟨X.K, cl⟩ ρ G (Mz.SlR ⟨X.K, cl⟩) (g sx st) Q (fun c d H' => Wx c d σ H') →
    wpAny (model X.prog X.w) X.A (f v) (EP X pins σ Q) X.xe s
section
variable {X : Cx} {cl : Nat → Addr} {Wx : WX} {a : Expr} {ma : ME} {pos : Pos}
theorem unm_std {f : Value → Sem Value} {r : V → Hp → VK → Prop} {g : Sl → Store → Res Sl} (ho : UnR X f r) (hs : UnS ⟨X.K, cl⟩ r g) : UnM X cl Wx f g :=
  fun pins s σ H x v Q ρ G st sx I rx rel hx p => ho pins s σ H x v Q I rx (hs ρ G H st sx x Q _ rel hx p)
theorem unm_or {f : Value → Sem Value} {g1 g2 : Sl → Store → Res Sl} (q : Sl → Store → Bool) (h1 : UnM X cl Wx f g1) (h2 : UnM X cl Wx f g2) : UnM X cl Wx f (fun x st => if q x st = true then g1 x st else g2 x st) :=
  fun pins s σ H x v Q ρ G st sx I rx rel hx p => by
    dsimp only at p
    split at p
    · exact h1 pins s σ H x v Q ρ G st sx I rx rel hx p
    · exact h2 pins s σ H x v Q ρ G st sx I rx rel hx p
def negOwn (c : Nat) (F : MF) : Sl → Store → Res Sl := fun x st => if isCl c st x = true then F [x] st else .bad
theorem own_call1 {F : MF} {k : Nat} {g : Addr} {fd : FuncData} {ps : List Str} {pins : List (Addr × Obj)} {s : Shared} {σ : L2.St} {H : Hp} {Q : VK} {ρ : Mp} {G : Hp} {st : Store} {sx : Sl} {a : Addr}
    (hF : FnOk X.prog X.w X.K X.mg X.base (L2.CX X.prog X.w) k g fd ps (spM ⟨X.K, cl⟩ 1 F)) (tk : Takes X Wx) (hr : Room k X.A) (hb : Binds X.K fd ps []) (I : Inv X pins σ H s)
    (rel : Rel ⟨X.K, cl⟩ ρ G H st) (hx : Mz.SlR ⟨X.K, cl⟩ ρ G sx (.ref a)) (p : PostR ⟨X.K, cl⟩ ρ G (Mz.SlR ⟨X.K, cl⟩) (F [sx] st) Q (fun c d H' => Wx c d σ H')) :
    wpAny (model X.prog X.w) X.A (call (.ref g) [.ref a]) (EP X pins σ Q) X.xe s :=
  run_fnS (E := WE Wx) (us := [.ref a]) (vs := [.ref a]) hF hr hb (passAt tk σ) I (.cons rfl .nil) ⟨ρ, G, st, [sx], rel, ⟨_, _, rfl, hx, rfl⟩, rfl, p⟩
theorem unm_neg {F : MF} {k c : Nat} {g : Addr} {fd : FuncData} {ps : List Str} (hs : PySem.W.findIn X.K (.ref (cl c)) "__neg__" = some (some (.ref g))) (hf : PySem.W.isFn X.K (.ref g) = true)
    (hF : FnOk X.prog X.w X.K X.mg X.base (L2.CX X.prog X.w) k g fd ps (spM ⟨X.K, cl⟩ 1 F)) (tk : Takes X Wx) (hr : Room k X.A) (hb : Binds X.K fd ps []) : UnM X cl Wx (unaryOp .USub) (negOwn c F) :=
  fun pins s σ H x v Q ρ G st sx I rx rel hx p => by
    unfold negOwn at p
    split at p
    · rename_i hi
      obtain ⟨a, dx, fs, rfl, hH⟩ := isCl_at rel hx hi
      cases rx
      obtain ⟨mA, J, _⟩ := ins_get I.hok hH
      obtain ⟨od, J, _⟩ := J.look
      obtain ⟨m, hFr⟩ := I.fr
      exact PySem.W.ksp_neg hFr I.ok.mod.kin J hs hf (own_call1 hF tk hr hb I rel hx p)
    · exact p.elim
theorem ie_unM {op : UnaryOp} {g : Sl → Store → Res Sl} (hf : UnM X cl Wx (unaryOp op) g) (ha : IE X cl Wx a ma) : IE X cl Wx (.UnaryOp op a pos) (mUn g ma) := by
  refine ⟨fun pins s σ H Q I h => ?_⟩
  obtain ⟨env, ρ, G, st, rel, er, q⟩ := h
  have h1 : tM ⟨X.K, cl⟩ Wx ma σ H (fun u H1 => ∃ ρ1 G1 st1 x, Rel ⟨X.K, cl⟩ ρ1 G1 H1 st1 ∧ Mz.SlR ⟨X.K, cl⟩ ρ1 G1 x u ∧ PostR ⟨X.K, cl⟩ ρ1 G1 (Mz.SlR ⟨X.K, cl⟩) (g x st1) Q (fun c d H' => Wx c d σ H')) :=
    ⟨env, ρ, G, st, rel, er, PostR.bind (R1 := Mz.SlR ⟨X.K, cl⟩) q fun x st1 ρ1 G1 H1 u f1 r1 s1 p1 => ⟨ρ1, G1, st1, x, r1, s1, p1⟩⟩
  refine UnaryOp_ (thn (ha.run pins s σ H _ I h1) ?_)
  rintro v s1 ⟨x, H1, I1, rx, ρ1, G1, st1, sx, r1, hx, p1⟩
  exact hf pins s1 σ H1 x v Q ρ1 G1 st1 sx I1 rx r1 hx p1
end
end Mz

set_option Elab.async false
set_option linter.all false
set_option maxRecDepth 100000
set_option maxHeartbeats 4000000
namespace Mz
open PySem PySem.Spec PyProof.Rows L2
open ItX (dropH dropH_same dropH_ne)
/-! ## 31. list(o) of an own class whose __iter__ hands back iter(self.f) -/
def Fits (b : Bool) (h : Heap) (it t : Addr) (i : Nat) : Prop := match b with
  | true => h.IsTupleIter it t i
  | false => h.IsListIter it t i
def ItA (b : Bool) (t it : Addr) (i : Nat) : HO := .ext fun h => Fits b h it t i
def SqA (K : PySem.W.Frag) (H : Hp) (b : Bool) (t : Addr) (xs : List V) : Prop := match b with
  | true => SqT K H t xs
  | false => SqL K H t xs
theorem Fits.at {b : Bool} {h h' : Heap} {it t : Addr} {i : Nat} (f : Fits b h it t i) (k : ∀ o, h.get? it = some o → h'.get? it = some o) : Fits b h' it t i := by
  cases b with
  | true => exact Heap.IsTupleIter.at f k
  | false => obtain ⟨o, ho, r⟩ := f; exact ⟨o, k o ho, r⟩
theorem itA_ok {P : Program} {w : World} {H : Hp} {h : Heap} {b : Bool} {t it : Addr} {i : Nat} (f : Fits b h it t i) : ObjOk P w H h it (ItA b t it i) := by
  refine ⟨f, ?_, fun h1 h2 q k => Fits.at q k⟩
  cases b with
  | true => obtain ⟨o, ho, _⟩ := f; exact ⟨o, ho⟩
  | false => obtain ⟨o, ho, _⟩ := f; exact ⟨o, ho⟩
def rIterA (K : PySem.W.Frag) : List V → Hp → VK → Prop := fun xs H Q => ∃ (b : Bool) (t : Addr) (zs : List V), xs = [.ref t] ∧ SqA K H b t zs ∧ ∀ it, H it = none → Q (.ref it) (upd H it (ItA b t it 0))
section
variable {X : Cx}
theorem call_iterA : CallR X (.builtin "iter") (rIterA X.K) := by
  intro pins s σ H xs us Q I r h
  obtain ⟨b, t, zs, rfl, hq, q⟩ := h
  obtain ⟨u, rfl, ru⟩ := vals1 r
  cases ru
  have fin : ∀ o : Obj, Fits b (s.heap.push o) s.heap.objs.size t 0 → EP X pins σ Q (.ref s.heap.objs.size) { s with heap := s.heap.push o } := fun o hf =>
    ⟨.ref s.heap.objs.size, _, I.laid (t' := s.toks) (fun b u e => Heap.get?_push_of_some _ e) (Nat.le_refl _) (itA_ok hf), rfl, q _ (I.hok.fresh (Nat.le_refl _))⟩
  refine Calls.call_function_entry (by decide +kernel) (by decide +kernel) PySem.W.kdk_entry_iter (PySem.W.kdk_args_iter _) ?_
  unfold Builtin.«iter»
  refine wpAny_bind (m := someArgs "iter" 1 2 _) (wpAny_of_eq (a := [Value.ref t]) (by first | rfl | kernel_rfl!) ?_)
  show wpAny _ _ (pyIter (.ref t) >>= _) _ _ _
  cases b with
  | false =>
    obtain ⟨its, rv, pl, hz⟩ := I.list hq
    refine wpAny_bind (wpAny_pyIter_list pl.isList ?_)
    exact wpAny_pure ⟨_, rfl, fin _ ⟨_, Heap.get?_push_size _ rfl, rfl, rfl⟩⟩
  | true =>
    obtain ⟨its, rv, pl, hz⟩ := I.tuple hq
    refine wpAny_bind (wpAny_pyIter_tuple pl ?_)
    exact wpAny_pure ⟨_, rfl, fin _ ⟨_, Heap.get?_push_size _ rfl, rfl, rfl⟩⟩
end
/-- what such an __iter__ promises -/
def spIter (K : PySem.W.Frag) (C : Addr) (f : Str) : Sp := fun vs H Q _ => ∃ a dx fs b t zs, vs = [.ref a] ∧ H a = some (.ins C dx fs) ∧ fs.lookup f = some (.ref t) ∧ SqA K H b t zs ∧ ∀ it, H it = none → Q (.ref it) (upd H it (ItA b t it 0))

abbrev tIter (K : PySem.W.Frag) (f : Str) : TS := tRet (tCB (rIterA K) (tCons (tFld K (tVar 0) f) tNil))
theorem iter_ok {P : Program} {w : World} {K : PySem.W.Frag} {mg : Str → Option Value} {base : Heap} {x qual : Str} {s : Stmt} {f C : Addr} {fd : FuncData} {N : List Str} {fl : Str} (F : Fun K x qual s f fd) (S : FnScope N ["self"] (defScope s)) (c1 : Cls K C) (c2 : NoAttr K C fl)
    (hb : ∀ (cdv : Value) (A : Around) (outer : List PySem.Env) (st : Shared) (H : Hp) (E : XK), PSs (cxOf (L2.CX P w) P w K mg base N qual (defScope s) f cdv A outer st H E) (defBody s) (tIter K fl)) :
    FnOk P w K mg base (L2.CX P w) 1 f fd ["self"] (spIter K C fl) :=
  F.okX S (fun vs H Q E ⟨_, _, _, _, _, _, e, _⟩ => by rw [e]; rfl) fun cdv A outer st H vs Q E hr ⟨a, dx, fs, b, t, zs, e, ha, hl, hq, q⟩ => by
    subst e
    exact ⟨_, hb cdv A outer st H E, _, rfl, a, C, dx, fs, .ref t, rfl, ha, c1, c2, hl, b, t, zs, rfl, hq, q⟩

/-! ### one object is dropped -/
section
variable {T : Tx} {ρ ρ' : Mp} {G G' H : Hp} {st : Store} {it : Addr} {φ : Heap → Prop}
theorem dropE_at {a : Addr} {o : HO} (hi : G it = some (.ext φ)) (h : G a = some o) (ho : ∀ φ, o ≠ .ext φ) : dropH G it a = some o := by
  have : a ≠ it := fun z => by rw [z, hi] at h; cases h; exact ho _ rfl
  rw [dropH_ne this]; exact h
theorem rd_drop {a : Addr} {u : HO} (hi : G it = some (.ext φ)) (hu : ∀ φ, u ≠ .ext φ) (h : Rd G a u) : Rd (dropH G it) a u := by
  rcases h with h | ⟨o, h⟩
  · exact .inl (dropE_at hi h hu)
  · exact .inr ⟨o, dropE_at hi h (fun _ z => nomatch z)⟩
theorem sqt_drop {K : PySem.W.Frag} {a : Addr} {xs : List V} (hi : G it = some (.ext φ)) (h : SqT K G a xs) : SqT K (dropH G it) a xs := by
  rcases h with h | h
  · exact .inl (rd_drop hi (fun _ z => nomatch z) h)
  · exact .inr h
theorem sql_dropE {K : PySem.W.Frag} {a : Addr} {xs : List V} (hi : G it = some (.ext φ)) (h : SqL K G a xs) : SqL K (dropH G it) a xs := by
  rcases h with h | h
  · exact .inl (rd_drop hi (fun _ z => nomatch z) h)
  · exact .inr h
mutual
theorem Rep.dropE (hi : G it = some (.ext φ)) : ∀ (w : W) (v : V), Rep T G w v → Rep T (dropH G it) w v
  | .non, _, h => by unfold Rep at h ⊢; exact h
  | .bl _, _, h => by unfold Rep at h ⊢; exact h
  | .int _, _, h => by unfold Rep at h ⊢; exact h
  | .str _, _, h => by unfold Rep at h ⊢; exact h
  | .cls _, _, h => by unfold Rep at h ⊢; exact h
  | .tup xs, v, h => by unfold Rep at h ⊢; obtain ⟨a, vs, h1, h2, h3⟩ := h; exact ⟨a, vs, h1, sqt_drop hi h2, Reps.dropE hi xs vs h3⟩
  | .lst xs, v, h => by unfold Rep at h ⊢; obtain ⟨a, vs, h1, h2, h3⟩ := h; exact ⟨a, vs, h1, dropE_at hi h2 (fun _ z => nomatch z), Reps.dropE hi xs vs h3⟩
  | .ro xs, v, h => by unfold Rep at h ⊢; obtain ⟨a, vs, h1, h2, h3⟩ := h; exact ⟨a, vs, h1, sql_dropE hi h2, Reps.dropE hi xs vs h3⟩
  | .dct ks ws, v, h => by unfold Rep at h ⊢; obtain ⟨a, vs, h1, h2, h3, h4⟩ := h; exact ⟨a, vs, h1, dropE_at hi h2 (fun _ z => nomatch z), h3, Reps.dropE hi ws vs h4⟩
  | .ins c ns ws, v, h => by unfold Rep at h ⊢; obtain ⟨a, dx, vs, h1, h2, h3, h4⟩ := h; exact ⟨a, dx, vs, h1, dropE_at hi h2 (fun _ z => nomatch z), h3, Reps.dropE hi ws vs h4⟩
theorem Reps.dropE (hi : G it = some (.ext φ)) : ∀ (ws : List W) (vs : List V), Reps T G ws vs → Reps T (dropH G it) ws vs
  | [], _, h => by unfold Reps at h ⊢; exact h
  | w :: ws, vs, h => by unfold Reps at h ⊢; obtain ⟨v, r, h1, h2, h3⟩ := h; exact ⟨v, r, h1, Rep.dropE hi w v h2, Reps.dropE hi ws r h3⟩
end
theorem SlR.dropE (hi : G it = some (.ext φ)) {s : Sl} {u : V} (h : Mz.SlR T ρ G s u) : Mz.SlR T ρ (dropH G it) s u := by
  cases s with
  | v w => exact Rep.dropE hi w u h
  | l n => exact h
  | o n => exact h
theorem SlRs.dropE (hi : G it = some (.ext φ)) : ∀ {ss : List Sl} {us : List V}, SlRs T ρ G ss us → SlRs T ρ (dropH G it) ss us
  | [], _, h => h
  | s :: ss, us, h => by obtain ⟨v, r, h1, h2, h3⟩ := h; exact ⟨v, r, h1, h2.dropE hi, SlRs.dropE hi h3⟩
theorem LoR.dropE (hi : G it = some (.ext φ)) {x : Lo} {o : HO} (h : LoR T G x o) : LoR T (dropH G it) x o := by
  cases x with
  | lst xs => obtain ⟨vs, h1, h2⟩ := h; exact ⟨vs, h1, Reps.dropE hi xs vs h2⟩
  | dct ks ws => obtain ⟨vs, h1, h2, h3⟩ := h; exact ⟨vs, h1, h2, Reps.dropE hi ws vs h3⟩
  | dead => exact h
theorem InR.dropE (hi : G it = some (.ext φ)) {x : In} {o : HO} (h : InR T ρ G x o) : InR T ρ (dropH G it) x o := by
  obtain ⟨dx, us, h1, h2, h3⟩ := h; exact ⟨dx, us, h1, h2, SlRs.dropE hi h3⟩
theorem lo_ne_ext {x : Lo} {o : HO} (h : LoR T G x o) : o ≠ .ext φ := by
  cases x with
  | lst xs => obtain ⟨vs, h1, _⟩ := h; rw [h1]; intro z; cases z
  | dct ks ws => obtain ⟨vs, h1, _⟩ := h; rw [h1]; intro z; cases z
  | dead => rcases h with ⟨vs, h1⟩ | ⟨vs, h1⟩ <;> (rw [h1]; intro z; cases z)
/-- a list of the store is filled while an object it goes its way and is dropped -/
theorem Rel.fillDrop {H' : Hp} {n : Nat} {q : Addr} {xs : List W} {vs : List V} (r : Rel T ρ G H st) (hi : G it = some (.ext φ)) (hq : ρ.l[n]? = some q) (hk : ∀ a, a ≠ it → a ≠ q → H' a = H a) (hv : H' q = some (.lst vs)) (hr : Reps T G xs vs) {x0 : Lo} (hx0 : st.l[n]? = some x0) (hd : x0 ≠ .dead) (hco : ∀ q, (HO.ext φ) ≠ LamX.CodeO it q) :
    Rel T ρ (dropH G it) H' (st.setl n (.lst xs)) := by
  obtain ⟨hG, o0, ho0, hl0⟩ := r.la n q x0 hq hx0
  replace hG := hG hd
  have hit := r.ext _ _ hi
  refine ⟨fun a o e => ?_, ?_, r.lo, fun m a y hm hy => ?_, fun m a y hm hy => ?_, r.nl, r.no, r.tb.to fun a o e f => ?_, fun a ps e => ?_⟩
  · have h1 : a ≠ it := fun z => by subst z; rw [dropH_same] at e; cases e
    rw [dropH_ne h1] at e
    have h2 : a ≠ q := fun z => by subst z; rw [hG] at e; cases e
    rw [hk a h1 h2]; exact r.ext _ _ e
  · show ρ.l.length = (st.l.set n _).length
    rw [List.length_set]; exact r.ll
  · by_cases hmn : n = m
    · subst hmn
      rw [hq] at hm; cases hm
      have hy' : (st.l.set n (Lo.lst xs))[n]? = some y := hy
      rw [List.getElem?_set_self (get_lt hx0)] at hy'; cases hy'
      have h1 : q ≠ it := fun z => by subst z; rw [hG] at hi; cases hi
      exact ⟨fun _ => by rw [dropH_ne h1]; exact hG, _, hv, vs, rfl, Reps.dropE hi _ _ hr⟩
    · have hy' : (st.l.set n (Lo.lst xs))[m]? = some y := hy
      rw [List.getElem?_set_ne hmn] at hy'
      obtain ⟨h1, o', h2, h3⟩ := r.la m a y hm hy'
      have n1 : a ≠ it := fun z => by subst z; rw [hit] at h2; cases h2; exact lo_ne_ext h3 rfl
      have n2 : a ≠ q := fun z => hmn (nodup_get r.nl hq (z ▸ hm))
      exact ⟨fun hd => by rw [dropH_ne n1]; exact h1 hd, o', by rw [hk a n1 n2]; exact h2, LoR.dropE hi h3⟩
  · obtain ⟨h1, o', h2, h3⟩ := r.oa m a y hm hy
    have n1 : a ≠ it := fun z => by subst z; rw [hi] at h1; cases h1
    have n2 : a ≠ q := fun z => r.apart hq hm z.symm
    exact ⟨by rw [dropH_ne n1]; exact h1, o', by rw [hk a n1 n2]; exact h2, InR.dropE hi h3⟩
  · have n1 : a ≠ it := fun z => by
      subst z
      rw [hit] at e; cases e
      rcases f with ⟨_, z⟩ | ⟨q, z⟩
      · cases z
      · exact hco q z
    have n2 : a ≠ q := fun z => by subst z; exact fx_lo ho0 hl0 _ e f
    rw [hk a n1 n2]; exact e
  · have n1 : a ≠ it := fun z => by subst z; rw [dropH_same] at e; cases e
    rw [dropH_ne n1] at e; exact r.nt a ps e
end
theorem wpAny_pyNext_tuple_endL {prog : Program} {w : World} {A : Around} {E : Value → Shared → Prop} {s : Shared} {it t : Addr} {i : Nat} {items : Array Value} {Q : Option Value → Shared → Prop} (hh : A.handled = none)
    (hit : s.heap.IsTupleIter it t i) (ht : s.heap.IsTuple t items) (hx : items[i]? = none)
    (hQ : ∀ h', Heap.ExtBut it s.heap h' → (∃ o, h'.get? it = some o) → Q none { s with heap := h' }) : wpAny (model prog w) A (pyNext (.ref it)) Q E s := by
  obtain ⟨o, ho, hc, hd⟩ := id hit
  obtain ⟨ol, hol, _, nl, hdl⟩ := ht
  unfold pyNext
  refine wpAny_bind (wpAny_attempt (wpAny_callSpecial?_slot (name := Str.ofString "__next__") hit.typeIs F.slot_tuple_iterator_next
    (wpAny_call_entry F.slot_tuple_iterator_next hit.typeIs F.entry_tuple_iterator_next ?_ (F.args_tuple_iterator_next_1 _))))
  show wpAny _ _ (field (.ref it) 0 >>= _) _ _ s
  refine wpAny_bind (wpAny_field ho hd (x := .ref t) rfl ?_)
  show wpAny _ _ (if (Value.ref t == Value.none) = true then _ else _) _ _ s
  rw [if_neg (show ¬ ((Value.ref t == Value.none) = true) from Bool.false_ne_true)]
  show wpAny _ _ (field (.ref it) 1 >>= _) _ _ s
  refine wpAny_bind (wpAny_field ho hd (x := .int i 0) rfl ?_)
  show wpAny _ _ (seqItems? (.ref t) >>= _) _ _ s
  refine wpAny_bind (wpAny_seqItems hol hdl ?_)
  simp only [Int.toNat_natCast, hx]
  refine wpAny_bind (wpAny_rule (wpAny_bind (wpAny_setField ho hd (by simp) ?_)))
  show wpAny _ _ (newExc (.type "StopIteration") [] >>= _) _ _ _
  refine wpAny_bind ?_
  simp only [newExc, newTuple]
  refine wpAny_bind (wpAny_newObj_type ?_ (by size_fits))
  refine wpAny_bind (m := firstArgMember _ _) (wpAny_of_eq (a := Value.none) (by first | rfl | (simp only [firstArgMember]; rfl)) ?_)
  refine wpAny_newObj_type ?_ (by size_fits)
  simp only [raiseNew]
  refine wpAny_bind (wpAny_handled ?_)
  first | rw [show A.in1.handled = none from hh] | rw [hh]
  refine wpAny_bind (wpAny_pure (wpAny_throw ?_))
  refine wpAny_bind (wpAny_isInstance (T := "StopIteration") (b := true) ⟨_, Heap.get?_push_size _ rfl, rfl⟩ isSubtype_stop ?_)
  exact wpAny_pure (hQ _ (((Heap.SameBut.update ..).extBut.push _).push _) ⟨_, Heap.get?_push_of_some _ (Heap.get?_push_of_some _ (Heap.get?_update_self _ ho (Obj.isFreed_of_fields (Obj.data_mapFields hd _))))⟩)
theorem wpAny_pyNext_list_endL {prog : Program} {w : World} {A : Around} {E : Value → Shared → Prop} {s : Shared} {it t : Addr} {i : Nat} {items : Array Value} {Q : Option Value → Shared → Prop} (hh : A.handled = none)
    (hit : s.heap.IsListIter it t i) (ht : s.heap.IsList t items) (hx : items[i]? = none)
    (hQ : ∀ h', Heap.ExtBut it s.heap h' → (∃ o, h'.get? it = some o) → Q none { s with heap := h' }) : wpAny (model prog w) A (pyNext (.ref it)) Q E s := by
  obtain ⟨o, ho, hc, hd⟩ := id hit
  obtain ⟨ol, hol, _, nl, hdl⟩ := ht
  unfold pyNext
  refine wpAny_bind (wpAny_attempt (wpAny_callSpecial?_slot (name := Str.ofString "__next__") hit.typeIs slot_listiter_next
    (wpAny_call_entry slot_listiter_next hit.typeIs entry_listiter_next ?_ (args_listiter_next _))))
  show wpAny _ _ (field (.ref it) 0 >>= _) _ _ s
  refine wpAny_bind (wpAny_field ho hd (x := .ref t) rfl ?_)
  show wpAny _ _ (if (Value.ref t == Value.none) = true then _ else _) _ _ s
  rw [if_neg (show ¬ ((Value.ref t == Value.none) = true) from Bool.false_ne_true)]
  show wpAny _ _ (field (.ref it) 1 >>= _) _ _ s
  refine wpAny_bind (wpAny_field ho hd (x := .int i 0) rfl ?_)
  show wpAny _ _ (seqItems? (.ref t) >>= _) _ _ s
  refine wpAny_bind (wpAny_seqItems hol hdl ?_)
  simp only [Int.toNat_natCast, hx]
  refine wpAny_bind (wpAny_rule (wpAny_bind (wpAny_setField ho hd (by simp) ?_)))
  show wpAny _ _ (newExc (.type "StopIteration") [] >>= _) _ _ _
  refine wpAny_bind ?_
  simp only [newExc, newTuple]
  refine wpAny_bind (wpAny_newObj_type ?_ (by size_fits))
  refine wpAny_bind (m := firstArgMember _ _) (wpAny_of_eq (a := Value.none) (by first | rfl | (simp only [firstArgMember]; rfl)) ?_)
  refine wpAny_newObj_type ?_ (by size_fits)
  simp only [raiseNew]
  refine wpAny_bind (wpAny_handled ?_)
  first | rw [show A.in1.handled = none from hh] | rw [hh]
  refine wpAny_bind (wpAny_pure (wpAny_throw ?_))
  refine wpAny_bind (wpAny_isInstance (T := "StopIteration") (b := true) ⟨_, Heap.get?_push_size _ rfl, rfl⟩ isSubtype_stop ?_)
  exact wpAny_pure (hQ _ (((Heap.SameBut.update ..).extBut.push _).push _) ⟨_, Heap.get?_push_of_some _ (Heap.get?_push_of_some _ (Heap.get?_update_self _ ho (Obj.isFreed_of_fields (Obj.data_mapFields hd _))))⟩)
def kindOf : Sl → Bool
  | .v (.tup _) => true
  | _ => false
theorem items_kind {T : Tx} {ρ : Mp} {G H : Hp} {st : Store} {s : Sl} {u : V} {xs : List W} (r : Rel T ρ G H st) (hs : Mz.SlR T ρ G s u) (h : items st s = some xs) : ∃ a vs, u = .ref a ∧ SqA T.K H (kindOf s) a vs ∧ Reps T G xs vs := by
  cases s with
  | v w =>
    cases w with
    | lst ys => cases h; unfold Mz.SlR Rep at hs; obtain ⟨a, vs, h1, h2, h3⟩ := hs; exact ⟨a, vs, h1, SqL.of (r.ext _ _ h2), h3⟩
    | ro ys => cases h; unfold Mz.SlR Rep at hs; obtain ⟨a, vs, h1, h2, h3⟩ := hs; exact ⟨a, vs, h1, sql_mono r.ext h2, h3⟩
    | tup ys => cases h; unfold Mz.SlR Rep at hs; obtain ⟨a, vs, h1, h2, h3⟩ := hs; exact ⟨a, vs, h1, sqt_mono r.ext h2, h3⟩
    | _ => cases h
  | l n =>
    obtain ⟨a, h1, h2⟩ := hs
    obtain ⟨_, o, h3, vs, h4, h5⟩ := r.la n a _ h1 (Store.lget_of h)
    exact ⟨a, vs, h2, SqL.of (by rw [h3, h4]), h5⟩
  | o n => cases h
theorem attr_at {T : Tx} {ρ : Mp} {G H : Hp} {st st' : Store} {c : Nat} {f : Str} {x s : Sl} {u : V} (r : Rel T ρ G H st) (hx : Mz.SlR T ρ G x u) (h : attrOf [c] f x st = .ok s st') :
    st' = st ∧ ∃ a dx fs v, u = .ref a ∧ H a = some (.ins (T.cl c) dx fs) ∧ fs.lookup f = some v ∧ Mz.SlR T ρ G s v := by
  unfold attrOf at h
  split at h
  · split at h
    · rename_i hm
      split at h
      · rename_i w hw
        cases h
        rw [List.mem_singleton] at hm
        subst hm
        unfold Mz.SlR Rep at hx
        obtain ⟨a, dx, vs, rfl, hg, hl, hr⟩ := hx
        obtain ⟨v, hv, rv⟩ := look_reps hr hw
        exact ⟨rfl, a, dx, _, v, rfl, r.ext _ _ hg, hv, rv⟩
      · cases h
    · cases h
  · split at h
    · rename_i y hy
      split at h
      · rename_i hm
        split at h
        · rename_i s' hs
          cases h
          rw [List.mem_singleton] at hm
          obtain ⟨a, dx, us, rfl, ha, hg, hH, hl, hr⟩ := ins_at r hx hy
          obtain ⟨v, hv, rv⟩ := look_slrs hr hs
          rw [hm] at hH
          exact ⟨rfl, a, dx, _, v, rfl, hH, hv, rv⟩
        · cases h
      · cases h
    · cases h
  · cases h
section
variable {X : Cx} {pins : List (Addr × Obj)} {σ : L2.St}
theorem sqA_upd {K : PySem.W.Frag} {H : Hp} {b : Bool} {t p : Addr} {o : HO} {xs : List V} (h : SqA K H b t xs) (n : t ≠ p) : SqA K (upd H p o) b t xs := by
  have e : upd H p o t = H t := upd_ne n
  cases b <;> (unfold SqA SqL SqT Rd at h; unfold SqA SqL SqT Rd; simp only [e]; exact h)
theorem sqA_ne {H : Hp} {s : Shared} (I : Inv X pins σ H s) {b : Bool} {t it : Addr} {φ : Heap → Prop} {xs : List V} (h : SqA X.K H b t xs) (hi : H it = some (.ext φ)) : t ≠ it := fun z => by
  subst z
  have base : ∀ o, X.K.lookup t = some o → False := fun o e => by
    have := (I.bs t o (I.ok.mod.kin t o e)).2
    rw [hi] at this; cases this
  cases b with
  | true =>
    rcases h with (h | ⟨o, h⟩) | ⟨o, _, _, e, _⟩
    · rw [hi] at h; cases h
    · rw [hi] at h; cases h
    · exact base o e
  | false =>
    rcases h with (h | ⟨o, h⟩) | ⟨o, _, _, e, _⟩
    · rw [hi] at h; cases h
    · rw [hi] at h; cases h
    · exact base o e
theorem sqA_len {H : Hp} {s : Shared} (I : Inv X pins σ H s) {b : Bool} {t : Addr} {xs : List V} (h : SqA X.K H b t xs) : xs.length ≤ sizeLine := by
  cases b with
  | true => exact (I.tuple h).choose_spec.2.2
  | false => exact (I.list h).choose_spec.2.2
theorem itA_code {H : Hp} {P : Program} {w : World} {h : Heap} {b : Bool} {t it : Addr} {i : Nat} (ok : HOk P w H h) (hi : H it = some (ItA b t it i)) : ∀ q, (HO.ext fun h => Fits b h it t i) ≠ LamX.CodeO it q := fun q z => by
  have h1 := (ok it _ hi).1
  have h2 : H it = some (LamX.CodeO it q) := hi.trans (congrArg some z)
  obtain ⟨⟨oc, vs, tt, e1, e2, e3⟩, _, _⟩ := ok it _ h2
  cases b with
  | true =>
    obtain ⟨o, ho, r⟩ := h1
    rw [ho] at e1; cases e1
    simp [e2] at r
    rw [r.2] at e3; simp at e3
  | false =>
    obtain ⟨o, ho, r⟩ := h1
    rw [ho] at e1; cases e1
    simp [e2] at r
    rw [r.2] at e3; simp at e3
/-- the iterator is asked for an item -/
theorem itA_item {H : Hp} {s : Shared} {A : Around} {E : Value → Shared → Prop} {Q : Option Value → Shared → Prop} (I : Inv X pins σ H s) {b : Bool} {t it : Addr} {i : Nat} {zs : List V} {v : V} (hi : H it = some (ItA b t it i)) (hq : SqA X.K H b t zs) (hv : zs[i]? = some v)
    (h : ∀ u h', RelV v u → Inv X pins σ (upd H it (ItA b t it (i + 1))) { s with heap := h' } → Q (some u) { s with heap := h' }) : wpAny (model X.prog X.w) A (pyNext (.ref it)) Q E s := by
  have hf := (I.hok it _ hi).1
  have mu : Mut (H it) := by rw [hi]; exact True.intro
  have live : ∀ {h' : Heap}, Fits b h' it t (i + 1) → ∃ o, h'.get? it = some o := fun {h'} f => by
    cases b with
    | true => obtain ⟨o, ho, _⟩ := f; exact ⟨o, ho⟩
    | false => obtain ⟨o, ho, _⟩ := f; exact ⟨o, ho⟩
  have go : ∀ u h', RelV v u → Fits b h' it t (i + 1) → Heap.SameBut it s.heap h' → Q (some u) { s with heap := h' } := fun u h' ru f sb =>
    h u h' ru (I.write (x := it) (e := it) (t' := s.toks) mu (.inl rfl) (fun b o nb z => (sb.2 b nb).trans z) (live f) (itA_ok f))
  cases b with
  | true =>
    obtain ⟨its, rv, p, hz⟩ := I.tuple hq
    obtain ⟨u, hu, ru⟩ := rv.get hv
    exact wpAny_pyNext_tuple_item hf p (by rw [List.getElem?_toArray]; exact hu) fun h' f sb => go u h' ru f sb
  | false =>
    obtain ⟨its, rv, p, hz⟩ := I.list hq
    obtain ⟨u, hu, ru⟩ := rv.get hv
    exact wpAny_pyNext_list_item hf p.isList (by rw [List.getElem?_toArray]; exact hu) fun h' f sb => go u h' ru f sb
theorem itA_end {H : Hp} {s : Shared} {A : Around} {E : Value → Shared → Prop} {Q : Option Value → Shared → Prop} (hh : A.handled = none) (I : Inv X pins σ H s) {b : Bool} {t it : Addr} {i : Nat} {zs : List V} (hi : H it = some (ItA b t it i)) (hq : SqA X.K H b t zs) (hv : zs[i]? = none)
    (h : ∀ h', Inv X pins σ (upd H it (.ext fun _ => True)) { s with heap := h' } → Q none { s with heap := h' }) : wpAny (model X.prog X.w) A (pyNext (.ref it)) Q E s := by
  have hf := (I.hok it _ hi).1
  have mu : Mut (H it) := by rw [hi]; exact True.intro
  cases b with
  | true =>
    obtain ⟨its, rv, p, hz⟩ := I.tuple hq
    exact wpAny_pyNext_tuple_endL hh hf p (by rw [List.getElem?_toArray]; exact rv.none_of hv) fun h' sb ⟨o, lv⟩ =>
      h h' (I.write (x := it) (e := it) (t' := s.toks) mu (.inl rfl) (fun b o nb z => sb b o nb z) ⟨o, lv⟩ ⟨trivial, ⟨o, lv⟩, fun _ _ _ _ => trivial⟩)
  | false =>
    obtain ⟨its, rv, p, hz⟩ := I.list hq
    exact wpAny_pyNext_list_endL hh hf p.isList (by rw [List.getElem?_toArray]; exact rv.none_of hv) fun h' sb ⟨o, lv⟩ =>
      h h' (I.write (x := it) (e := it) (t' := s.toks) mu (.inl rfl) (fun b o nb z => sb b o nb z) ⟨o, lv⟩ ⟨trivial, ⟨o, lv⟩, fun _ _ _ _ => trivial⟩)
/-- the loop -/
theorem itA_loop {A1 : Around} {Rs : Result → Shared → Prop} (hh : A1.in1.handled = none) {b : Bool} {t it q : Addr} {zs : List V} (hqt : q ≠ t) :
    ∀ (k i : Nat) (H : Hp) (s : Shared), zs.length - i = k → i ≤ zs.length → Inv X pins σ H s → H it = some (ItA b t it i) → SqA X.K H b t zs → H q = some (.lst (zs.take i)) →
      (∀ H' s', Inv X pins σ H' s' → (∀ a, a ≠ it → a ≠ q → H' a = H a) → H' q = some (.lst zs) → Rs (.ok (.ret .none)) s') →
      codeAny (model X.prog X.w) A1 (.builtin "list.extend.loop" ⟨[.ref q, .ref it, .none], []⟩) Rs s
  | k, i, H, s, hk, hi, I, hit, hq, hl, hd => by
    refine codeAny_builtin PySem.F.entry_extend_loop ?_
    rw [Around.under_plainId PySem.F.plain_extend_loop _]
    show wpAny _ A1.in1 (pyNext (.ref it) >>= _) _ _ s
    have hti : t ≠ it := sqA_ne I hq hit
    have hqi : q ≠ it := fun z => by subst z; rw [hl] at hit; cases hit
    by_cases hlt : i < zs.length
    · refine wpAny_bind (itA_item I hit hq (List.getElem?_eq_getElem hlt) fun u h' ru I1 => ?_)
      have hl1 : upd H it (ItA b t it (i + 1)) q = some (.lst (zs.take i)) := by rw [upd_ne hqi]; exact hl
      obtain ⟨z, its, k2, r2, hlen, e⟩ := I1.lstM hl1
      show wpAny _ A1.in1 (updateSeq q (·.push u) >>= _) _ _ _
      have tk : zs.take i ++ [zs[i]] = zs.take (i + 1) := by rw [List.take_succ, List.getElem?_eq_getElem hlt]; rfl
      have hsz := sqA_len I hq
      have hti2 : (zs.take (i + 1)).length ≤ sizeLine := by rw [List.length_take]; omega
      have hle : its.length = i := by rw [← hlen, List.length_take]; omega
      refine wpAny_bind (wpAny_updateSeq e rfl (wpAny_pure ⟨plainId_quiet PySem.F.plain_extend_loop _, ?_⟩) (by rw [List.size_toArray]; omega) (by show (its.toArray.push u).size ≤ sizeLine + 1; rw [Array.size_push, List.size_toArray]; omega))
      have I2 := I1.lset (f := (·.push u)) (its' := its ++ [u]) (ys := zs.take (i + 1)) (t' := s.toks) hl1 e (by simp) (by rw [← tk]; exact r2.append (.cons ru .nil)) hti2
      refine itA_loop hh hqt (k - 1) (i + 1) _ _ (by omega) hlt I2 ?_ (sqA_upd (sqA_upd hq hti) (Ne.symm hqt)) upd_same fun H' s' I' ha hl' => hd H' s' I' (fun a n1 n2 => ?_) hl'
      · rw [upd_ne (Ne.symm hqi), upd_same]
      · rw [ha a n1 n2, upd_ne n2, upd_ne n1]
    · have hz : zs[i]? = none := List.getElem?_eq_none (by omega)
      refine wpAny_bind (itA_end hh I hit hq hz fun h' I1 => wpAny_pure (hd _ _ I1 (fun a n1 n2 => by rw [upd_ne n1]) ?_))
      rw [upd_ne hqi, hl, List.take_of_length_le (by omega)]
termination_by k => k
end
/-! ### the rule -/
open Classical in
noncomputable def lstBk (ys : List W) (st : Store) : Res Sl → Res Sl
  | .ok (.v (.int i)) st1 => if 0 ≤ i ∧ i ≤ (big : Int) ∧ st1 = st.push (.lst []) then .ok (.l st.l.length) (st.push (.lst ys)) else .bad
  | _ => .bad
noncomputable def listOwn (c : Nat) (f : Str) (F : MF) : MF := fun xs st => match xs with
  | [x] => if isCl c st x = true then (attrOf [c] f x st).bind fun t st' => match items st' t with
      | some ys => lstBk ys st' (F [x] (st'.push (.lst [])))
      | none => .bad
    else .bad
  | _ => .bad
noncomputable def frzBk (n : Nat) (o : List In) : Sl → Store → Res Sl
  | .l m, st' => if m = n then freezeF n o st' else .bad
  | _, _ => .bad
noncomputable def listOwnF (c : Nat) (f : Str) (F : MF) : MF := fun xs st => (listOwn c f F xs st).bind (frzBk st.l.length st.o)

theorem type_ref_ne {C : Addr} : (Value.ref C == Value.type "list") = false ∧ (Value.ref C == Value.type "tuple") = false := ⟨rfl, rfl⟩
section
variable {X : Cx} {cl : Nat → Addr} {Wx : WX}
theorem cam_listM {F : MF} {c n : Nat} {fi g : Addr} {fl : Str} {fdI fdL : FuncData} {psI psL : List Str} (hc : X.calm = true) (i1 : PySem.W.findIn X.K (.ref (cl c)) "__iter__" = some (some (.ref fi))) (i2 : PySem.W.isFn X.K (.ref fi) = true)
    (l1 : PySem.W.findIn X.K (.ref (cl c)) "__len__" = some (some (.ref g))) (l2 : PySem.W.isFn X.K (.ref g) = true)
    (FI : FnOk X.prog X.w X.K X.mg X.base (L2.CX X.prog X.w) n fi fdI psI (spIter X.K (cl c) fl)) (bI : Binds X.K fdI psI [])
    (FL : FnOk X.prog X.w X.K X.mg X.base (L2.CX X.prog X.w) n g fdL psL (spM ⟨X.K, cl⟩ 1 F)) (bL : Binds X.K fdL psL []) (hr : Room (n + 4) X.A) : CaM X cl Wx (.type "list") (listOwn c fl F) :=
  fun pins s σ H xs us Q ρ G st ss I rv rel hss p => by
    unfold listOwn at p
    split at p
    case h_2 => exact p.elim
    rename_i y
    obtain ⟨uu, rfl, hy⟩ := slrs1 hss
    split at p
    case isFalse => exact p.elim
    rename_i hi
    cases hat : attrOf [c] fl y st with
    | ex c ns ws st1 => rw [hat] at p; exfalso; unfold attrOf at hat; repeat' (split at hat <;> try cases hat)
    | bad => rw [hat] at p; exact p.elim
    | ok ts st1 =>
    rw [hat] at p
    obtain ⟨rfl, a, dx, fs, tv, rfl, ha, hlk, hts⟩ := attr_at rel hy hat
    replace p : PostR ⟨X.K, cl⟩ ρ G (Mz.SlR ⟨X.K, cl⟩) (match items st1 ts with
      | some ys => lstBk ys st1 (F [y] (st1.push (.lst [])))
      | none => .bad) Q (fun c d H' => Wx c d σ H') := p
    split at p
    case h_2 => exact p.elim
    rename_i ys hys
    obtain ⟨t, zs, rfl, hq, hrep⟩ := items_kind rel hts hys
    obtain ⟨u, rfl, ru⟩ := vals1 rv
    cases ru
    have sb2 : Sub X (n + 2) X.A.in1.in1 := Sub.in1 (Sub.in1 (⟨hr, rfl⟩ : Sub X (n + 4) X.A))
    -- the new list
    refine callType_codes (Q₁ := fun obj s₁ => obj = .ref s.heap.objs.size ∧ s₁ = { s with heap := s.heap.push { cls := .type "list", data := .seq #[] } }) PySem.F.called_list (PySem.F.typeCall_list_1 _) PySem.F.entry_list_init
      (code_list_new _ ⟨rfl, rfl⟩) fun obj s₁ h₁ => ?_
    obtain ⟨rfl, rfl⟩ := h₁
    have hS : (s.heap.push { cls := .type "list", data := .seq #[] }).get? s.heap.objs.size = some { cls := .type "list", data := .seq #[] } := Heap.get?_push_size _ rfl
    refine ⟨⟨_, hS, rfl⟩, PySem.F.args_list_init_2 _ _, ?_⟩
    have fr : H s.heap.objs.size = none := I.hok.fresh (Nat.le_refl _)
    have hqt : s.heap.objs.size ≠ t := fun z => by
      subst z
      cases hk : kindOf ts with
      | true => rw [hk] at hq; obtain ⟨_, _, p', _⟩ := I.tuple hq; obtain ⟨o, e, _⟩ := p'; exact absurd (Heap.lt_size e) (Nat.lt_irrefl _)
      | false => rw [hk] at hq; obtain ⟨_, _, p', _⟩ := I.list hq; obtain ⟨o, e, _⟩ := p'.isList; exact absurd (Heap.lt_size e) (Nat.lt_irrefl _)
    have I1 : Inv X pins σ (upd H s.heap.objs.size (.lst [])) { s with heap := s.heap.push { cls := .type "list", data := .seq #[] } } := I.lnew (its := []) (t' := s.toks) .nil (Nat.zero_le _)
    obtain ⟨f1, rel1⟩ := rel.newL (o := .lst []) (x := .lst []) fr ⟨[], rfl, Reps.nil⟩
    show wpAny _ _ (do let old ← Builtin.List.listItems (.ref s.heap.objs.size); Builtin.List.listUpdate (.ref s.heap.objs.size) (fun _ => #[]); letGo old.toList.reverse; Builtin.List.listExtendWith (.ref s.heap.objs.size) (.ref a) .none) _ _ _
    refine wpAny_bind ?_
    unfold Builtin.List.listItems
    refine wpAny_bind (wpAny_seqItems hS rfl (wpAny_pure ?_))
    show wpAny _ _ (updateSeq s.heap.objs.size (fun _ => #[]) >>= fun _ => letGo (#[] : Array Value).toList.reverse >>= fun _ => Builtin.List.listExtendWith (.ref s.heap.objs.size) (.ref a) .none) _ _ _
    refine wpAny_bind (wpAny_updateSeq hS rfl ?_)
    have I2 := I1.lset (f := fun _ => #[]) (its := []) (its' := []) (ys := []) (t' := s.toks) upd_same hS rfl .nil (Nat.zero_le _)
    rw [upd_upd] at I2
    refine wpAny_bind (wpAny_letGo ?_)
    have ha2 : upd H s.heap.objs.size (.lst []) a = some (.ins (cl c) dx fs) := by rw [upd_ne (ne_of_none ha fr)]; exact ha
    have hqq : upd H s.heap.objs.size (.lst []) s.heap.objs.size = some (.lst []) := upd_same
    generalize hQq : s.heap.objs.size = q at *
    generalize hH2 : upd H q (.lst []) = H2 at *
    have hq2 : SqA X.K H2 (kindOf ts) t zs := by rw [← hH2]; exact sqA_upd hq (Ne.symm hqt)
    have hne : q ≠ a := ne_of hqq ha2 (fun z => nomatch z)
    -- iter
    obtain ⟨mA, J, _⟩ := ins_get I2.hok ha2
    obtain ⟨od, J, _⟩ := J.look
    obtain ⟨m0, hF⟩ := I2.fr
    unfold Builtin.List.listExtendWith
    refine wpAny_bind (J.type.here ?_)
    have h1 : Builtin.List.listSameRef (.ref q) (.ref a) = false := by simp [Builtin.List.listSameRef, hne]
    have h2 : (Value.ref (cl c) == Value.type "list") = false := rfl
    have h3 : (Value.ref (cl c) == Value.type "tuple") = false := rfl
    simp only [h1, h2, h3, Bool.or_false, Bool.false_eq_true, if_false]
    refine wpAny_bind (PySem.W.owit_iter hF I2.ok.mod.kin J i1 i2 ?_)
    have e0 : ∀ {s' : Shared} {H' : Hp}, Inv X pins σ H' s' → Env0 X.prog X.w X.K X.mg X.base X.A.in1.in1 X.stack s' H' := fun I' => by
      have e := I'.env0
      exact ⟨e.frames, e.mod, e.bs, e.bsz, e.funs, e.frf, e.hok, e.bare⟩
    have e1 : ∀ {s' : Shared} {H' : Hp}, Inv X pins σ H' s' → Env0 X.prog X.w X.K X.mg X.base X.A.in1.in1.in1 X.stack s' H' := fun I' => by
      have e := I'.env0
      exact ⟨e.frames, e.mod, e.bs, e.bsz, e.funs, e.frf, e.hok, e.bare⟩
    have hspI : spIter X.K (cl c) fl [.ref a] H2 (fun v H' => ∃ it, v = .ref it ∧ H2 it = none ∧ H' = upd H2 it (ItA (kindOf ts) t it 0)) (fun _ _ _ => False) := ⟨a, dx, fs, kindOf ts, t, zs, rfl, ha2, hlk, hq2, fun it hn => ⟨it, rfl, hn, rfl⟩⟩
    have hl := FI.len _ _ _ _ hspI
    have r2 : Vals [V.ref a] [Value.ref a] := .cons rfl .nil
    refine wpAny_call (codeAny_mono (FI.run X.A.in1.in1 X.stack _ H2 ⟨[.ref a], []⟩ [.ref a] [.ref a] _ _ (sb2.room.mono (by omega)) (e0 I2) (by
      have := bI _ [.ref a] I2.kIn (by simpa using hl)
      simpa using this) r2 hspI) fun r s' hq' => ?_)
    cases r with
    | error e =>
      obtain ⟨_, _, _, _, _, hh⟩ := hq'
      exact hh.2.2.2.2.2.2.2.elim
    | ok fl' =>
    cases fl' with
    | next => exact False.elim hq'
    | brk => exact False.elim hq'
    | cont => exact False.elim hq'
    | ret u =>
    obtain ⟨v, H3, I3, rv3, it, ev, hn, eH⟩ := I2.after hq'
    subst ev
    cases rv3
    subst eH
    have hit3 : upd H2 it (ItA (kindOf ts) t it 0) it = some (ItA (kindOf ts) t it 0) := upd_same
    -- it is an iterator
    have next : ∀ {A' : Around} {R : Option Value → Shared → Prop} {E' : Value → Shared → Prop}, (∀ g, R (some g) s') → wpAny (model X.prog X.w) A' (specialOf (.ref it) "__next__") R E' s' := fun {A' R E'} hR => by
      have hf := (I3.hok it _ hit3).1
      generalize kindOf ts = b at hf
      cases b with
      | true => exact wpAny_specialOf (name := Str.ofString "__next__") (Heap.IsTupleIter.typeIs hf) PySem.F.slot_tuple_iterator_next.lookup (hR _)
      | false => exact wpAny_specialOf (name := Str.ofString "__next__") (Heap.IsListIter.typeIs hf) slot_listiter_next.lookup (hR _)
    refine next fun g0 => ?_
    -- how long it is
    have ha3 : upd H2 it (ItA (kindOf ts) t it 0) a = some (.ins (cl c) dx fs) := by rw [upd_ne (ne_of_none ha2 hn)]; exact ha2
    obtain ⟨mA3, J3, _⟩ := ins_get I3.hok ha3
    obtain ⟨od3, J3, _⟩ := J3.look
    obtain ⟨m3, hF3⟩ := I3.fr
    obtain ⟨f2, rel2⟩ := rel1.newG (o := ItA (kindOf ts) t it 0) (p := it) hn
    have fin : ∀ {H4 : Hp} {s4 : Shared} {i : Int} {ρ4 : Mp} {G4 : Hp}, Inv X pins σ H4 s4 → Fr ⟨ρ.l ++ [q], ρ.o⟩ ρ4 (upd G it (ItA (kindOf ts) t it 0)) G4 → Rel ⟨X.K, cl⟩ ρ4 G4 H4 (st1.push (.lst [])) → PostR ⟨X.K, cl⟩ ρ G (Mz.SlR ⟨X.K, cl⟩) (.ok (.l st1.l.length) (st1.push (.lst ys))) Q (fun c d H' => Wx c d σ H') →
        codeAny (model X.prog X.w) X.A.in1 (.builtin "list.extend.loop" ⟨[.ref q, .ref it, .none], []⟩) (wants (fun r s₂ => r = .none ∧ EP X pins σ Q (.ref q) s₂) X.xe) s4 := fun {H4 s4 i ρ4 G4} I4 f4 rel4 p4 => by
      have g4 : G4 it = some (ItA (kindOf ts) t it 0) := f4.ex _ _ upd_same
      have hit4 := rel4.ext _ _ g4
      have hq4 : ρ4.l[st1.l.length]? = some q := f4.le.1 _ _ (by show (ρ.l ++ [q])[st1.l.length]? = _; rw [← rel.ll]; simp)
      have frG : Fr ρ ρ4 G G4 := f1.trans (f2.trans f4)
      have hys4 : items (st1.push (.lst [])) ts = some ys := by
        cases ts with
        | v w => cases w <;> exact hys
        | l n =>
          have h0 := Store.lget_of hys
          show Store.lget _ _ = _
          unfold Store.lget Store.push
          rw [List.getElem?_append_left (get_lt h0), h0]
        | o n => cases hys
      obtain ⟨t', zs', et, hq5, hrep4⟩ := items_kind rel4 (hts.mono frG) hys4
      cases et
      have hx4 : (st1.push (.lst [])).l[st1.l.length]? = some (.lst []) := by show (st1.l ++ _)[st1.l.length]? = _; simp
      obtain ⟨_, o4, h5, vs, rfl, h6⟩ := rel4.la _ _ _ hq4 hx4
      unfold Reps at h6
      subst h6
      refine itA_loop (A1 := X.A.in1) (show X.A.in1.in1.handled = none from I4.ok.hd hc) hqt zs'.length 0 H4 s4 (by omega) (Nat.zero_le _) I4 hit4 hq5 (by rw [List.take_zero]; exact h5) fun H' s' I' ha' hl' => ?_
      refine ⟨rfl, .ref q, H', I', rfl, ?_⟩
      have rel5 := rel4.fillDrop g4 hq4 ha' hl' hrep4 hx4 (fun z => by cases z) (itA_code I4.hok hit4)
      have e5 : (st1.push (.lst [])).setl st1.l.length (.lst ys) = st1.push (.lst ys) := by unfold Store.setl Store.push; simp
      rw [e5] at rel5
      have hGi : G it = none := fresh_G rel1 hn
      exact p4 ρ4 _ H' (.ref q) ⟨frG.le, fun b o e => by
        have : b ≠ it := fun z => by subst z; rw [hGi] at e; cases e
        rw [dropH_ne this]; exact frG.ex _ _ e⟩ rel5 ⟨q, hq4, rfl⟩
    have hL : wpAny (model X.prog X.w) X.A.in1.in1 (call (.builtin "len") [.ref a]) (fun v s4 => ∃ i H4 ρ4 G4 tk, v = .int i tk ∧ i ≤ (big : Int) ∧ 0 ≤ i ∧ Inv X pins σ H4 s4 ∧ Fr ⟨ρ.l ++ [q], ρ.o⟩ ρ4 (upd G it (ItA (kindOf ts) t it 0)) G4 ∧ Rel ⟨X.K, cl⟩ ρ4 G4 H4 (st1.push (.lst [])) ∧
        PostR ⟨X.K, cl⟩ ρ G (Mz.SlR ⟨X.K, cl⟩) (.ok (.l st1.l.length) (st1.push (.lst ys))) Q (fun c d H' => Wx c d σ H')) (fun _ _ => False) s' := by
      have sp : spM ⟨X.K, cl⟩ 1 F [.ref a] (upd H2 it (ItA (kindOf ts) t it 0)) (fun v H4 => ∃ (i : Int) (ρ4 : Mp) (G4 : Hp), v = .int i ∧ i ≤ (big : Int) ∧ 0 ≤ i ∧ Fr ⟨ρ.l ++ [q], ρ.o⟩ ρ4 (upd G it (ItA (kindOf ts) t it 0)) G4 ∧ Rel ⟨X.K, cl⟩ ρ4 G4 H4 (st1.push (.lst [])) ∧
          PostR ⟨X.K, cl⟩ ρ G (Mz.SlR ⟨X.K, cl⟩) (.ok (.l st1.l.length) (st1.push (.lst ys))) Q (fun c d H' => Wx c d σ H')) (fun _ _ _ => False) := by
        refine ⟨⟨ρ.l ++ [q], ρ.o⟩, _, st1.push (.lst []), [y], rel2, ⟨_, [], rfl, (hy.mono f1).mono f2, rfl⟩, rfl, ?_⟩
        revert p
        cases F [y] (st1.push (.lst [])) with
        | ex c ns ws st2 => exact fun p => p.elim
        | bad => exact fun p => p.elim
        | ok s2 st2 =>
          intro p ρ4 G4 H4 v f4 r4 hv
          unfold lstBk at p
          split at p
          · rename_i i st3 e3
            cases e3
            split at p
            · rename_i hi3
              unfold Mz.SlR Rep at hv
              subst hv
              exact ⟨i, ρ4, G4, rfl, hi3.2.1, hi3.1, f4, by rw [← hi3.2.2]; exact r4, p⟩
            · exact p.elim
          · exact p.elim
      have hl5 := FL.len _ _ _ _ sp
      refine PySem.W.len_K hF3 I3.ok.mod.kin J3 l1 l2 ?_
      refine wpAny_call (codeAny_mono (FL.run X.A.in1.in1.in1 X.stack _ _ ⟨[.ref a], []⟩ [.ref a] [.ref a] _ _ ((Sub.in1 (n := n + 1) sb2).room.mono (by omega)) (e1 I3) (by
        have := bL _ [.ref a] I3.kIn (by simpa using hl5)
        simpa using this) r2 sp) fun r s4 hq4 => ?_)
      cases r with
      | error e =>
        obtain ⟨_, _, _, _, _, hh⟩ := hq4
        exact hh.2.2.2.2.2.2.2.elim
      | ok fl4 =>
      cases fl4 with
      | next => exact False.elim hq4
      | brk => exact False.elim hq4
      | cont => exact False.elim hq4
      | ret u =>
      obtain ⟨v, H4, I4, rv4, i, ρ4, G4, rfl, h6, h7, h8, h9, h10⟩ := I3.after hq4
      obtain ⟨tk, rfl⟩ := (show ∃ tk, u = Value.int i tk from rv4)
      have hb : big = 16777216 := rfl
      exact ⟨⟨h7, by omega⟩, i, H4, ρ4, G4, _, rfl, h6, h7, I4.tok _, h8, h9, h10⟩
    refine wpAny_bind (wpAny_holding ?_)
    have hint : ∀ {R : Bool → Shared → Prop} {E' : Value → Shared → Prop}, (∀ (k : Bool) (s4 : Shared) (i : Int) (H4 : Hp) (ρ4 : Mp) (G4 : Hp), 0 ≤ i → Inv X pins σ H4 s4 → Fr ⟨ρ.l ++ [q], ρ.o⟩ ρ4 (upd G it (ItA (kindOf ts) t it 0)) G4 → Rel ⟨X.K, cl⟩ ρ4 G4 H4 (st1.push (.lst [])) → PostR ⟨X.K, cl⟩ ρ G (Mz.SlR ⟨X.K, cl⟩) (.ok (.l st1.l.length) (st1.push (.lst ys))) Q (fun c d H' => Wx c d σ H') → R k s4) →
        wpAny (model X.prog X.w) X.A.in1.in1 (Builtin.List.listLengthHint (.ref a)) R E' s' := fun {R E'} hR => by
      unfold Builtin.List.listLengthHint
      refine wpAny_bind (wpAny_bind (J3.type.here ((PySem.W.looks_findIn I3.kIn l1).here ?_)))
      refine PySem.W.KFB.if_not rfl ?_
      refine wpAny_ite_split (fun _ => ?_) (fun z => absurd (by rfl) z)
      refine wpAny_bind (wpAny_rule ?_)
      refine wpAny_bind (wpAny_attempt (wpAny_mono hL (fun v s4 hv => ?_) fun _ _ z => z.elim))
      obtain ⟨i, H4, ρ4, G4, tk, rfl, hi4, hi0, I4, f4, r4, p4⟩ := hv
      dsimp only
      refine wpAny_bind (m := asInt? _) (wpAny_pure ?_)
      dsimp only
      have hnl : Builtin.List.listTooLong i.toNat = false := by
        unfold Builtin.List.listTooLong
        have hb : big = 16777216 := rfl
        have := sizeLine_eq
        simp only [decide_eq_false_iff_not]
        omega
      refine PySem.W.KFB.if_not hnl ?_
      exact wpAny_pure (hR _ _ i _ _ _ hi0 I4 f4 r4 p4)
    refine hint fun k s4 i H4 ρ4 G4 hi0 I4 f4 r4 p4 => ?_
    have key := fun {H4 : Hp} {s4 : Shared} (I4 : Inv X pins σ H4 s4) (r4 : Rel ⟨X.K, cl⟩ ρ4 G4 H4 (st1.push (.lst []))) => fin (i := i) I4 f4 r4 p4
    refine wpAny_ite_split (fun _ => ?_) (fun _ => wpAny_pure ⟨plainId_quiet PySem.F.plain_extend_loop _, key I4 r4⟩)
    have hq4 : ρ4.l[st1.l.length]? = some q := f4.le.1 _ _ (by show (ρ.l ++ [q])[st1.l.length]? = _; rw [← rel.ll]; simp)
    have hx4 : (st1.push (.lst [])).l[st1.l.length]? = some (.lst []) := by show (st1.l ++ _)[st1.l.length]? = _; simp
    obtain ⟨_, o4, h5, vs, rfl, h6⟩ := r4.la _ _ _ hq4 hx4
    unfold Reps at h6
    subst h6
    refine wpAny_bind (wpAny_rule ?_)
    refine wpAny_bind ?_
    show wpAny _ _ (updateSeq q (·.push .none) >>= fun _ => updateSeq q (·.pop)) _ _ _
    obtain ⟨z, its, k3, r3, hl3, e3⟩ := I4.lstM h5
    cases r3
    refine wpAny_bind (wpAny_updateSeq e3 rfl ?_)
    have I5 := I4.lset (f := (·.push Value.none)) (its' := [Value.none]) (ys := [.non]) (t' := s4.toks) h5 e3 (by simp) (.cons rfl .nil) (by rw [List.length_singleton, sizeLine_eq]; decide)
    obtain ⟨z6, its6, k6, r6, hl6, e6⟩ := I5.lstM upd_same
    obtain ⟨u6, rfl, ru6⟩ := r6.one
    refine wpAny_updateSeq e6 rfl ?_ (by show 1 ≤ sizeLine; rw [sizeLine_eq]; decide) (by show 0 ≤ sizeLine + 1; exact Nat.zero_le _)
    have I7 := I5.lset (f := (·.pop)) (its := [u6]) (its' := []) (ys := []) (t' := s4.toks) upd_same e6 (by rfl) .nil (Nat.zero_le _)
    rw [upd_upd] at I7
    have hH : upd H4 q (.lst []) = H4 := by
      funext b
      by_cases hb : b = q
      · rw [hb, upd_same, h5]
      · rw [upd_ne hb]
    rw [hH] at I7
    exact wpAny_pure ⟨plainId_quiet PySem.F.plain_extend_loop _, key I7 r4⟩
theorem cam_list {F : MF} {c n : Nat} {fi g : Addr} {fl : Str} {fdI fdL : FuncData} {psI psL : List Str} (hc : X.calm = true) (i1 : PySem.W.findIn X.K (.ref (cl c)) "__iter__" = some (some (.ref fi))) (i2 : PySem.W.isFn X.K (.ref fi) = true)
    (l1 : PySem.W.findIn X.K (.ref (cl c)) "__len__" = some (some (.ref g))) (l2 : PySem.W.isFn X.K (.ref g) = true)
    (FI : FnOk X.prog X.w X.K X.mg X.base (L2.CX X.prog X.w) n fi fdI psI (spIter X.K (cl c) fl)) (bI : Binds X.K fdI psI [])
    (FL : FnOk X.prog X.w X.K X.mg X.base (L2.CX X.prog X.w) n g fdL psL (spM ⟨X.K, cl⟩ 1 F)) (bL : Binds X.K fdL psL []) (hr : Room (n + 4) X.A) : CaM X cl Wx (.type "list") (listOwnF c fl F) :=
  fun pins s σ H xs us Q ρ G st ss I rv rel hss p => by
    refine cam_listM (c := c) (F := F) (fl := fl) (Wx := Wx) hc i1 i2 l1 l2 FI bI FL bL hr pins s σ H xs us Q ρ G st ss I rv rel hss ?_
    unfold listOwnF at p
    revert p
    cases listOwn c fl F ss st with
    | ex c ns ws st2 => exact fun p => p
    | bad => exact fun p => p
    | ok x st2 =>
      intro p ρ' G' H' u f r hx
      replace p : PostR ⟨X.K, cl⟩ ρ G (Mz.SlR ⟨X.K, cl⟩) (frzBk st.l.length st.o x st2) Q (fun c d H' => Wx c d σ H') := p
      unfold frzBk at p
      split at p
      · rename_i m
        split at p
        · rename_i hm
          subst hm
          obtain ⟨a, ha, rfl⟩ := hx
          exact fin_freeze ρ' G' H' st2 a st.l.length st.o Q _ ρ G H st.l r ha f rel rfl p
        · exact p.elim
      · exact p.elim
theorem ie_callTyM {id : String} {F : MF} {x : Str} {p pos : Pos} {e : Expr} {es : List Expr} {ra : MA} (hc : CaM X cl Wx (.type id) F) (hg : Gl X x) (hm : X.mg x = none) (hv : bootBuiltins x = some (.type id)) (ha : IA X cl Wx (e :: es) ra) (hn : x ≠ "__name__" := by decide) (hdb : (x == ("__debug__" : Str)) = false := by decide)
    (he : starEach (e :: es) X.env = (false, eval e X.env) :: starEach es X.env := by rfl) (hpl : (backTo pos (starEach es X.env)).any (·.1) = false := by rfl) : IE X cl Wx (.Call (.Name x p) (e :: es) [] pos) (mCall F ra) := by
  refine ⟨fun pins s σ H Q I h => ?_⟩
  obtain ⟨env, ρ, G, st, rel, er, q⟩ := h
  refine wpAny_Call_Name_kw (ld_blt I hg hm hv ?_ hn hdb)
  have h1 : tL ⟨X.K, cl⟩ Wx ra σ H (fun us H1 => ∃ ρ1 G1 st1 xs, Rel ⟨X.K, cl⟩ ρ1 G1 H1 st1 ∧ SlRs ⟨X.K, cl⟩ ρ1 G1 xs us ∧ PostR ⟨X.K, cl⟩ ρ1 G1 (Mz.SlR ⟨X.K, cl⟩) (F xs st1) Q (fun c d H' => Wx c d σ H')) :=
    ⟨env, ρ, G, st, rel, er, PostR.bind (R1 := SlRs ⟨X.K, cl⟩) q fun xs st1 ρ1 G1 H1 us f1 r1 s1 p1 => ⟨ρ1, G1, st1, xs, r1, s1, p1⟩⟩
  refine PyProof.Rows.callWith_type1 (thn (ha.run pos pins s σ H _ I h1) ?_) he hpl
  rintro us s1 ⟨vs, H1, I1, rv, ρ1, G1, st1, xs, r1, hs, p1⟩
  exact hc pins s1 σ H1 vs us Q ρ1 G1 st1 xs I1 rv r1 hs p1
end
/-! small steps -/
theorem listOwn_ok {c : Nat} {f : Str} {F : MF} {x t : Sl} {st : Store} {ys : List W} {i : Int} (hi : isCl c st x = true) (ha : attrOf [c] f x st = .ok t st) (hy : items st t = some ys) (hF : F [x] (st.push (.lst [])) = .ok (.v (.int i)) (st.push (.lst []))) (h0 : 0 ≤ i) (h1 : i ≤ (big : Int)) :
    listOwn c f F [x] st = .ok (.l st.l.length) (st.push (.lst ys)) := by
  unfold listOwn
  dsimp only
  rw [if_pos hi, ha]
  show (match items st t with
    | some ys => lstBk ys st (F [x] (st.push (.lst [])))
    | none => .bad) = _
  rw [hy]
  dsimp only
  rw [hF]
  unfold lstBk
  dsimp only
  rw [if_pos ⟨h0, h1, rfl⟩]
theorem listOwnF_ok {c : Nat} {f : Str} {F : MF} {x t : Sl} {st : Store} {ys : List W} {i : Int} (hi : isCl c st x = true) (ha : attrOf [c] f x st = .ok t st) (hy : items st t = some ys) (hF : F [x] (st.push (.lst [])) = .ok (.v (.int i)) (st.push (.lst []))) (h0 : 0 ≤ i) (h1 : i ≤ (big : Int)) :
    listOwnF c f F [x] st = .ok (.v (.lst ys)) st := by
  unfold listOwnF
  rw [listOwn_ok hi ha hy hF h0 h1]
  show frzBk st.l.length st.o (.l st.l.length) (st.push (.lst ys)) = _
  unfold frzBk freezeF Store.push Store.lget
  simp
end Mz

set_option Elab.async false
set_option linter.all false
set_option maxRecDepth 100000
set_option maxHeartbeats 4000000
namespace Mz
open PySem PySem.Spec PyProof.Rows L2
/-! ## 32. == of data without truth values -/
def Clean : Nat → W → Prop
  | 0, _ => False
  | n + 1, w => match w with
    | .non | .int _ => True
    | .str x => PyData.strOk x = true
    | .tup xs | .lst xs => ∀ x ∈ xs, Clean n x
    | _ => False
theorem clean_int {n : Nat} {i : Int} : Clean (n + 1) (.int i) := trivial
theorem clean_non {n : Nat} : Clean (n + 1) .non := trivial
theorem clean_lst {n : Nat} {xs : List W} (h : ∀ x ∈ xs, Clean n x) : Clean (n + 1) (.lst xs) := h
theorem clean_tup {n : Nat} {xs : List W} (h : ∀ x ∈ xs, Clean n x) : Clean (n + 1) (.tup xs) := h
theorem clean_ints {n : Nat} {xs : List Int} : Clean (n + 2) (.lst (xs.map W.int)) := fun x hx => by obtain ⟨i, _, rfl⟩ := List.mem_map.mp hx; exact trivial
theorem clean_intt {n : Nat} {xs : List Int} : Clean (n + 2) (.tup (xs.map W.int)) := fun x hx => by obtain ⟨i, _, rfl⟩ := List.mem_map.mp hx; exact trivial
theorem eqvs_of {n : Nat} (ih : ∀ w, Clean n w → ∃ d, toD w = some d ∧ d.canLay0 = true ∧ d.depth ≤ n ∧ ∀ w' d', Clean n w' → toD w' = some d' → (PyData.eqv d d' = true ↔ w = w')) :
    ∀ xs : List W, (∀ x ∈ xs, Clean n x) → ∃ ds, toDs xs = some ds ∧ PyData.canLayAll0 ds = true ∧ PyData.depthAll ds ≤ n ∧ ∀ ys ds', (∀ y ∈ ys, Clean n y) → toDs ys = some ds' → (PyData.eqvAll ds ds' = true ↔ xs = ys)
  | [], _ => ⟨[], rfl, rfl, Nat.zero_le _, fun ys ds' hy e => by
    cases ys with
    | nil => unfold toDs at e; cases e; simp [PyData.eqvAll]
    | cons y ys =>
      unfold toDs at e
      split at e
      · cases e; simp [PyData.eqvAll]
      · cases e⟩
  | x :: xs, h => by
    obtain ⟨d, e1, c1, p1, q1⟩ := ih x (h x List.mem_cons_self)
    obtain ⟨ds, e2, c2, p2, q2⟩ := eqvs_of ih xs fun y hy => h y (List.mem_cons_of_mem _ hy)
    refine ⟨d :: ds, by unfold toDs; rw [e1, e2], by unfold PyData.canLayAll0; rw [c1, c2]; rfl, by unfold PyData.depthAll; omega, fun ys ds' hy e => ?_⟩
    cases ys with
    | nil => unfold toDs at e; cases e; simp [PyData.eqvAll]
    | cons y ys =>
      unfold toDs at e
      split at e
      · rename_i d' ds2 e3 e4
        cases e
        have a1 := q1 y d' (hy y List.mem_cons_self) e3
        have a2 := q2 ys ds2 (fun z hz => hy z (List.mem_cons_of_mem _ hz)) e4
        unfold PyData.eqvAll
        rw [Bool.and_eq_true, a1, a2, List.cons.injEq]
      · cases e
theorem clean_toD : ∀ (n : Nat) (w : W), Clean n w → ∃ d, toD w = some d ∧ d.canLay0 = true ∧ d.depth ≤ n ∧ ∀ w' d', Clean n w' → toD w' = some d' → (PyData.eqv d d' = true ↔ w = w')
  | 0, _, h => h.elim
  | n + 1, w, h => by
    cases w with
    | non => exact ⟨_, rfl, rfl, Nat.zero_le _, fun w' d' h' e => by
        cases w' <;> first | (unfold toD at e; cases e; simp [PyData.eqv]; done) | (unfold toD at e; obtain ⟨ds, _, rfl⟩ := Option.map_eq_some_iff.mp e; simp [PyData.eqv]; done) | exact (show False from h').elim⟩
    | int i => exact ⟨_, rfl, rfl, Nat.zero_le _, fun w' d' h' e => by
        cases w' <;> first | (unfold toD at e; cases e; simp [PyData.eqv]; done) | (unfold toD at e; obtain ⟨ds, _, rfl⟩ := Option.map_eq_some_iff.mp e; simp [PyData.eqv]; done) | exact (show False from h').elim⟩
    | str x => exact ⟨_, rfl, h, Nat.zero_le _, fun w' d' h' e => by
        cases w' <;> first | (unfold toD at e; cases e; simp [PyData.eqv]; done) | (unfold toD at e; obtain ⟨ds, _, rfl⟩ := Option.map_eq_some_iff.mp e; simp [PyData.eqv]; done) | exact (show False from h').elim⟩
    | tup xs =>
      obtain ⟨ds, e1, c1, p1, q1⟩ := eqvs_of (clean_toD n) xs h
      refine ⟨.tuple ds, by unfold toD; rw [e1]; rfl, by unfold PyData.canLay0; exact c1, by show PyData.depthAll ds + 1 ≤ _; omega, fun w' d' h' e => ?_⟩
      cases w' with
      | tup ys =>
        unfold toD at e
        obtain ⟨ds', e2, rfl⟩ := Option.map_eq_some_iff.mp e
        have := q1 ys ds' h' e2
        simp only [PyData.eqv, this, W.tup.injEq]
      | lst ys => unfold toD at e; obtain ⟨ds', e2, rfl⟩ := Option.map_eq_some_iff.mp e; simp [PyData.eqv]
      | non => unfold toD at e; cases e; simp [PyData.eqv]
      | int i => unfold toD at e; cases e; simp [PyData.eqv]
      | str i => unfold toD at e; cases e; simp [PyData.eqv]
      | _ => exact (show False from h').elim
    | lst xs =>
      obtain ⟨ds, e1, c1, p1, q1⟩ := eqvs_of (clean_toD n) xs h
      refine ⟨.list ds, by unfold toD; rw [e1]; rfl, by unfold PyData.canLay0; exact c1, by show PyData.depthAll ds + 1 ≤ _; omega, fun w' d' h' e => ?_⟩
      cases w' with
      | lst ys =>
        unfold toD at e
        obtain ⟨ds', e2, rfl⟩ := Option.map_eq_some_iff.mp e
        have := q1 ys ds' h' e2
        simp only [PyData.eqv, this, W.lst.injEq]
      | tup ys => unfold toD at e; obtain ⟨ds', e2, rfl⟩ := Option.map_eq_some_iff.mp e; simp [PyData.eqv]
      | non => unfold toD at e; cases e; simp [PyData.eqv]
      | int i => unfold toD at e; cases e; simp [PyData.eqv]
      | str i => unfold toD at e; cases e; simp [PyData.eqv]
      | _ => exact (show False from h').elim
    | _ => exact (show False from h).elim
theorem sees_flat' {st : Store} {w w' : W} (h : Sees st (.v w) w') : w' = w := by unfold Sees at h; exact h.symm
theorem datum_sees {st : Store} {x : Sl} {w : W} (h : Sees st x w) : datum st x = toD w := by
  cases x with
  | v w' => unfold Sees at h; subst h; rfl
  | l n =>
    cases w <;> unfold Sees at h <;> first | exact h.elim | skip
    unfold datum; dsimp only; rw [h]; rfl
  | o n => unfold Sees at h; exact h.elim
open Classical in
/-- == and != of such data -/
theorem o_eqD {n : Nat} (hn : n ≤ 64) {neg : Bool} {x y : Sl} {st : Store} {w w' : W} (hx : Sees st x w) (hy : Sees st y w') (h : Clean n w) (h' : Clean n w') :
    opEq neg x y st = .ok (.v (.bl (if neg then !decide (w = w') else decide (w = w')))) st := by
  obtain ⟨d, e1, c1, p1, q1⟩ := clean_toD n w h
  obtain ⟨d', e2, c2, p2, _⟩ := clean_toD n w' h'
  have q := q1 w' d' h' e2
  have s1 : SeqAt.shaped d = true := by unfold SeqAt.shaped; rw [c1, decide_eq_true (by omega : d.depth ≤ 64)]; rfl
  have s2 : SeqAt.shaped d' = true := by unfold SeqAt.shaped; rw [c2, decide_eq_true (by omega : d'.depth ≤ 64)]; rfl
  have hd : PyData.eqv d d' = decide (w = w') := by
    by_cases c : w = w'
    · rw [decide_eq_true c]; exact q.mpr c
    · rw [decide_eq_false c]
      cases hh : PyData.eqv d d' with
      | true => exact absurd (q.mp hh) c
      | false => rfl
  have g : (match datum st x, datum st y with
    | some d, some e => if SeqAt.shaped d = true ∧ SeqAt.shaped e = true then Res.ok (Sl.v (.bl (if neg then !PyData.eqv d e else PyData.eqv d e))) st else .bad
    | _, _ => .bad) = .ok (.v (.bl (if neg then !decide (w = w') else decide (w = w')))) st := by
    rw [datum_sees hx, datum_sees hy, e1, e2]
    dsimp only
    rw [if_pos ⟨s1, s2⟩, hd]
  unfold opEq
  split
  · cases sees_flat' hx; cases sees_flat' hy
    cases neg <;> simp
  · cases sees_flat' hx; cases sees_flat' hy
    cases neg <;> simp
  · exact g
/-! a comprehension that draws, its list changed later -/
theorem lc_drawM {α : Type} {gd : Store → Prop} {pt : Pat} {me : ME} {env : Env} {st : Store} {p : Nat} (f : α → W) (P : α → Prop) (xs : List W) (hp : Pl st p) (hz : xs.length ≤ big) (hg : ∀ s, gd s)
    (h : ∀ x ∈ xs, ∃ env1, bindP pt x env = some env1 ∧ ∀ s acc, Pl s p → s.l.length = st.l.length → ∃ r s', me env1 (s.push (.lst acc)) = .ok (.v (f r)) (s'.push (.lst acc)) ∧ Pw p s s' ∧ P r) :
    ∃ (ys : List α) (st' : Store), lcL gd pt mYes me env st.l.length (fun st2 => Res.ok (Sl.l st.l.length) st2) xs (st.push (.lst [])) = Res.ok (Sl.l st.l.length) (st'.push (.lst (ys.map f))) ∧ Pw p st st' ∧ ys.length = xs.length ∧ ∀ y ∈ ys, P y := by
  obtain ⟨acc', st', hn, e, ys, h1, h2, h3, h4⟩ := lc_inv (β := Sl) (gd := gd) (pt := pt) (mt := mYes) (me := me) (env := env) (n := st.l.length) (fin := fun st2 => Res.ok (Sl.l st.l.length) st2)
    (fun i acc st2 => ∃ ys : List α, acc = ys.map f ∧ Pw p st st2 ∧ ys.length = i ∧ ∀ y ∈ ys, P y) xs 0 [] st rfl ⟨[], rfl, Pw.refl hp, rfl, fun _ h => by cases h⟩ (by simpa using hz) (by
      rintro j x acc s hn hx ⟨ys, rfl, hw, hl, hP⟩
      obtain ⟨env1, b1, q⟩ := h x (List.mem_of_getElem? hx)
      obtain ⟨r, s', e1, w1, hr⟩ := q s (ys.map f) hw.pl hn
      refine ⟨hg _, env1, b1, .inr ⟨rfl, f r, s', w1.len.trans hn, e1, ys ++ [r], by rw [List.map_append]; rfl, hw.trans w1, by rw [List.length_append, hl]; rfl, fun y hy => ?_⟩⟩
      rcases List.mem_append.mp hy with h | h
      · exact hP y h
      · rw [List.mem_singleton.mp h]; exact hr)
    (fun _ _ _ => hg _)
  refine ⟨ys, st', ?_, h2, by rw [h3]; simp, h4⟩
  rw [e, h1]
/-! what is of a class -/
theorem ic_int {c : Nat} {i : Int} {st : Store} : isCl c st (.v (.int i)) = false := rfl
theorem ic_bl {c : Nat} {i : Bool} {st : Store} : isCl c st (.v (.bl i)) = false := rfl
theorem ic_str {c : Nat} {i : Str} {st : Store} : isCl c st (.v (.str i)) = false := rfl
theorem ic_non {c : Nat} {st : Store} : isCl c st (.v .non) = false := rfl
theorem ic_lst {c : Nat} {i : List W} {st : Store} : isCl c st (.v (.lst i)) = false := rfl
theorem ic_ro {c : Nat} {i : List W} {st : Store} : isCl c st (.v (.ro i)) = false := rfl
theorem ic_tup {c : Nat} {i : List W} {st : Store} : isCl c st (.v (.tup i)) = false := rfl
theorem ic_l {c n : Nat} {st : Store} : isCl c st (.l n) = false := rfl
theorem ic_ins {c c' : Nat} {ns : List Str} {ws : List W} {st : Store} : isCl c st (.v (.ins c' ns ws)) = decide (c' = c) := rfl
theorem oneIs_1 {c : Nat} {x : Sl} {st : Store} : oneIs c [x] st = isCl c st x := rfl
theorem lenOwn_1 {c : Nat} {F : MF} {x : Sl} {st : Store} : lenOwn c F [x] st = if isCl c st x = true then lenBk (F [x] st) else .bad := rfl
theorem lenBk_1 {i : Int} {st : Store} (h : 0 ≤ i ∧ i < 2 ^ 62) : lenBk (.ok (.v (.int i)) st) = .ok (.v (.int i)) st := by unfold lenBk; dsimp only; rw [if_pos h]
theorem ixOwn_1 {c : Nat} {F : MF} {x y : Sl} {st : Store} : ixOwn c F x y st = if isCl c st x = true then F [x, y] st else .bad := rfl
theorem items_seesl {st : Store} {x : Sl} {xs : List W} (h : Sees st x (.lst xs)) : items st x = some xs := (sees_lst h).1
theorem wl_inj {xs ys : List Int} : xs.map W.int = ys.map W.int ↔ xs = ys := List.map_inj_right (fun a b h => W.int.inj h)
open Classical in
theorem dec_iff' {p q : Prop} [d : Decidable q] (h : p ↔ q) : decide p = decide q := by
  by_cases c : q
  · rw [decide_eq_true c, decide_eq_true (h.mpr c)]
  · rw [decide_eq_false c, decide_eq_false (fun z => c (h.mp z))]
theorem o_eqL {x y : Sl} {st : Store} {xs ys : List Int} (hx : Sees st x (.lst (xs.map W.int))) (hy : Sees st y (.lst (ys.map W.int))) : opEq false x y st = .ok (.v (.bl (decide (xs = ys)))) st := by
  rw [o_eqD (n := 2) (by omega) hx hy clean_ints clean_ints, if_neg (by simp), dec_iff' (show W.lst (xs.map W.int) = W.lst (ys.map W.int) ↔ xs = ys by rw [W.lst.injEq, wl_inj])]
theorem o_eqT {xs ys : List Int} {st : Store} : opEq false (.v (.tup (xs.map W.int))) (.v (.tup (ys.map W.int))) st = .ok (.v (.bl (decide (xs = ys)))) st := by
  rw [o_eqD (n := 2) (by omega) sees_v sees_v clean_intt clean_intt, if_neg (by simp), dec_iff' (show W.tup (xs.map W.int) = W.tup (ys.map W.int) ↔ xs = ys by rw [W.tup.injEq, wl_inj])]
theorem fin_ex {st : Store} {c : Nat} {ns : List Str} {ws : List W} {env : Env} : fin .tr st (.ex c ns ws env st) = .ex c ns ws st := by
  unfold fin cut; dsimp only; rw [List.take_length, if_pos rfl, List.take_length]
theorem icl_self {c : Nat} {l : List (Nat × Bool)} {ty : List String} {ns : List Str} {ws : List W} {st : Store} {b : Bool} (h : l.lookup c = some b) : isclOf l ty (.v (.ins c ns ws)) st = .ok (.v (.bl b)) st := by
  unfold isclOf; dsimp only; rw [h]
end Mz

set_option Elab.async false
set_option linter.all false
set_option maxRecDepth 100000
set_option maxHeartbeats 4000000
namespace Mz
open PySem PySem.Spec PyProof.Rows L2
/-! ## 33. < of tuples -/
def cmpOk : Nat → W → W → Prop
  | 0, _, _ => False
  | n + 1, w, w' => match w, w' with
    | .int _, .int _ => True
    | .tup xs, .tup ys => ∀ (j : Nat) x y, xs[j]? = some x → ys[j]? = some y → cmpOk n x y
    | _, _ => False
open Classical in
noncomputable def lexW (lt : W → W → Bool) : List W → List W → Bool
  | [], [] => false
  | [], _ :: _ => true
  | _ :: _, [] => false
  | x :: xs, y :: ys => if x = y then lexW lt xs ys else lt x y
noncomputable def ltN : Nat → W → W → Bool
  | 0, _, _ => false
  | n + 1, w, w' => match w, w' with
    | .int a, .int b => decide (a < b)
    | .tup xs, .tup ys => lexW (ltN n) xs ys
    | _, _ => false
open Classical in
theorem lexAt_lexW {lt : W → W → Bool} {e r : Nat → Bool} : ∀ (xs ys : List W) (i : Nat), (∀ (j : Nat) x y, xs[j]? = some x → ys[j]? = some y → e (i + j) = decide (x = y) ∧ r (i + j) = lt x y) →
    Ob.lexAt e r (decide (xs.length < ys.length)) i (min xs.length ys.length) = lexW lt xs ys
  | [], [], i, _ => by simp [Ob.lexAt, lexW]
  | [], y :: ys, i, _ => by simp [Ob.lexAt, lexW]
  | x :: xs, [], i, _ => by simp [Ob.lexAt, lexW]
  | x :: xs, y :: ys, i, h => by
    have h0 := h 0 x y rfl rfl
    rw [Nat.add_zero] at h0
    rw [List.length_cons, List.length_cons, Nat.add_min_add_right, Ob.lexAt_succ, h0.1, h0.2]
    have ih := lexAt_lexW (lt := lt) (e := e) (r := r) xs ys (i + 1) fun j a b h1 h2 => by
      have := h (j + 1) a b (by simpa using h1) (by simpa using h2)
      rw [show i + (j + 1) = i + 1 + j by omega] at this
      exact this
    have hz : decide (xs.length + 1 < ys.length + 1) = decide (xs.length < ys.length) := by
      by_cases c : xs.length < ys.length
      · rw [decide_eq_true c, decide_eq_true (by omega)]
      · rw [decide_eq_false c, decide_eq_false (by omega)]
    rw [hz, ih]
    unfold lexW
    by_cases c : x = y
    · rw [decide_eq_true c, if_pos rfl, if_pos c]
      cases xs <;> cases ys <;> rfl
    · rw [decide_eq_false c, if_neg (by simp), if_neg c]
section
variable {X : Cx} {cl : Nat → Addr} {pins : List (Addr × Obj)} {σ : L2.St}
theorem eqAt_rep {n : Nat} {ρ : Mp} {G H : Hp} {st : Store} {s : Shared} (hn : n ≤ 64) (I : Inv X pins σ H s) (r : Rel ⟨X.K, cl⟩ ρ G H st) {w w' : W} {v v' : V} {u u' : Value} {A : Around} (h : Clean n w) (h' : Clean n w') (hu : A.units + n < cLine) (p : Rep ⟨X.K, cl⟩ G w v) (p' : Rep ⟨X.K, cl⟩ G w' v') (q : L2.RelV v u) (q' : L2.RelV v' u') :
    SeqAt.EqAt A s u u' (@decide (w = w') (Classical.propDecidable _)) := by
  obtain ⟨d, e1, c1, p1, q1⟩ := clean_toD n w h
  obtain ⟨d', e2, c2, p2, _⟩ := clean_toD n w' h'
  have qq := q1 w' d' h' e2
  obtain ⟨as, ra⟩ := Dp.reads I d v u (toD_dp r.ext w v d e1 p) q
  obtain ⟨bs, rb⟩ := Dp.reads I d' v' u' (toD_dp r.ext w' v' d' e2 p') q'
  have key := SeqAt.eqAt_reads d d' A s u u' as bs ra rb c1 c2 (by have := Nat.min_le_left d.depth d'.depth; omega)
  have : PyData.eqv d d' = @decide (w = w') (Classical.propDecidable _) := by
    by_cases c : w = w'
    · rw [@decide_eq_true _ (Classical.propDecidable _) c]; exact qq.mpr c
    · rw [@decide_eq_false _ (Classical.propDecidable _) c]
      cases hh : PyData.eqv d d' with
      | true => exact absurd (qq.mp hh) c
      | false => rfl
  rw [← this]
  exact key
theorem reps_at {T : Tx} {G : Hp} {xs : List W} {vs : List V} {j : Nat} {v : V} (h : Reps T G xs vs) (e : vs[j]? = some v) : ∃ x, xs[j]? = some x ∧ Rep T G x v := Reps.get h e
theorem ltRc {ρ : Mp} {G H : Hp} {st : Store} {s : Shared} (I : Inv X pins σ H s) (r : Rel ⟨X.K, cl⟩ ρ G H st) : ∀ (n : Nat) (w w' : W) (v v' : V) (u u' : Value) (A : Around), n ≤ 64 → Clean n w → Clean n w' → cmpOk n w w' → A.units + n < cLine →
    Rep ⟨X.K, cl⟩ G w v → Rep ⟨X.K, cl⟩ G w' v' → L2.RelV v u → L2.RelV v' u' → Ob.RcOp .Lt A s u u' (ltN n w w')
  | 0, _, _, _, _, _, _, _, _, h, _, _, _, _, _, _, _ => h.elim
  | n + 1, w, w', v, v', u, u', A, hn, h, h', hc, hu, p, p', q, q' => by
    cases w with
    | int a =>
      cases w' with
      | int b =>
        unfold Rep at p p'
        subst p p'
        obtain ⟨t, rfl⟩ := q
        obtain ⟨t', rfl⟩ := q'
        exact Ob.RcOp.lt_int a b t t'
      | _ => exact (show False from hc).elim
    | tup xs =>
      cases w' with
      | tup ys =>
        unfold Rep at p p'
        obtain ⟨a, vs, rfl, h1, h2⟩ := p
        obtain ⟨b, vs', rfl, h3, h4⟩ := p'
        cases q
        cases q'
        obtain ⟨its, rv, pt, _⟩ := I.tuple (sqt_mono r.ext h1)
        obtain ⟨its', rv', pt', _⟩ := I.tuple (sqt_mono r.ext h3)
        have l1 : its.toArray.size = xs.length := by rw [List.size_toArray, ← rv.length, h2.length]
        have l2 : its'.toArray.size = ys.length := by rw [List.size_toArray, ← rv'.length, h4.length]
        have at1 : ∀ j (hj : j < its.toArray.size), ∃ x vj, xs[j]? = some x ∧ Rep ⟨X.K, cl⟩ G x vj ∧ L2.RelV vj its.toArray[j] := fun j hj => by
          have hj' : j < its.length := by simpa using hj
          have hvl : j < vs.length := by rw [rv.length]; exact hj'
          obtain ⟨x, hx, rx⟩ := Reps.get h2 (List.getElem?_eq_getElem hvl)
          obtain ⟨u, hu, ru⟩ := rv.get (List.getElem?_eq_getElem hvl)
          have : its.toArray[j] = u := by
            have e : its[j]? = some (its[j]'hj') := List.getElem?_eq_getElem hj'
            rw [e] at hu; simpa using Option.some.inj hu
          exact ⟨x, _, hx, rx, by rw [this]; exact ru⟩
        have at2 : ∀ j (hj : j < its'.toArray.size), ∃ x vj, ys[j]? = some x ∧ Rep ⟨X.K, cl⟩ G x vj ∧ L2.RelV vj its'.toArray[j] := fun j hj => by
          have hj' : j < its'.length := by simpa using hj
          have hvl : j < vs'.length := by rw [rv'.length]; exact hj'
          obtain ⟨x, hx, rx⟩ := Reps.get h4 (List.getElem?_eq_getElem hvl)
          obtain ⟨u, hu, ru⟩ := rv'.get (List.getElem?_eq_getElem hvl)
          have : its'.toArray[j] = u := by
            have e : its'[j]? = some (its'[j]'hj') := List.getElem?_eq_getElem hj'
            rw [e] at hu; simpa using Option.some.inj hu
          exact ⟨x, _, hx, rx, by rw [this]; exact ru⟩
        have R := Ob.RcOp.tuples_lt (A := A) (s := s) (e := fun j => @decide (xs[j]? = ys[j]?) (Classical.propDecidable _)) (r := fun j => ltN n (xs.getD j .non) (ys.getD j .non)) pt pt' (by omega) (fun j g1 g2 => by
          obtain ⟨x, vx, hx, px, qx⟩ := at1 j g1
          obtain ⟨y, vy, hy, py, qy⟩ := at2 j g2
          have := eqAt_rep (A := A.in1) (by omega : n ≤ 64) I r (h x (List.mem_of_getElem? hx)) (h' y (List.mem_of_getElem? hy)) (by rw [Around.in1_units]; omega) px py qx qy
          have ed : @decide (xs[j]? = ys[j]?) (Classical.propDecidable _) = @decide (x = y) (Classical.propDecidable _) := by
            refine decide_eq_decide.mpr ?_
            rw [hx, hy]; exact ⟨fun z => Option.some.inj z, fun z => by rw [z]⟩
          rw [ed]; exact this) (fun j g1 g2 _ => by
          obtain ⟨x, vx, hx, px, qx⟩ := at1 j g1
          obtain ⟨y, vy, hy, py, qy⟩ := at2 j g2
          have := ltRc I r n x y vx vy _ _ A.in1 (by omega) (h x (List.mem_of_getElem? hx)) (h' y (List.mem_of_getElem? hy)) (hc j x y hx hy) (by rw [Around.in1_units]; omega) px py qx qy
          rw [List.getD_eq_getElem?_getD, List.getD_eq_getElem?_getD, hx, hy]
          exact this)
        rw [l1, l2] at R
        rw [lexAt_lexW (lt := ltN n) xs ys 0 (fun j x y hx hy => ⟨by
            refine decide_eq_decide.mpr ?_
            rw [Nat.zero_add, hx, hy]; exact ⟨fun z => Option.some.inj z, fun z => by rw [z]⟩, by
            rw [Nat.zero_add, List.getD_eq_getElem?_getD, List.getD_eq_getElem?_getD, hx, hy]; rfl⟩)] at R
        exact R
      | _ => exact (show False from hc).elim
    | _ => exact (show False from hc).elim
end
open Classical in
noncomputable def opLtD : Op2
  | .v w, .v w', st => if Clean 60 w ∧ Clean 60 w' ∧ cmpOk 60 w w' then .ok (.v (.bl (ltN 60 w w'))) st else .bad
  | _, _, _ => .bad
section
variable {X : Cx} {cl : Nat → Addr} {Wx : WX}
theorem opm_ltD (hu : X.A.units + 64 < cLine) : OpM X cl Wx (compareOp .Lt) opLtD :=
  fun pins s σ H x y v u Q ρ G st sx sy I rx ry rel hx hy p => by
    unfold opLtD at p
    split at p
    · rename_i w w'
      split at p
      · rename_i hc
        have R := ltRc I rel 60 w w' x y v u X.A (by omega) hc.1 hc.2.1 hc.2.2 (by omega) hx hy rx ry
        have z : wpAny (model X.prog X.w) X.A (compareOp .Lt v u) (EP X pins σ Q) X.xe s := R X.prog X.w X.xe (EP X pins σ Q) ⟨.bl _, H, I, rfl, p.give rel (show Mz.SlR ⟨X.K, cl⟩ ρ G (.v (.bl (ltN 60 w w'))) (.bl (ltN 60 w w')) from (rep_bl : Rep ⟨X.K, cl⟩ G _ _))⟩
        exact z
      · exact p.elim
    · exact p.elim
end
/-! two tuples of a number and numbers -/
open Classical in
def lexI : List Int → List Int → Bool
  | [], [] => false
  | [], _ :: _ => true
  | _ :: _, [] => false
  | x :: xs, y :: ys => if x = y then lexI xs ys else decide (x < y)
theorem lexW_int {n : Nat} : ∀ {xs ys : List Int}, lexW (ltN (n + 1)) (xs.map W.int) (ys.map W.int) = lexI xs ys
  | [], [] => rfl
  | [], _ :: _ => rfl
  | _ :: _, [] => rfl
  | x :: xs, y :: ys => by
    show lexW (ltN (n + 1)) (.int x :: xs.map W.int) (.int y :: ys.map W.int) = _
    unfold lexW lexI
    by_cases c : x = y
    · rw [if_pos (by rw [c]), if_pos c]; exact lexW_int
    · rw [if_neg (fun z => c (W.int.inj z)), if_neg c]; rfl
theorem cmp_ints {n : Nat} {xs ys : List Int} : cmpOk (n + 2) (.tup (xs.map W.int)) (.tup (ys.map W.int)) := fun j x y hx hy => by
  rw [List.getElem?_map] at hx hy
  obtain ⟨a, _, rfl⟩ := Option.map_eq_some_iff.mp hx
  obtain ⟨b, _, rfl⟩ := Option.map_eq_some_iff.mp hy
  exact trivial
theorem ltD_pair {a b : Int} {xs ys : List Int} {st : Store} : opLtD (.v (.tup [.int a, .tup (xs.map W.int)])) (.v (.tup [.int b, .tup (ys.map W.int)])) st = .ok (.v (.bl (if a = b then lexI xs ys else decide (a < b)))) st := by
  have c1 : ∀ (a : Int) (xs : List Int), Clean 60 (.tup [.int a, .tup (xs.map W.int)]) := fun a xs => clean_tup (fun w hw => by
    rcases List.mem_cons.mp hw with rfl | hw
    · exact clean_int
    · rw [List.mem_singleton.mp hw]; exact clean_intt)
  have c2 : cmpOk 60 (.tup [.int a, .tup (xs.map W.int)]) (.tup [.int b, .tup (ys.map W.int)]) := fun j x y hx hy => by
    match j, hx, hy with
    | 0, hx, hy => simp at hx hy; subst hx hy; exact trivial
    | 1, hx, hy => simp at hx hy; subst hx hy; exact cmp_ints
    | j + 2, hx, hy => simp at hx
  unfold opLtD
  dsimp only
  rw [if_pos ⟨c1 a xs, c1 b ys, c2⟩]
  congr 3
  show lexW (ltN 59) [.int a, .tup (xs.map W.int)] [.int b, .tup (ys.map W.int)] = _
  unfold lexW
  by_cases c : a = b
  · rw [if_pos (by rw [c]), if_pos c]
    show lexW (ltN 59) [.tup (xs.map W.int)] [.tup (ys.map W.int)] = _
    unfold lexW
    by_cases d : xs = ys
    · rw [if_pos (by rw [d]), d]
      have : ∀ l : List Int, lexI l l = false := fun l => by
        induction l with
        | nil => rfl
        | cons x l ih => unfold lexI; rw [if_pos rfl]; exact ih
      rw [this]; rfl
    · rw [if_neg (fun z => d (wl_inj.mp (W.tup.inj z)))]
      exact lexW_int
  · rw [if_neg (fun z => c (W.int.inj z)), if_neg c]; rfl
end Mz

set_option Elab.async false
set_option linter.all false
set_option maxRecDepth 100000
set_option maxHeartbeats 4000000
namespace PySem
namespace ExF
open PySem.W PySem.Calls PyProof.Rows PySem.HandSPX
/-! ## 34. own errors whose __init__ says super().__init__("..") and then self.f = f -/
def eA1 (fld : Str) (p1 p2 : Pos) : Arguments := { posonlyargs := [], args := [{ arg := "self", annotation := none, pos := p1 }, { arg := fld, annotation := none, pos := p2 }], vararg := none, kwonlyargs := [], kw_defaults := [], kwarg := none, defaults := [] }
def supS (msg : Str) (a1 a2 a3 a4 a5 a6 : Pos) (j : Tok) : Stmt := .Expr (.Call (.Attribute (.Call (.Name "super" a1) [] [] a2) "__init__" a3) [.Constant (.str msg) j a4] [] a5) a6
def asgS (fld : Str) (b1 b2 b3 b4 : Pos) : Stmt := .Assign [.Attribute (.Name "self" b1) fld b2] (.Name fld b3) b4
def eS1 (fld : Str) : Scope := { kind := .function, names := [(PySem.Str.ofString "self", .local), (fld, .local), (PySem.Str.ofString "__class__", .free), (PySem.Str.ofString "super", .globalImplicit)], isGenerator := false, isCoroutine := false, more := [] }
/-- what must hold of the names -/
structure Fld1 (fld : Str) : Prop where
  l1 : (eS1 fld).names.lookup ("self" : Str) = some .local
  l2 : (eS1 fld).names.lookup fld = some .local
  l3 : (eS1 fld).names.lookup ("super" : Str) = some .globalImplicit
  l4 : (eS1 fld).names.lookup ("__class__" : Str) = some .free
  c : ∀ x ∈ (eS1 fld).names, x.2 ≠ .cell
  m1 : ∀ a v : Value, ([(("self" : Str), a), (fld, v)].reverse.lookup ("self" : Str)) = some a
  m2 : ∀ a v : Value, ([(("self" : Str), a), (fld, v)].reverse.lookup fld) = some v
  d : (fld == ("__debug__" : Str)) = false
/-- what is said of the class at C, its __init__ at fI, that one's cell cc and code cda -/
structure ClsTxt (K : Frag) (mg : Str → Option Value) (p : Program) (C fI : Addr) : Prop where
  cls : ∃ nm q N bs bm sn sub ab col dd k0 k1 k2 k3 k5, K.lookup C = some (excClassObj nm q C N bs bm true sn sub ab col dd k0 k1 k2 k3 k5 "ValueError.__new__") ∧ refsVE bm = true
  sa : findIn K (.ref C) "__setattr__" = some (some (.builtin "object.__setattr__"))
  iC : findIn K (.ref C) "__init__" = some (some (.ref fI))
  tC : typeIn K (.ref fI) = some (.type "function")
  kC : keepIn K (.ref C) = true
  exC : subIn K (.ref C) (.type "BaseException") = some true
  veC : subIn K (.ref C) (.type "ValueError") = some true
  tyC : typeIn K (.ref C) = some (.type "type")
  sup : ks_superIn K C C "__init__" = some (some (.builtin "ValueError.__init__"))
  sub : mroIn K C (.ref C) = some true
  opq : nsIn K cStatics "thirdparty.any" = some none
  noS : mg "super" = none
  top : (p.main.scope.names.lookup ("super" : Str)).isSome = false
abbrev supCall (msg : Str) (a1 a2 a3 a4 a5 : Pos) (j : Tok) : Expr := .Call (.Attribute (.Call (.Name "super" a1) [] [] a2) "__init__" a3) [.Constant (.str msg) j a4] [] a5
abbrev supTree (msg : Str) (a1 a2 a3 a4 a5 : Pos) (j : Tok) (pl : Sem Bool) (env : Env) : Sem Value := (do
      let ov ← attributeBase (.Call (.Name "super" a1) [] [] a2) "__init__" env (eval (.Call (.Name "super" a1) [] [] a2) env)
      standAt a3.atName
      let (f, first) ← holding [ov] (getMethod ov "__init__" pl)
      callWith a5 f first (backTo a5 (starEach [.Constant (.str msg) j a4] env)) [])
structure Ex1Txt (K : Frag) (mg : Str → Option Value) (p : Program) (C fI : Addr) (qual fld msg : Str) : Prop extends ClsTxt K mg p C fI where
  fl : Fld1 fld
  noN : findIn K (.ref C) fld = some none
  fn : ∃ (oc : Value) (od : Option Addr) (doc pm : Value) (an : Option Addr) (cda cc : Addr) (ct : Value) (osl : Array (Option Value)) (p1 p2 a1 a2 a3 a4 a5 a6 b1 b2 b3 b4 : Pos) (j : Tok) (ccl : Value) (cdd : Option Addr) (vs : Array Value) (ccs : Array (Option Value)) (file : Str) (tf : Tok) (cl : Value) (cld : Option Addr) (csl : Array (Option Value)),
    K.lookup fI = some ⟨oc, od, .func (ksFn "__init__" qual (eA1 fld p1 p2) [supS msg a1 a2 a3 a4 a5 a6 j, asgS fld b1 b2 b3 b4] (eS1 fld) .none .none doc pm an (.ref cda) ct cc), osl⟩ ∧ codeIn K (.ref cda) qual = true ∧
    K.lookup cda = some ⟨ccl, cdd, .fields vs, ccs⟩ ∧ vs[2]? = some (.str file tf) ∧ ((p.main.file : Str) == file) = true ∧ K.lookup cc = some ⟨cl, cld, .cell (some (.ref C)), csl⟩ ∧
    (∀ s a v, BindsTo s (ksFn "__init__" qual (eA1 fld p1 p2) [supS msg a1 a2 a3 a4 a5 a6 j, asgS fld b1 b2 b3 b4] (eS1 fld) .none .none doc pm an (.ref cda) ct cc) ⟨[a, v], []⟩ [("self", a), (fld, v)]) ∧
    (∀ env : Env, starEach [(.Constant (.str msg) j a4 : Expr)] env = (false, eval (.Constant (.str msg) j a4) env) :: starEach [] env) ∧
    (∃ pl : Sem Bool, ∀ L : Addr, eval (supCall msg a1 a2 a3 a4 a5 j) (ksEnv qual (eS1 fld) L fI (.ref cda) cc) = supTree msg a1 a2 a3 a4 a5 j pl (ksEnv qual (eS1 fld) L fI (.ref cda) cc))
structure InitEnd (h h' : Heap) (x C dx t1 : Addr) (ns : Str → Option Value) : Prop where
  keep : ∀ b o, b ≠ x → h.get? b = some o → h'.get? b = some o
  obj : h'.get? x = some { cls := .ref C, dict := some dx, data := .fields #[.ref t1, .none, .none, .none, .bool false, .none] }
  dbig : h.objs.size ≤ dx
  dne : dx ≠ x
  ns : h'.Ns1 dx ns
section
variable {prog : Program} {w : World} {A : Around} {E : Value → Shared → Prop} {R : Result → Shared → Prop} {s : Shared} {K : Frag} {mg mb : Str → Option Value} {C fI : Addr} {qual fld msg : Str}
theorem ldC {s : Shared} {env : Env} {m : Str → Option Value} {x : Str} {pos : Pos} {v : Value} {Q : Value → Shared → Prop} {A : Around} {E : Value → Shared → Prop} {M : Model} (hn : s.heap.Ns env.locals m) (hv : m x = some v) (hk : env.scope.kind = .function) (hl : env.kindOf x = some .local) (hd : (x == ("__debug__" : Str)) = false) (h : Q v s) :
    wpAny M A (eval (.Name x pos) env) Q E s := wpAny_Name (wpAny_loadName_local hk hl hn hv h) hd
/-- super().__init__("..") -/
theorem sup_stmt (T : ClsTxt K mg prog C fI) {q : Str} {scope : Scope} {L cda cc x t0 : Addr} {m : Str → Option Value} {msg : Str} {a1 a2 a3 a4 a5 a6 : Pos} {j : Tok} {oc : Value} {od : Option Addr} {fd : FuncData} {osl : Array (Option Value)} {ar : Arg} {ccl : Value} {cdd : Option Addr} {vs : Array Value} {ccs : Array (Option Value)} {file : Str} {tf : Tok}
    {cl : Value} {cld : Option Addr} {csl : Array (Option Value)} {body : List Stmt} {Q : Flow → Shared → Prop}
    (X : K.In s.heap) (hg : s.heap.Ns mainGlobals mg) (hb : s.heap.Ns builtinsNs mb) (hmb : mb "super" = bootBuiltins "super") (hx : s.heap.get? x = some (excO C t0)) (hn : s.heap.Ns L m) (hv : m ar.arg = some (.ref x))
    (hf : K.lookup fI = some ⟨oc, od, .func fd, osl⟩) (hp : (fd.params.posonlyargs ++ fd.params.args).head? = some ar) (hcode : K.lookup cda = some ⟨ccl, cdd, .fields vs, ccs⟩) (hvs : vs[2]? = some (.str file tf)) (hfile : ((prog.main.file : Str) == file) = true)
    (hcell : K.lookup cc = some ⟨cl, cld, .cell (some (.ref C)), csl⟩) (hks : scope.names.lookup ("super" : Str) = some .globalImplicit) (hkc : scope.names.lookup ("__class__" : Str) = some .free) (hka : scope.names.lookup ar.arg = some .local) (hk : scope.kind = .function)
    {pl : Sem Bool} (hcall : eval (supCall msg a1 a2 a3 a4 a5 j) (ksEnv q scope L fI (.ref cda) cc) = supTree msg a1 a2 a3 a4 a5 j pl (ksEnv q scope L fI (.ref cda) cc))
    (hstar : ∀ env : Env, starEach [(.Constant (.str msg) j a4 : Expr)] env = (false, eval (.Constant (.str msg) j a4) env) :: starEach [] env)
    (hq : ∀ h' tk t1, (∀ b o, b ≠ x → s.heap.get? b = some o → h'.get? b = some o) → h'.get? x = some (excO C t1) → Q .next { s with heap := h', toks := tk }) :
    _root_.PySem.wpAt (model prog w) A (.func body (ksEnv q scope L fI (.ref cda) cc)) (exec (supS msg a1 a2 a3 a4 a5 a6 j) (ksEnv q scope L fI (.ref cda) cc)) Q E s := by
  obtain ⟨nm, qn, N, bs, bm, sn, sub, ab, col, dd, k0, k1, k2, k3, k5, hC, hbm⟩ := T.cls
  have hcl : clsIn K C = some { name := nm, bases := bs, mro := .ref C :: bm, ns := N, qualname := qn, hasDict := true, slotNames := sn, subclasses := sub, abstract := ab, collection := col, hasDel := false } := by unfold clsIn; rw [hC] <;> rfl
  obtain ⟨hh, g, d, t, os⟩ := s
  have I : InstAt hh x (excO C t0) C none := ⟨hx, rfl, rfl, trivial⟩
  have hD1 : hh.get? C = some (excClassObj nm qn C N bs bm true sn sub ab col dd k0 k1 k2 k3 k5 "ValueError.__new__") := X _ _ hC
  refine ks_wpAt_Expr_any (hi := by simp [interactive, ksEnv, envX, hk]) ?_
  refine ks_wpAt_MethodCall (pl := pl) (he := hcall) ?_
  refine ks_wpAt_super_base (env := ksEnv q scope L fI (.ref cda) cc) hks hkc (by decide) rfl (X _ _ hf) rfl hp rfl (X _ _ hcode) rfl hvs hfile T.top ?_
  refine ks_loadName_global hk hks (loadGlobal_builtin (env := ksEnv q scope L fI (.ref cda) cc) hg T.noS hb (hmb.trans (by first | rfl | decide +kernel)) ⟨rfl, ?_⟩)
  refine wpAny_loadName_free hk hkc rfl ⟨_, X _ _ hcell, rfl⟩ ?_
  refine wpAny_loadName_local hk hka hn hv ?_
  refine ks_wpAny_isType_cls hD1 rfl ⟨rfl, ?_⟩
  refine ks_wpAny_call_super hD1 rfl I.at_ I.cls (fun c e => nomatch e) (looks_mroIn X T.sub) (fun h' e k => ?_)
  have X1 : K.In h' := X.keeps k
  have hx1 := k _ _ hx
  have I1 : InstAt h' x (excO C t0) C none := ⟨hx1, rfl, rfl, trivial⟩
  have hm : alongIn K "__init__" (((.ref C :: bm : List Value).dropWhile (· != .ref C)).drop 1) = some (some (.builtin "ValueError.__init__")) := by
    have z := T.sup
    unfold ks_superIn at z
    rw [hcl] at z
    exact z
  have hI : Looks (model prog w) h' (isInstance (.ref x) (.type "ValueError")) true := I1.type.andThen (looks_subIn X1 T.veC)
  refine kxs_getMethod kxs_ValueError e (looks_opaque X1 T.opq) (l₀ := .ref C :: bm) (fun A Q E s k q => wpAny_bind ((looks_clsIn X1 hcl) A _ E s k (wpAny_pure q))) rfl X1 hm hI (ks_ne X1 I1 hcl) (by decide) ?_
  have ku : (h'.push (kxs_mw "ValueError.__init__" x)).get? h'.objs.size = some (kxs_mw "ValueError.__init__" x) := Heap.get?_push_at rfl rfl
  have k2 : ∀ b o, hh.get? b = some o → (h'.push (kxs_mw "ValueError.__init__" x)).get? b = some o := fun b o e => Heap.get?_push_of_some _ (k b o e)
  rw [hstar]
  refine kxs_callWith (i := "ValueError.__init__") (x := x) (by rfl) (evalArgs_plain ?_)
  refine Calls.spliced_cons (show wpAny _ _ (eval (.Constant (.str msg) j a4) (ksEnv q scope L fI (.ref cda) cc)) _ _ _ from Calls.Constant_str (PyProof.Rows.spliced_none (env := ksEnv q scope L fI (.ref cda) cc) (pos := a5) ⟨ku, ?_⟩))
  refine wpAny_call (codeAny_of_tree ?_)
  show wpAny _ A.in1 (callAny (.ref h'.objs.size) ⟨_, []⟩) _ _ _
  simp only [callAny]
  refine wpAny_bind (wpAny_load ku ?_)
  simp only [kxs_mw, show (Value.type "method-wrapper" == Value.type "method" || Value.type "method-wrapper" == Value.type "builtin_function_or_method" || Value.type "method-wrapper" == Value.type "method-wrapper") = true by decide, if_true]
  refine KFB.if_so (by decide) ?_
  refine wpAny_bind (check_bound_init F.excBase_ValueError.toExcCallFacts (k2 _ _ hD1) (k2 _ _ hx) rfl ?_)
  refine wpAny_bind (wpAny_pure (wpAny_pure ?_))
  refine ⟨plainId_quiet F.excBase_ValueError.init.plain _, codeAny_builtin F.excBase_ValueError.initEntry ?_⟩
  refine exc_init_tree (cls := .ref C) (t0 := t0) (dv := none) (c2 := .none) (c3 := .none) (b4 := .bool false) (k2 _ _ hx) (by first | (rw [sizeLine_eq]; decide) | (simp; rw [sizeLine_eq]; decide)) fun h3 k3 e3 t3 => ?_
  exact hq h3 _ _ (fun b o hb e => k3 b o hb (k2 b o e)) e3
theorem ex1_init (T : Ex1Txt K mg prog C fI qual fld msg) {x t0 : Addr} {v : Value} (X : K.In s.heap) (hg : s.heap.Ns mainGlobals mg) (hb : s.heap.Ns builtinsNs mb) (hmb : mb "super" = bootBuiltins "super") (hlim : s.heap.NoLimit) (hx : s.heap.get? x = some (excO C t0)) (hnx : K.lookup x = none) (hroom : A.depth < recursionLimit)
    (hq : ∀ h' tk dx t1, InitEnd s.heap h' x C dx t1 (fun y => if y = fld then some v else none) → R (.ok (.ret .none)) { s with heap := h', toks := tk }) :
    codeAny (model prog w) A (.call (.ref fI) ⟨[.ref x, v], []⟩) R s := by
  obtain ⟨oc, od, doc, pm, an, cda, cc, ct, osl, p1, p2, a1, a2, a3, a4, a5, a6, b1, b2, b3, b4, j, ccl, cdd, vs, ccs, file, tf, cl, cld, csl, ho, hcd, hcode, hvs, hfile, hcell, hbind, hstar, pl, hcall⟩ := T.fn
  obtain ⟨nm, qn, N, bs, bm, sn, sub, ab, col, dd, k0, k1, k2, k3, k5, hC, hbm⟩ := T.cls
  have hcl : clsIn K C = some { name := nm, bases := bs, mro := .ref C :: bm, ns := N, qualname := qn, hasDict := true, slotNames := sn, subclasses := sub, abstract := ab, collection := col, hasDel := false } := by unfold clsIn; rw [hC] <;> rfl
  refine ks_codeAny_call_defAt (fd := ksFn "__init__" qual (eA1 fld p1 p2) [supS msg a1 a2 a3 a4 a5 a6 j, asgS fld b1 b2 b3 b4] (eS1 fld) .none .none doc pm an (.ref cda) ct cc) (body := [supS msg a1 a2 a3 a4 a5 a6 j, asgS fld b1 b2 b3 b4]) (binds := [("self", .ref x), (fld, v)])
    hroom (X _ _ ho) rfl hlim (codeRec_of X hcd) rfl (hbind s _ v) T.fl.c (fun y hy => ?_) (fun h₁ hns hk₁ => ?_) rfl rfl rfl
  · rcases List.mem_cons.mp hy with rfl | hy
    · exact T.fl.l1
    · rw [List.mem_singleton.mp hy]; exact T.fl.l2
  have X₁ : K.In h₁ := X.keeps hk₁
  have hx₁ := hk₁ _ _ hx
  refine ks_wpAt_execs_cons ?_
  refine sup_stmt (s := ⟨h₁, s.gens, s.drawn, _, s.os⟩) (t0 := t0) (q := qual) (scope := eS1 fld) (L := s.heap.objs.size) (ar := { arg := "self", annotation := none, pos := p1 }) (fd := ksFn "__init__" qual (eA1 fld p1 p2) [supS msg a1 a2 a3 a4 a5 a6 j, asgS fld b1 b2 b3 b4] (eS1 fld) .none .none doc pm an (.ref cda) ct cc)
    T.toClsTxt X₁ (hg.keeps hk₁) (hb.keeps hk₁) hmb hx₁ hns (T.fl.m1 _ _) ho rfl hcode hvs hfile hcell T.fl.l3 T.fl.l4 T.fl.l1 rfl (hcall _) hstar fun h₂ tk₂ t1 k₂ hx₂ => ?_
  have hxL : s.heap.objs.size ≠ x := Nat.ne_of_gt (Heap.lt_size hx)
  have X₂ : K.In h₂ := fun a o e => k₂ a o (fun z => by rw [z, hnx] at e; cases e) (X₁ a o e)
  have hn₂ : h₂.Ns s.heap.objs.size (fun y => [(("self" : Str), Value.ref x), (fld, v)].reverse.lookup y) := by
    obtain ⟨oL, es, ep, hL, r⟩ := hns
    exact ⟨oL, es, ep, k₂ _ _ hxL hL, r⟩
  refine wpAt_of_wpAny ?_
  refine wpAny_execs_cons (plainObj_wpAny_Assign_Attribute ?_)
  refine ldC (v := v) hn₂ (T.fl.m2 _ _) rfl T.fl.l2 T.fl.d (ldC (v := .ref x) hn₂ (T.fl.m1 _ _) rfl T.fl.l1 (by decide) ?_)
  refine set_plain X₂ (ox := excO C t1) (od := none) ⟨hx₂, rfl, rfl, trivial⟩ T.sa ?_
  refine exc_osa X₂ hx₂ hcl (show refsVE (.ref C :: bm) = true from hbm) rfl T.noN (fun h₃ tk₃ dx k₃ dn dne hx₃ hn₃ => ?_)
  show wpAny _ _ (execs _ _) _ _ _
  exact wpAny_execs_nil (hq h₃ tk₃ dx t1 ⟨fun b o hb e => k₃ b o hb (k₂ b o hb (hk₁ b o e)), hx₃, Nat.le_of_lt (Nat.lt_of_lt_of_le hn₂.lt dn), dne, hn₃⟩)
/-- a made error -/
structure OwnMade (h h' : Heap) (e C d : Addr) (ns : Str → Option Value) : Prop where
  keep : ∀ b o, h.get? b = some o → h'.get? b = some o
  new : h.objs.size ≤ e
  obj : ∃ oe vs, h'.get? e = some oe ∧ oe.cls = .ref C ∧ oe.dict = some d ∧ oe.data = .fields vs ∧ vs[1]? = some .none
  dbig : h.objs.size ≤ d
  dne : d ≠ e
  ns : h'.Ns1 d ns
theorem made_of (T : ClsTxt K mg prog C fI) {rest : List Value} {ns : Str → Option Value} (X : K.In s.heap) (hz : rest.length ≤ sizeLine)
    (hin : ∀ (h₁ : Heap) (A₁ : Around) (R₁ : Result → Shared → Prop), A₁.depth ≤ A.depth + 1 → (∀ b o, s.heap.get? b = some o → h₁.get? b = some o) → h₁.get? (s.heap.objs.size + 1) = some (excO C s.heap.objs.size) → K.lookup (s.heap.objs.size + 1) = none →
      (∀ h' tk dx t1, InitEnd h₁ h' (s.heap.objs.size + 1) C dx t1 ns → h₁.objs.size = s.heap.objs.size + 2 → R₁ (.ok (.ret .none)) { s with heap := h', toks := tk }) → h₁.objs.size = s.heap.objs.size + 2 → codeAny (model prog w) A₁ (.call (.ref fI) ⟨.ref (s.heap.objs.size + 1) :: rest, []⟩) R₁ { s with heap := h₁ })
    (hq : ∀ h' tk e d, OwnMade s.heap h' e C d ns → R (.ok (.ret (.ref e))) { s with heap := h', toks := tk }) :
    codeAny (model prog w) A (.call (.ref C) ⟨rest, []⟩) R s := by
  obtain ⟨nm, q, N, bs, bm, sn, sub, ab, col, dd, k0, k1, k2, k3, k5, hC, hbm⟩ := T.cls
  obtain ⟨hp, g, dr, tk, os⟩ := s
  have k : ∀ b o, hp.get? b = some o → ((hp.push (kdv_tup rest)).push (excO C hp.objs.size)).get? b = some o := fun b o e => Heap.get?_push_of_some _ (Heap.get?_push_of_some _ e)
  have hget : ((hp.push (kdv_tup rest)).push (excO C hp.objs.size)).get? (hp.objs.size + 1) = some (excO C hp.objs.size) := by heap_get
  have hsz : ((hp.push (kdv_tup rest)).push (excO C hp.objs.size)).objs.size = hp.objs.size + 2 := by rw [Heap.size_push, Heap.size_push]
  have hnx : K.lookup (hp.objs.size + 1) = none := by
    cases e : K.lookup (hp.objs.size + 1) with
    | none => rfl
    | some o =>
      have z : hp.get? (hp.objs.size + 1) = some o := X _ _ e
      exact absurd (Nat.lt_of_succ_lt (Heap.lt_size z)) (Nat.lt_irrefl _)
  refine call_own F.excBase_ValueError (fun X => refsVE_contains X bm hbm) (X _ _ hC) (looks_findIn X T.iC) (fun self => bind_fn X self T.tC) hz ?_
  refine hin _ _ _ (Nat.le_refl _) k hget hnx (fun h' tk' dx t1 M _ => ?_) hsz
  have old : ∀ b o, hp.get? b = some o → h'.get? b = some o := fun b o e => M.keep b o (Nat.ne_of_lt (Nat.lt_succ_of_lt (Heap.lt_size e))) (k b o e)
  have dn := M.dbig
  rw [hsz] at dn
  exact ⟨rfl, hq h' tk' (hp.objs.size + 1) dx ⟨old, Nat.le_succ _, ⟨_, _, M.obj, rfl, rfl, rfl, rfl⟩, by show hp.objs.size ≤ dx; omega, M.dne, M.ns⟩⟩
theorem ex1_made (T : Ex1Txt K mg prog C fI qual fld msg) {v : Value} (X : K.In s.heap) (hg : s.heap.Ns mainGlobals mg) (hb : s.heap.Ns builtinsNs mb) (hmb : mb "super" = bootBuiltins "super") (hlim : s.heap.NoLimit) (hroom : A.depth + 1 < recursionLimit)
    (hq : ∀ h' tk e d, OwnMade s.heap h' e C d (fun y => if y = fld then some v else none) → R (.ok (.ret (.ref e))) { s with heap := h', toks := tk }) :
    codeAny (model prog w) A (.call (.ref C) ⟨[v], []⟩) R s :=
  made_of T.toClsTxt X (by rw [sizeLine_eq]; exact (by decide : 1 ≤ 16777216)) (fun h₁ A₁ R₁ hA k hx hnx hR hsz => ex1_init (s := { s with heap := h₁ }) T (X.keeps k) (hg.keeps k) (hb.keeps k) hmb (hlim.keeps k) hx hnx (by omega) fun h' tk dx t1 M => hR h' tk dx t1 M hsz) hq
end
end ExF
end PySem
namespace L2
open PySem PySem.Spec PyProof.Rows
theorem relO_1 {fld : Str} {v : V} {v' : Value} (r : RelV v v') (f : Str) : RelO (List.lookup f [(fld, v)]) (if f = fld then some v' else none) := by
  by_cases hw : f = fld
  · subst hw
    rw [if_pos rfl]
    have q : List.lookup f [(f, v)] = some v := by simp [List.lookup]
    rw [q]
    exact r
  · rw [if_neg hw]
    have qw : (f == fld) = false := by simpa using hw
    have q2 : List.lookup f [(fld, v)] = none := by simp [List.lookup, qw]
    rw [q2]
    trivial
section
variable {X : Cx} {C fI : Addr} {qual fld msg x : Str}
/-- a made error, as the layer sees it -/
theorem mkP_of {pins : List (Addr × Obj)} {σ : St} {H1 : Hp} {hp : Heap} {g : Array GenState} {dr : Drawn} {tk : Nat} {os : OsState} {Q : XK} (I1 : Inv X pins σ H1 ⟨hp, g, dr, tk, os⟩) (T : Raises X (.ref C)) {h' : Heap} {tk' : Nat} {e d : Addr} {ns : Str → Option Value} {fs : List (Str × V)}
    (M : PySem.ExF.OwnMade hp h' e C d ns) (r : ∀ f, RelO (fs.lookup f) (ns f)) (q1 : ∀ d, H1 d = none → Q (.ref C) (some d) (upd H1 d (.xd fs))) : MkP X pins σ Q (.ref e) ⟨h', g, dr, tk', os⟩ := by
  obtain ⟨oe, fv, hoe, hc, hd, hdat, h1⟩ := M.obj
  have hns := M.ns
  obtain ⟨G', g1, g2⟩ := restrict h' fun b => decide (b ≠ e)
  have gk : ∀ b, b ≠ e → G'.get? b = h'.get? b := fun b hb => g1 b (decide_eq_true hb)
  have ge : G'.get? e = none := g2 e (by simp)
  have old : ∀ b o, hp.get? b = some o → G'.get? b = some o := fun b o q => (gk b (Nat.ne_of_lt (Nat.lt_of_lt_of_le (Heap.lt_size q) M.new))).trans (M.keep b o q)
  have ob : ObjOk X.prog X.w (upd H1 d (.xd fs)) G' d (.xd fs) := ⟨_, hns.at (fun o q => (gk d M.dne).trans q), r⟩
  have J : Inv X pins σ (upd H1 d (.xd fs)) ⟨G', g, dr, tk', os⟩ := I1.laid (t' := tk') old M.dbig ob
  refine ⟨e, oe, fv, ⟨G', g, dr, tk', os⟩, _, .ref C, some d, rfl, J, fun b o q => ?_, ge, hoe, ⟨hc, hd⟩, hdat, h1, ?_, rfl, I1.bare, T, q1 d (I1.hok.fresh M.dbig)⟩
  · by_cases hb : b = e
    · have q' : G'.get? b = some o := q
      rw [hb, ge] at q'; cases q'
    · exact (gk b hb).symm.trans q
  · rw [upd_ne (Ne.symm M.dne)]
    exact I1.hok.fresh M.new
def tMk1 (C : Addr) (fld : Str) (ta : TA) : St → Hp → XK → Prop := fun σ H Q => ta σ H fun vs H1 => ∃ v, vs = [v] ∧ ∀ d, H1 d = none → Q (.ref C) (some d) (upd H1 d (.xd [(fld, v)]))
theorem pmk_1 {a : Expr} {ta : TA} {p pos : Pos} {k : Nat} (T : PySem.ExF.Ex1Txt X.K X.mg X.prog C fI qual fld msg) (gC : X.mg x = some (.ref C)) (hr : Room k X.A) (ha : PA X [a] ta) (hg : Gl X x) (hdb : (x == ("__debug__" : Str)) = false := by decide)
    (he : starEach (a :: []) X.env = (false, eval a X.env) :: starEach [] X.env := by rfl) (hpl : (backTo pos (starEach [] X.env)).any (·.1) = false := by rfl) :
    PMk X (.Call (.Name x p) [a] [] pos) (tMk1 C fld ta) := by
  intro pins s σ H Q I h
  refine wpAny_Call_Name_kw (ld_glob I hg gC ?_ hdb)
  refine PySem.W.callWith_K (h₀ := X.base) I.ok.mod.kin T.kC (thn (ha.run pos pins s σ H _ I h) fun us s1 hh => ?_) he hpl
  obtain ⟨vs, H1, I1, r1, v, ev, q1⟩ := hh
  subst ev
  refine ⟨I1.kIn, ?_⟩
  cases r1 with
  | cons rv rn =>
    rename_i v' us'
    cases rn
    show wpAny _ _ (call (.ref C) [v']) _ _ _
    have hlim := I1.nolimit
    have hgl := I1.mod.glob.keeps I1.bk
    obtain ⟨mb, hb1, hb2⟩ := I1.mod.blt
    have hbl := hb1.keeps I1.bk
    obtain ⟨hp, g, dr, tk, os⟩ := s1
    exact wpAny_call (PySem.ExF.ex1_made T I1.kIn hgl hbl (hb2 _ (by decide)) hlim (by have := hr.dp; omega) fun h' tk' e d M => mkP_of I1 (raises_own T.exC T.tyC) M (relO_1 rv) q1)
end
end L2

set_option Elab.async false
set_option linter.all false
set_option maxRecDepth 100000
set_option maxHeartbeats 4000000
namespace Mz
open PySem PySem.Spec PyProof.Rows L2
/-! ## 35. raise X(e), try .. except X as n -/
def mRaise1 (c : Nat) (f : Str) (a : ME) : MS := fun env st => ofR env (a env st) fun x st1 => match x with
  | .v w => .ex c [f] [w] env st1
  | _ => .bad
section
variable {X : Cx} {cl : Nat → Addr} {Wx : WX} {x : Str} {pos pos' p p2 np : Pos} {e : Expr} {me : ME}
theorem is_raise1 {c k : Nat} {fI : Addr} {qual fld msg : Str} (T : PySem.ExF.Ex1Txt X.K X.mg X.prog (cl c) fI qual fld msg) (gC : X.mg x = some (.ref (cl c))) (hr : Room k X.A) (he : IE X cl Wx e me) (hg : Gl X x) (hc : X.calm = true) (tk : Takes X Wx) (hdb : (x == ("__debug__" : Str)) = false := by decide)
    (hs : starEach (e :: []) X.env = (false, eval e X.env) :: starEach [] X.env := by rfl) (hpl : (backTo pos (starEach [] X.env)).any (·.1) = false := by rfl) :
    IS X cl Wx (.Raise (some (.Call (.Name x p) [e] [] pos)) none pos') (mRaise1 c fld me) :=
  ps_weak (ps_raise hc tk (pmk_1 T gC hr (pa_cons he pa_nil hs) hg hdb hs hpl)) fun D σ H ⟨env, ρ, G, st, rel, er, h⟩ => by
    refine ⟨env, ρ, G, st, rel, er, PostS.ofR (R := Mz.SlR ⟨X.K, cl⟩) er h fun y st1 ρ1 G1 H1 u f1 r1 s1 p1 => ?_⟩
    split at p1
    · rename_i w
      refine ⟨u, rfl, fun d hd => ?_⟩
      obtain ⟨f2, r2⟩ := r1.newG (o := .xd [(fld, u)]) hd
      exact p1 _ _ _ σ (some d) f2 r2 ((er.mono f1).mono f2) (.inr ⟨d, [u], rfl, upd_same, rfl, Reps.cons (Rep.mono f2.ex _ _ s1) Reps.nil⟩)
    · exact p1.elim
end
/-! ### what the suite knows: slot i holds the error at a -/
structure Gd (T : Tx) (cs : List (Nat × Bool)) (i : Nat) (a : Addr) (cls : Value) (d : Option Addr) (σ : L2.St) (G : Hp) (c : Nat) (ns : List Str) (ws : List W) : Prop where
  sl : σ[i]? = some (some (.ref a))
  cl : cls = .ref (T.cl c)
  lk : cs.lookup c = some true
  ex : ExR T G ns ws d
theorem ExR.mono {T : Tx} {G G' : Hp} {ns : List Str} {ws : List W} {d : Option Addr} (e : ∀ a o, G a = some o → G' a = some o) (h : ExR T G ns ws d) : ExR T G' ns ws d := by
  rcases h with h | ⟨dd, vs, h1, h2, h3, h4⟩
  · exact .inl h
  · exact .inr ⟨dd, vs, h1, e _ _ h2, h3, Reps.mono e _ _ h4⟩
theorem Gd.mono {T : Tx} {cs : List (Nat × Bool)} {i : Nat} {a : Addr} {cls : Value} {d : Option Addr} {σ : L2.St} {G G' : Hp} {c : Nat} {ns : List Str} {ws : List W} (e : ∀ a o, G a = some o → G' a = some o) (g : Gd T cs i a cls d σ G c ns ws) : Gd T cs i a cls d σ G' c ns ws := ⟨g.sl, g.cl, g.lk, g.ex.mono e⟩
abbrev XE1 := Nat → List Str → List W → ME
abbrev XA1 := Nat → List Str → List W → MA
abbrev XS1 := Nat → List Str → List W → MS
def tX (T : Tx) (Wx : WX) (cs : List (Nat × Bool)) (i : Nat) (a : Addr) (cls : Value) (d : Option Addr) (m : XE1) : TE := fun σ H Q => ∃ c ns ws env ρ G st, Gd T cs i a cls d σ G c ns ws ∧ Rel T ρ G H st ∧ EnvR T ρ G env σ ∧ PostR T ρ G (Mz.SlR T) (m c ns ws env st) Q fun c d H' => Wx c d σ H'
def tXL (T : Tx) (Wx : WX) (cs : List (Nat × Bool)) (i : Nat) (a : Addr) (cls : Value) (d : Option Addr) (m : XA1) : TA := fun σ H Q => ∃ c ns ws env ρ G st, Gd T cs i a cls d σ G c ns ws ∧ Rel T ρ G H st ∧ EnvR T ρ G env σ ∧ PostR T ρ G (SlRs T) (m c ns ws env st) Q fun c d H' => Wx c d σ H'
/-- the slot stays -/
def keepI (i : Nat) (a : Addr) (D : Ends) : Ends := ⟨fun σ' H' => σ'[i]? = some (some (.ref a)) → D.nx σ' H', D.rt, fun σ' H' => D.bk σ' H', fun σ' H' => D.ct σ' H'⟩
def tXS (T : Tx) (Wx : WX) (cs : List (Nat × Bool)) (i : Nat) (a : Addr) (cls : Value) (d : Option Addr) (m : XS1) : TS := fun D σ H => ∃ c ns ws env ρ G st, Gd T cs i a cls d σ G c ns ws ∧ Rel T ρ G H st ∧ EnvR T ρ G env σ ∧ PostS T ρ G (m c ns ws env st) (keepI i a D) Wx
/-- what the class of an error must have -/
structure XcF (K : PySem.W.Frag) (C : Addr) : Prop where
  xf : XfC K C
  cs : (PySem.W.clsIn K C).isSome = true
  ha : PySem.W.findIn K (.ref C) "__class__" = some (some (.builtin "object.__class__"))
  hn : PySem.W.specialIn K (.builtin "object.__class__") "__get__" = some (some (.builtin "getset_descriptor.__get__"))
  ht : PySem.W.takesIn K (.builtin "object.__class__") = some true
  hm : PySem.W.mroIn K C (.type "object") = some true
def mXf (f : Str) : XE1 := fun _ ns ws _ st => match (ns.zip ws).lookup f with
  | some w => .ok (.v w) st
  | none => .bad
def mXis (tab : List (Nat × Bool)) : XE1 := fun c _ _ _ st => match tab.lookup c with
  | some b => .ok (.v (.bl b)) st
  | none => .bad
section
variable {X : Cx} {cl : Nat → Addr} {Wx : WX} {cs : List (Nat × Bool)} {i : Nat} {a : Addr} {oe : Obj} {cls : Value} {d : Option Addr} {pn : List (Addr × Obj)} {e b : Expr} {es : List Expr} {pos pos' p p2 : Pos} {x y f : Str}
abbrev XIE (X : Cx) (cl : Nat → Addr) (Wx : WX) (cs : List (Nat × Bool)) (i : Nat) (a : Addr) (oe : Obj) (cls : Value) (d : Option Addr) (pn : List (Addr × Obj)) (e : Expr) (m : XE1) : Prop := PE (X.suite a ((a, oe) :: pn)) e (tX ⟨X.K, cl⟩ Wx cs i a cls d m)
abbrev XIA (X : Cx) (cl : Nat → Addr) (Wx : WX) (cs : List (Nat × Bool)) (i : Nat) (a : Addr) (oe : Obj) (cls : Value) (d : Option Addr) (pn : List (Addr × Obj)) (e : List Expr) (m : XA1) : Prop := PA (X.suite a ((a, oe) :: pn)) e (tXL ⟨X.K, cl⟩ Wx cs i a cls d m)
abbrev XIS (X : Cx) (cl : Nat → Addr) (Wx : WX) (cs : List (Nat × Bool)) (i : Nat) (a : Addr) (oe : Obj) (cls : Value) (d : Option Addr) (pn : List (Addr × Obj)) (s : Stmt) (m : XS1) : Prop := PS (X.suite a ((a, oe) :: pn)) s (tXS ⟨X.K, cl⟩ Wx cs i a cls d m)
abbrev XISs (X : Cx) (cl : Nat → Addr) (Wx : WX) (cs : List (Nat × Bool)) (i : Nat) (a : Addr) (oe : Obj) (cls : Value) (d : Option Addr) (pn : List (Addr × Obj)) (s : List Stmt) (m : XS1) : Prop := PSs (X.suite a ((a, oe) :: pn)) s (tXS ⟨X.K, cl⟩ Wx cs i a cls d m)
theorem x_w {m : ME} (h : IE (X.suite a ((a, oe) :: pn)) cl Wx e m) : XIE X cl Wx cs i a oe cls d pn e (fun _ _ _ => m) :=
  pe_weak h fun σ H Q ⟨c, ns, ws, env, ρ, G, st, g, rel, er, p⟩ => ⟨env, ρ, G, st, rel, er, p⟩
theorem x_fld (hx : ∀ c b, cs.lookup c = some b → b = true → XfC X.K (cl c) ∧ PySem.W.findIn X.K (.ref (cl c)) f = some none) (hz : Zc cls d oe) (hf : ∃ vs, oe.data = .fields vs) (hN : X.N[i]? = some x) (hv : Vis X.env.scope x) (hd : (x == ("__debug__" : Str)) = false := by decide) (hcd : (x == ("__classdict__" : Str)) = false := by decide)
    (hb : attributeBase (.Name x p) f X.env (eval (.Name x p) X.env) = eval (.Name x p) X.env := by rfl) : XIE X cl Wx cs i a oe cls d pn (.Attribute (.Name x p) f pos) (mXf f) := by
  refine ⟨fun pins s σ H Q I h => ?_⟩
  obtain ⟨c, ns, ws, env, ρ, G, st, g, rel, er, q⟩ := h
  obtain ⟨t1, t2⟩ := hx c true g.lk rfl
  have hcl := g.cl
  subst hcl
  refine (pe_xf (X := X) (te := tVar i) (e := .Name x p) t1 t2 hz hf (pe_var (X := X.suite a ((a, oe) :: pn)) hN hv hd hcd) hb).run pins s σ H Q I ?_
  unfold mXf at q
  split at q
  · rename_i w hw
    rcases g.ex with ⟨rfl, rfl, _⟩ | ⟨dd, vs, rfl, h2, h3, h4⟩
    · cases hw
    · obtain ⟨v, hv2, rv⟩ := look_reps h4 hw
      exact ⟨_, g.sl, rfl, rfl, dd, _, v, rfl, rel.ext _ _ h2, hv2, q.give rel rv⟩
  · exact q.elim
/-- isinstance(e, C), as a call -/
theorem call_isX {C : Addr} (T : XcF X.K C) (hz : Zc (.ref C) d oe) (hf : ∃ vs, oe.data = .fields vs) {pins : List (Addr × Obj)} {s : Shared} {σ : L2.St} {H : Hp} {Q : VK} {cv : Value} {r : Bool} (I : Inv (X.suite a ((a, oe) :: pn)) pins σ H s)
    (hd : ∀ dd, d = some dd → ∃ fs, H dd = some (.xd fs)) (e : PySem.W.kitOne X.K (.ref C) cv = some r) (q : Q (.bl r) H) : wpAny (model X.prog X.w) (X.suite a ((a, oe) :: pn)).A (call (.builtin "isinstance") [.ref a, cv]) (EP (X.suite a ((a, oe) :: pn)) pins σ Q) (X.suite a ((a, oe) :: pn)).xe s := by
  obtain ⟨hget, _⟩ := I.pin (a, oe) (List.mem_append.mpr (.inl List.mem_cons_self))
  obtain ⟨vs, hv⟩ := hf
  obtain ⟨od, J⟩ : ∃ od, PySem.W.InstAt s.heap a oe C od := by
    obtain ⟨oc, odd, oda, osl⟩ := oe
    obtain ⟨h1, h2⟩ := hz
    dsimp only at h1 h2 hv
    subst h1 h2 hv
    cases odd with
    | none => exact ⟨none, hget, rfl, rfl, trivial⟩
    | some dd =>
      obtain ⟨fs, hdd⟩ := hd dd rfl
      obtain ⟨mA, hns, _⟩ := (show ObjOk X.prog X.w H s.heap dd (.xd fs) from I.hok dd _ hdd)
      obtain ⟨ob, ho, _⟩ := lookIn_ns hns
      exact ⟨some ob, hget, rfl, rfl, ho⟩
  exact PySem.W.kia_one (PySem.W.kitx_exc T.cs T.xf.ga T.xf.gg T.xf.exC T.ha T.hn T.ht T.hm) I.kIn J e (fun z => nomatch z) fun tk => ⟨.bl r, H, I.kept (t' := tk) fun _ _ z => z, rfl, q⟩
theorem x_is {tab : List (Nat × Bool)} {v : V} {u : Value} (hx : ∀ c b, tab.lookup c = some b → XcF X.K (cl c) ∧ PySem.W.kitOne X.K (.ref (cl c)) u = some b) (hz : Zc cls d oe) (hf : ∃ vs, oe.data = .fields vs) (hN : X.N[i]? = some x) (hv : Vis X.env.scope x)
    (he : PE (X.suite a ((a, oe) :: pn)) e (tC v)) (hu : ∀ u', L2.RelV v u' → u' = u) (hg : Gl X "isinstance") (hm : X.mg "isinstance" = none) (hd : (x == ("__debug__" : Str)) = false := by decide) (hcd : (x == ("__classdict__" : Str)) = false := by decide)
    (hs : starEach (.Name x p :: [e]) X.env = (false, eval (.Name x p) X.env) :: starEach [e] X.env := by rfl) (hs2 : starEach (e :: []) X.env = (false, eval e X.env) :: starEach [] X.env := by rfl) (hpl : (backTo pos (starEach [e] X.env)).any (·.1) = false := by rfl) :
    XIE X cl Wx cs i a oe cls d pn (.Call (.Name "isinstance" p2) [.Name x p, e] [] pos) (mXis tab) := by
  refine ⟨fun pins s σ H Q I h => ?_⟩
  obtain ⟨c, ns, ws, env, ρ, G, st, g, rel, er, q⟩ := h
  unfold mXis at q
  split at q
  · rename_i r hr
    obtain ⟨t1, t2⟩ := hx c r hr
    have hcl := g.cl
    subst hcl
    refine wpAny_Call_Name_kw (ld_blt I hg hm PyProof.Rows.boot_isinstance ?_ (by decide) (by decide))
    refine PyProof.Rows.callWith_builtin1 (thn ((pa_cons (pe_var (X := X.suite a ((a, oe) :: pn)) hN hv hd hcd) (pa_cons he pa_nil hs2) hs).run pos pins s σ H (fun vs H1 => vs = [.ref a, v] ∧ H1 = H) I ?_) fun us s1 ⟨vs, H1, I1, rv, ev, eH⟩ => ?_) hs hpl
    · exact ⟨_, g.sl, rfl, rfl⟩
    · subst ev eH
      obtain ⟨u1, u2, rfl, r1, r2⟩ := vals2 rv
      cases r1
      have := hu _ r2
      subst this
      refine call_isX t1 hz hf I1 (fun dd e => ?_) t2 (q.give rel (show Mz.SlR ⟨X.K, cl⟩ ρ G (.v (.bl r)) (.bl r) from (rep_bl : Rep ⟨X.K, cl⟩ G _ _)))
      rcases g.ex with ⟨_, _, h⟩ | ⟨dd', vs, h, h2, _⟩
      · rw [h] at e; cases e
      · rw [h] at e; cases e; exact ⟨_, rel.ext _ _ h2⟩
  · exact q.elim
end
section
variable {X : Cx} {cl : Nat → Addr} {Wx : WX} {cs : List (Nat × Bool)} {i : Nat} {a : Addr} {oe : Obj} {cls : Value} {d : Option Addr} {pn : List (Addr × Obj)} {e b : Expr} {es rest : List Expr} {pos pos' p p2 : Pos} {x y f : Str} {m ma mb : XE1} {mr : XA1}
theorem x_one {op : PySem.BoolOp} (h : XIE X cl Wx cs i a oe cls d pn e m) : XIE X cl Wx cs i a oe cls d pn (.BoolOp op [e] pos) m := pe_one h
theorem x_and (ha : XIE X cl Wx cs i a oe cls d pn e ma) (hb : XIE X cl Wx cs i a oe cls d pn (.BoolOp .And (b :: rest) pos) mb) : XIE X cl Wx cs i a oe cls d pn (.BoolOp .And (e :: b :: rest) pos) (fun c ns ws => mAndV (ma c ns ws) (mb c ns ws)) :=
  pe_weak (pe_and ha hb) fun σ H Q ⟨c, ns, ws, env, ρ, G, st, g, rel, er, p⟩ => ⟨c, ns, ws, env, ρ, G, st, g, rel, er, p.bind fun x st1 ρ1 G1 H1 u f1 r1 s1 p1 => by
    obtain ⟨k, h1, h2⟩ := PostR.tru p1 s1
    refine ⟨k, h1, ?_⟩
    cases k with
    | true => exact ⟨c, ns, ws, env, ρ1, G1, st1, g.mono f1.ex, r1, er.mono f1, h2⟩
    | false => exact PostR.give h2 r1 (show Mz.SlR ⟨X.K, cl⟩ ρ1 G1 (.v (.bl false)) (.bl false) from (rep_bl : Rep ⟨X.K, cl⟩ G1 _ _))⟩
theorem x_not (ha : XIE X cl Wx cs i a oe cls d pn e ma) : XIE X cl Wx cs i a oe cls d pn (.UnaryOp .Not e pos) (fun c ns ws => mNotV (ma c ns ws)) :=
  pe_weak (pe_not ha) fun σ H Q ⟨c, ns, ws, env, ρ, G, st, g, rel, er, p⟩ => ⟨c, ns, ws, env, ρ, G, st, g, rel, er, p.bind fun x st1 ρ1 G1 H1 u f1 r1 s1 p1 => by
    obtain ⟨k, h1, h2⟩ := PostR.tru p1 s1
    exact ⟨k, h1, PostR.give h2 r1 (show Mz.SlR ⟨X.K, cl⟩ ρ1 G1 (.v (.bl (!k))) (.bl (!k)) from (rep_bl : Rep ⟨X.K, cl⟩ G1 _ _))⟩⟩
theorem x_cmp {op : CmpOp} {r : R2} {g : Sl → Sl → Store → Res Sl} (ho : OpR (X.suite a ((a, oe) :: pn)) (compareOp op) r) (hs : OpS ⟨X.K, cl⟩ r g) (ha : XIE X cl Wx cs i a oe cls d pn e ma) (hb : XIE X cl Wx cs i a oe cls d pn b mb) (hm : behindInMarks op b = false) :
    XIE X cl Wx cs i a oe cls d pn (.Compare e [op] [b] pos) (fun c ns ws => mOp g (ma c ns ws) (mb c ns ws)) :=
  pe_weak (pe_cmpR ho ha hb hm) fun σ H Q ⟨c, ns, ws, env, ρ, G, st, gd, rel, er, p⟩ => ⟨c, ns, ws, env, ρ, G, st, gd, rel, er, p.bind fun x st1 ρ1 G1 H1 u f1 r1 s1 p1 => ⟨c, ns, ws, env, ρ1, G1, st1, gd.mono f1.ex, r1, er.mono f1, p1.bind fun y st2 ρ2 G2 H2 v f2 r2 s2 p2 => hs ρ2 G2 H2 st2 x y u v Q _ r2 (s1.mono f2) s2 p2⟩⟩
theorem x_nil : XIA X cl Wx cs i a oe cls d pn [] (fun _ _ _ => mNil) := pa_weak pa_nil fun σ H Q ⟨c, ns, ws, env, ρ, G, st, g, rel, er, p⟩ => p.give rel (by rfl)
theorem x_cons (ha : XIE X cl Wx cs i a oe cls d pn e ma) (hr : XIA X cl Wx cs i a oe cls d pn es mr) (hs : starEach (e :: es) X.env = (false, eval e X.env) :: starEach es X.env := by rfl) : XIA X cl Wx cs i a oe cls d pn (e :: es) (fun c ns ws => mCons (ma c ns ws) (mr c ns ws)) :=
  pa_weak (pa_cons ha hr hs) fun σ H Q ⟨c, ns, ws, env, ρ, G, st, g, rel, er, p⟩ => ⟨c, ns, ws, env, ρ, G, st, g, rel, er, p.bind fun x st1 ρ1 G1 H1 u f1 r1 s1 p1 => ⟨c, ns, ws, env, ρ1, G1, st1, g.mono f1.ex, r1, er.mono f1, PostR.bind (R1 := SlRs ⟨X.K, cl⟩) p1 fun xs st2 ρ2 G2 H2 us f2 r2 s2 p2 =>
    p2.give r2 ⟨u, us, rfl, s1.mono f2, s2⟩⟩⟩
theorem x_tup {x1} (h : XIA X cl Wx cs i a oe cls d pn es mr) : XIE X cl Wx cs i a oe cls d pn (.Tuple es x1 pos) (fun c ns ws => mTup (mr c ns ws)) :=
  pe_weak (pe_tup h) fun σ H Q ⟨c, ns, ws, env, ρ, G, st, g, rel, er, p⟩ => ⟨c, ns, ws, env, ρ, G, st, g, rel, er, PostR.bind (R1 := SlRs ⟨X.K, cl⟩) p fun xs st1 ρ1 G1 H1 us f1 r1 s1 p1 => by
    split at p1
    · rename_i wl e
      split at p1
      · rename_i hb
        have hr := vals_reps e s1
        refine ⟨by rw [big_line, ← hr.length]; exact hb, fun q hq => ?_⟩
        obtain ⟨f2, r2⟩ := r1.newG (o := .tup us) hq
        exact p1 _ _ _ _ f2 r2 (by unfold Mz.SlR Rep; exact ⟨q, us, rfl, SqT.of upd_same, Reps.mono f2.ex _ _ hr⟩)
      · exact p1.elim
    · exact p1.elim⟩
theorem x_lst (h : XIA X cl Wx cs i a oe cls d pn es mr) : XIE X cl Wx cs i a oe cls d pn (.List es pos) (fun c ns ws => mLst (mr c ns ws)) :=
  pe_weak (pe_lst h) fun σ H Q ⟨c, ns, ws, env, ρ, G, st, g, rel, er, p⟩ => ⟨c, ns, ws, env, ρ, G, st, g, rel, er, PostR.bind (R1 := SlRs ⟨X.K, cl⟩) p fun xs st1 ρ1 G1 H1 us f1 r1 s1 p1 => by
    split at p1
    · rename_i wl e
      split at p1
      · rename_i hb
        have hr := vals_reps e s1
        refine ⟨by rw [big_line, ← hr.length]; exact hb, fun q hq => ?_⟩
        obtain ⟨f2, r2⟩ := r1.newG (o := .lst us) hq
        exact p1 _ _ _ _ f2 r2 (by unfold Mz.SlR Rep; exact ⟨q, us, rfl, upd_same, Reps.mono f2.ex _ _ hr⟩)
      · exact p1.elim
    · exact p1.elim⟩
theorem x_asg (j : Nat) (hij : j ≠ i) {pos2 : Pos} (hN : X.N.Nodup) (he : XIE X cl Wx cs i a oe cls d pn e m) (hj : X.N[j]? = some y := by rfl) (hy : Loc X.env.scope y := by first | exact Or.inl rfl | exact Or.inr rfl) (hs : swapsWith e (some (.Name y pos2)) pos.line X.env = pure false := by rfl)
    (hf : X.fn y = true ∨ X.env.scope.names.lookup y = some .local := by first | exact .inl rfl | exact .inr rfl | assumption) : XIS X cl Wx cs i a oe cls d pn (.Assign [.Name y pos2] e pos) (fun c ns ws => mAsg j (m c ns ws)) :=
  ps_weak (ps_set (X := X.suite a ((a, oe) :: pn)) hN hj hy he hs hf) fun D σ H ⟨c, ns, ws, env, ρ, G, st, g, rel, er, p⟩ => ⟨c, ns, ws, env, ρ, G, st, g, rel, er, PostS.ofR (R := Mz.SlR ⟨X.K, cl⟩) er p fun x st1 ρ1 G1 H1 u f1 r1 s1 p1 =>
    PostS.nx p1 r1 ((er.mono f1).set j s1) (by rw [List.getElem?_set_ne hij]; exact g.sl)⟩
variable {s : Stmt} {ss : List Stmt} {ms mss : XS1}
theorem xs_one (h : XIS X cl Wx cs i a oe cls d pn s ms) : XISs X cl Wx cs i a oe cls d pn [s] ms := pss_one h
theorem xs_cons (h : XIS X cl Wx cs i a oe cls d pn s ms) (hs : XISs X cl Wx cs i a oe cls d pn ss mss) : XISs X cl Wx cs i a oe cls d pn (s :: ss) (fun c ns ws => mSeq (ms c ns ws) (mss c ns ws)) :=
  pss_weak (pss_cons h hs) fun D σ H ⟨c, ns, ws, env, ρ, G, st, g, rel, er, p⟩ => by
    refine ⟨c, ns, ws, env, ρ, G, st, g, rel, er, ?_⟩
    have p' : PostS ⟨X.K, cl⟩ ρ G (match ms c ns ws env st with | .nx env1 st1 => mss c ns ws env1 st1 | r => r) (keepI i a D) Wx := p
    exact PostS.seq (D := keepI i a D) (P := fun σ1 H1 => σ1[i]? = some (some (.ref a)) → tXS ⟨X.K, cl⟩ Wx cs i a cls d mss D σ1 H1) p' fun env1 st1 ρ1 G1 H1 σ1 f1 r1 e1 p1 hσ => ⟨c, ns, ws, env1, ρ1, G1, st1, ⟨hσ, g.cl, g.lk, g.ex.mono f1.ex⟩, r1, e1, p1⟩
end
/-- try: .. except X as n: suite (slot i) -/
def tryX (cs : List (Nat × Bool)) (i : Nat) (ms : XS1) : SR → SR
  | .ex c ns ws env st => match cs.lookup c with
    | some true => if i < env.length then (match ms c ns ws (env.set i none) st with
      | .nx env1 st1 => .nx (env1.set i none) st1
      | _ => .bad) else .bad
    | some false => .ex c ns ws env st
    | none => .bad
  | r => r
def mTryX (cs : List (Nat × Bool)) (i : Nat) (mb : MS) (ms : XS1) : MS := fun env st => tryX cs i ms (mb env st)
section
variable {X : Cx} {cl : Nat → Addr} {Wx : WX} {x n : Str} {pos pos' p p2 np : Pos} {mb : MS} {ms : XS1} {i : Nat}
theorem is_tryAs {k : Nat} {body suite : List Stmt} {b₀ : Stmt} (cs : List (Nat × Bool)) (hs : X.stack = X.env :: X.outer) (hf : X.env.frame = some X.env.locals) (hN : X.N.Nodup) (hi : X.N[i]? = some n) (hln : X.env.kindOf n = some .local) (hc : Names X x (.ref (cl k))) (tk : Takes X Wx)
    (hcs : ∀ c b, cs.lookup c = some b → PySem.W.exmOne X.K (.ref (cl c)) (.ref (cl k)) = some b)
    (hb : ∀ (W : WX) (pn : List (Addr × Obj)) (xe : Value → Shared → Prop), Takes (X.tr pn xe) W → PassesOwn (model X.prog X.w) X.A X.env xe → ISs (X.tr pn xe) cl W body mb)
    (hsu : ∀ (a : Addr) (oe : Obj) (cls : Value) (d : Option Addr) (pn : List (Addr × Obj)), Zc cls d oe → (∃ vs, oe.data = .fields vs) → XISs X cl Wx cs i a oe cls d pn (b₀ :: suite) ms) :
    IS X cl Wx (.Try body [.ExceptHandler (some (.Name x np)) (some n) (b₀ :: suite) pos'] [] [] pos) (mTryX cs i mb ms) := by
  have hil : ∀ {σ : L2.St} {pins : List (Addr × Obj)} {s : Shared} {H : Hp}, Inv X pins σ H s → i < σ.length := fun I => by rw [I.len]; exact get_lt hi
  refine ⟨fun pins s σ H D I h => ?_⟩
  have hσl := I.len
  refine (ps_try_as (Wout := Wx) (c := .ref (cl k)) (ts := fun a cls d => tXS ⟨X.K, cl⟩ Wx cs i a cls d ms) (tb := fun W => tS ⟨X.K, cl⟩ W mb) hs hf hN hi hln hc tk (fun W pn xe t o => hb W pn xe t o) (fun a oe cls d pn z f => hsu a oe cls d pn z f)).run pins s σ H D I ?_
  obtain ⟨env, ρ, G, st, rel, er, h⟩ := h
  refine ⟨env, ρ, G, st, rel, er, ?_⟩
  have h' : PostS ⟨X.K, cl⟩ ρ G (tryX cs i ms (mb env st)) D Wx := h
  revert h'
  cases mb env st with
  | ex c ns ws env2 st2 =>
    intro h' ρ1 G1 H1 σ1 d f1 r1 e1 hx
    unfold tryX at h'
    dsimp only at h'
    cases hl : cs.lookup c with
    | none => rw [hl] at h'; exact h'.elim
    | some b =>
      rw [hl] at h'
      refine ⟨b, hcs c b hl, fun hb2 a _ => ?_, fun hb2 => ?_⟩
      · subst hb2
        have hlen : σ1.length = env2.length := e1.1.symm
        dsimp only at h'
        by_cases hi1 : i < σ1.length
        · rw [if_pos (by rw [← hlen]; exact hi1)] at h'
          refine ⟨c, ns, ws, env2.set i none, ρ1, G1, st2, ⟨List.getElem?_set_self hi1, rfl, hl, hx⟩, r1, e1.unset i _, ?_⟩
          have h2 := PostS.mono f1 h'
          revert h2
          cases ms c ns ws (env2.set i none) st2 with
          | nx env3 st3 => exact fun h2 ρ2 G2 H2 σ2 f2 r2 e2 _ => h2 ρ2 G2 H2 (σ2.set i none) f2 r2 (e2.unset i _)
          | rt s3 st3 => exact fun h2 => h2.elim
          | bk env3 st3 => exact fun h2 => h2.elim
          | ct env3 st3 => exact fun h2 => h2.elim
          | ex c3 ns3 ws3 env3 st3 => exact fun h2 => h2.elim
          | bad => exact fun h2 => h2.elim
        · rw [if_neg (by rw [← hlen]; exact hi1)] at h'
          exact h'.elim
      · subst hb2
        exact h' ρ1 G1 H1 σ1 d f1 r1 e1 hx
  | nx env2 st2 => exact fun h' => h'
  | rt s st2 => exact fun h' => h'
  | bk env2 st2 => exact fun h' => h'
  | ct env2 st2 => exact fun h' => h'
  | bad => exact fun h' => h'
end
/-! small steps -/
theorem e_tryX {cs : List (Nat × Bool)} {i : Nat} {mb : MS} {ms : XS1} {env : Env} {st : Store} : mTryX cs i mb ms env st = tryX cs i ms (mb env st) := rfl
theorem x_nx {cs : List (Nat × Bool)} {i : Nat} {ms : XS1} {env : Env} {st : Store} : tryX cs i ms (.nx env st) = .nx env st := rfl
theorem x_rt {cs : List (Nat × Bool)} {i : Nat} {ms : XS1} {s : Sl} {st : Store} : tryX cs i ms (.rt s st) = .rt s st := rfl
def kTryX (o : Option Bool) (i : Nat) (ms : XS1) (c : Nat) (ns : List Str) (ws : List W) (env : Env) (st : Store) : SR := match o with
    | some true => if i < env.length then (match ms c ns ws (env.set i none) st with
      | .nx env1 st1 => .nx (env1.set i none) st1
      | _ => .bad) else .bad
    | some false => .ex c ns ws env st
    | none => .bad
def kTryY (i : Nat) : SR → SR
  | .nx env1 st1 => .nx (env1.set i none) st1
  | _ => .bad
theorem x_ex {cs : List (Nat × Bool)} {i : Nat} {ms : XS1} {c : Nat} {ns : List Str} {ws : List W} {env : Env} {st : Store} : tryX cs i ms (.ex c ns ws env st) = kTryX (cs.lookup c) i ms c ns ws env st := by
  unfold tryX kTryX; rfl
theorem x_yes {i : Nat} {ms : XS1} {c : Nat} {ns : List Str} {ws : List W} {env : Env} {st : Store} (h : i < env.length) : kTryX (some true) i ms c ns ws env st = kTryY i (ms c ns ws (env.set i none) st) := by
  unfold kTryX kTryY; dsimp only; rw [if_pos h]
theorem x_no {i : Nat} {ms : XS1} {c : Nat} {ns : List Str} {ws : List W} {env : Env} {st : Store} : kTryX (some false) i ms c ns ws env st = .ex c ns ws env st := rfl
theorem x_y {i : Nat} {env : Env} {st : Store} : kTryY i (.nx env st) = .nx (env.set i none) st := rfl
theorem e_raise1 {c : Nat} {f : Str} {a : ME} {env : Env} {st : Store} : mRaise1 c f a env st = ofR env (a env st) fun x st1 => match x with
  | .v w => .ex c [f] [w] env st1
  | _ => .bad := rfl
theorem k_raise1 {c : Nat} {f : Str} {w : W} {env : Env} {st : Store} : ofR env (.ok (Sl.v w) st) (fun x st1 => match x with
  | .v w => .ex c [f] [w] env st1
  | _ => .bad) = .ex c [f] [w] env st := rfl
theorem e_xf {f g : Str} {c : Nat} {w : W} {env : Env} {st : Store} (h : (f == g) = true) : mXf f c [g] [w] env st = .ok (.v w) st := by
  unfold mXf
  rw [show (([g] : List Str).zip [w]).lookup f = some w by rw [List.zip_cons_cons, List.lookup_cons, h]]
theorem e_xis {tab : List (Nat × Bool)} {c : Nat} {ns : List Str} {ws : List W} {env : Env} {st : Store} {b : Bool} (h : tab.lookup c = some b) : mXis tab c ns ws env st = .ok (.v (.bl b)) st := by
  unfold mXis; rw [h]
theorem kit_subT {K : PySem.W.Frag} {C : Addr} {T : String} {b : Bool} (hm : PySem.W.kitMeta T = true) (s : PySem.W.subIn K (.ref C) (.type T) = some b) : PySem.W.kitOne K (.ref C) (.type T) = some b := by
  unfold PySem.W.kitOne PySem.W.kitCls
  rw [if_neg (show ¬ ((Value.ref C == Value.type T) = true) from Bool.false_ne_true)]
  dsimp only
  rw [if_pos hm]; exact s
theorem cls_some {K : PySem.W.Frag} {C : Addr} (h : PySem.W.hasDictIn K C = true) : (PySem.W.clsIn K C).isSome = true := by
  obtain ⟨cd, hc, _⟩ := PySem.W.any_some h
  rw [hc]; rfl
end Mz

set_option Elab.async false
set_option linter.all false
set_option maxRecDepth 100000
set_option maxHeartbeats 4000000
namespace Mz
open PySem L2
/-! ## 36. loops that may end in an error -/
section
variable {α : Type}
theorem loop_genx {gd : Store → Prop} {pt : Pat} {mb : MS} (g : α → W) (I : List α → Env → Store → Prop) (Q : SR → Prop) (xs : List α) : ∀ (post pre : List α) (env : Env) (st : Store), xs = pre ++ post → I pre env st →
    (∀ pre x post env st, xs = pre ++ x :: post → I pre env st → gd st ∧ ∃ env1, bindP pt (g x) env = some env1 ∧
      ((∃ env2 st2, (mb env1 st = .nx env2 st2 ∨ mb env1 st = .ct env2 st2) ∧ I (pre ++ [x]) env2 st2) ∨ (∃ env2 st2, mb env1 st = .bk env2 st2 ∧ Q (.nx env2 st2)) ∨ (∃ s st2, mb env1 st = .rt s st2 ∧ Q (.rt s st2)) ∨ (∃ c ns ws env2 st2, mb env1 st = .ex c ns ws env2 st2 ∧ Q (.ex c ns ws env2 st2)))) →
    (∀ env st, I xs env st → gd st) → ∃ r, loopL gd pt mb (post.map g) env st = r ∧ ((∃ env' st', r = .nx env' st' ∧ I xs env' st') ∨ Q r)
  | [], pre, env, st, e, h, _, hg => by
    rw [List.append_nil] at e
    subst e
    exact ⟨_, rfl, .inl ⟨env, st, by unfold loopL; rw [List.map_nil]; dsimp only; rw [if_pos (hg env st h)], h⟩⟩
  | x :: post, pre, env, st, e, h, hs, hg => by
    obtain ⟨gg, env1, e1, c⟩ := hs pre x post env st e h
    rw [List.map_cons]
    unfold loopL
    rw [if_pos gg, e1]
    dsimp only
    rcases c with ⟨env2, st2, e2, h2⟩ | ⟨env2, st2, e2, q⟩ | ⟨s, st2, e2, q⟩ | ⟨c, ns, ws, env2, st2, e2, q⟩
    · have := loop_genx g I Q xs post (pre ++ [x]) env2 st2 (by rw [e, List.append_assoc]; rfl) h2 hs hg
      rcases e2 with e2 | e2 <;> rw [e2] <;> exact this
    · rw [e2]; exact ⟨_, rfl, .inr q⟩
    · rw [e2]; exact ⟨_, rfl, .inr q⟩
    · rw [e2]; exact ⟨_, rfl, .inr q⟩
end
/-- the first bad place, if there is any -/
theorem first_or (B : Nat → Prop) : (∀ k, ¬ B k) ∨ ∃ k, B k ∧ ∀ j, j < k → ¬ B j := by
  by_cases h : ∃ k, B k
  · obtain ⟨k, hk⟩ := h
    right
    induction k using Nat.strongRecOn with
    | ind k ih =>
      by_cases h2 : ∃ j, j < k ∧ B j
      · obtain ⟨j, hj, hb⟩ := h2; exact ih j hj hb
      · exact ⟨k, hk, fun j hj hb => h2 ⟨j, hj, hb⟩⟩
  · exact .inl fun k hk => h ⟨k, hk⟩
open Classical in
theorem o_neD {n : Nat} (hn : n ≤ 64) {x y : Sl} {st : Store} {w : W} (hx : Sees st x w) (hy : Sees st y w) (h : Clean n w) : opEq true x y st = .ok (.v (.bl false)) st := by
  rw [o_eqD hn hx hy h h, if_pos rfl, decide_eq_true rfl]; rfl
theorem o_addl {n : Nat} {xs ys : List W} {st : Store} (hx : st.lget n = some xs) (h : xs.length + ys.length ≤ big) : opAdd (.l n) (.v (.lst ys)) st = .ok (.v (.lst (xs ++ ys))) st := by
  unfold opAdd; dsimp only; rw [hx]; dsimp only; rw [if_pos h]
/-! ## 37. products of large numbers -/
def opMulW : Op2 := opI (fun i j => decide (i.natAbs.log2 + j.natAbs.log2 < 1000000)) fun i j => .int (i * j)
theorem s_mulW {T : Tx} : OpS T (rI CMulW fun i j => .int (i * j)) opMulW := ops_I (fun i j h => by
  have h2 : i.natAbs.log2 + j.natAbs.log2 < 1000000 := by simpa using h
  exact h2) fun _ _ _ => rep_int
theorem o_mulW {i j : Int} {st : Store} (hi : i.natAbs < 2 ^ 1000) (hj : j.natAbs < 2 ^ 1000) : opMulW (.v (.int i)) (.v (.int j)) st = .ok (.v (.int (i * j))) st := by
  have h : i.natAbs.log2 + j.natAbs.log2 < 1000000 := wide_mul (a := 1000) (b := 1000) hi hj (by decide) (by decide) (by decide)
  unfold opMulW opI
  dsimp only
  rw [if_pos (decide_eq_true h)]
end Mz

set_option Elab.async false
set_option linter.all false
set_option maxRecDepth 100000
set_option maxHeartbeats 4000000
/-! own operators with an int on the left, own abs -/
namespace PySem.W
open Lean Elab Tactic Meta PySem PySem.Calls PyProof.Rows PySem.Spec
section
variable {prog : Program} {w : World} {M : Model} {A : Around} {E : Value → Shared → Prop} {s : Shared} {K : Frag} {x C L f f0 : Addr} {h₀ : Heap} {m : Str → Option Value} {ox : Obj} {od : Option Obj} {nm : String}
theorem mz_binIR {op : Operator} {a : Int} {t : Tok} {idl : String} {Q : Value → Shared → Prop} (F : Fr h₀ L s.heap m) (X₀ : K.In h₀) (I : InstAt s.heap x ox C od) (hc : selfFirst K C = true)
    (hs : findIn K (.ref C) (PySem.dunder op.info.2) = some (some (.ref f0))) (hsr : findIn K (.ref C) (dunderR op.info.2) = some (some (.ref f))) (hf : isFn K (.ref f) = true)
    (hfill : fillsNumberSlot (.type "int") op.info.2 = pure true) (hsub : subIn K (.ref C) (.type "int") = some false) (slot : Slot "int" (PySem.dunder op.info.2) idl)
    (hdec : ∀ (Q : Value → Shared → Prop) (E : Value → Shared → Prop), Q .notImplemented s → wpAny (model prog w) A (call (.builtin idl) [.int a t, .ref x]) Q E s)
    (h : wpAny (model prog w) A (call (.ref f) [.ref x, .int a t]) (CmpBack Q) E s) : wpAny (model prog w) A (binaryOp op (.int a t) (.ref x)) Q E s := by
  have X := X₀.keeps F.keep
  obtain ⟨cd, rest, hcd, hm⟩ := ksp_first hc
  rcases hi : op.info with ⟨sym, nm'⟩
  rw [hi] at hs hsr hfill slot
  dsimp only at hs hsr hfill slot
  have one := ksp_try X I hsr hf h
  have dec := fun Q0 E0 => hdec Q0 E0
  obtain ⟨hh, g, d, tt, os⟩ := s
  have L1 : Looks (model prog w) hh (typeOf (.int a t)) (.type "int") := Looks.of_pure rfl
  have L2 : Looks (model prog w) hh (typeOf (.ref x)) (.ref C) := I.type
  have L3 : Looks (model prog w) hh (fillsNumberSlot (.type "int") nm') true := Looks.of_pure hfill
  have L4 : Looks (model prog w) hh (fillsNumberSlot (.ref C) nm') true := fills_K X hcd hm hs
  have L5 : Looks (model prog w) hh (isSubtype (.ref C) (.type "int")) false := looks_subIn X hsub
  have L7 : Looks (model prog w) hh (numberSlotInPython (.type "int") nm') false := Looks.of_pure rfl
  have hne : (Value.type "int" == Value.ref C) = false := Bool.eq_false_iff.mpr fun q => by cases beq_iff_eq.mp q
  simp only [binaryOp, hi]
  refine wpAny_holding (wpAny_bind ?_)
  unfold binaryOp1
  refine wpAny_bind (L1.at (wpAny_bind (L2.at (wpAny_bind (L3.at ?_)))))
  simp only [hne, Bool.false_eq_true, if_false]
  ksp_lk
  refine wpAny_tryMethod_declines (T := "int") rfl slot (dec _ _ ⟨rfl, ?_⟩)
  ksp_lk
  refine wpAny_mono one (fun r s' hr' => ?_) fun _ _ e => e
  obtain ⟨v, rfl, hq⟩ := hr'
  ksp_lk
  first | exact hq | exact wpAny_rule (wpAny_pure (wpAny_pure hq)) | exact wpAny_bind (wpAny_rule (wpAny_pure (wpAny_pure hq)))
theorem int_add_ref (a : Int) (t : Tok) (l dx : Addr) (C : Addr) :
    Meets (Builtin.«int.__add__» ⟨[.int a t, .ref l], []⟩) (fun _ R s => s.heap.get? l = some (instObj C dx) ∧ R (.ok (.ret Value.notImplemented)) s) :=
  .of_wp fun prog w A R s h => by obtain ⟨hp, g, d, tk, os⟩ := s; obtain ⟨hl, h⟩ := h; unfold instObj at hl; wp_walk using wpAny_loadPart' hl; exact ⟨_, rfl, h⟩
theorem int_sub_ref (a : Int) (t : Tok) (l dx : Addr) (C : Addr) :
    Meets (Builtin.«int.__sub__» ⟨[.int a t, .ref l], []⟩) (fun _ R s => s.heap.get? l = some (instObj C dx) ∧ R (.ok (.ret Value.notImplemented)) s) :=
  .of_wp fun prog w A R s h => by obtain ⟨hp, g, d, tk, os⟩ := s; obtain ⟨hl, h⟩ := h; unfold instObj at hl; wp_walk using wpAny_loadPart' hl; exact ⟨_, rfl, h⟩
theorem int_mul_ref (a : Int) (t : Tok) (l dx : Addr) (C : Addr) :
    Meets (Builtin.«int.__mul__» ⟨[.int a t, .ref l], []⟩) (fun _ R s => s.heap.get? l = some (instObj C dx) ∧ R (.ok (.ret Value.notImplemented)) s) :=
  .of_wp fun prog w A R s h => by obtain ⟨hp, g, d, tk, os⟩ := s; obtain ⟨hl, h⟩ := h; unfold instObj at hl; wp_walk using wpAny_loadPart' hl; exact ⟨_, rfl, h⟩
theorem abs_K {Q : Value → Shared → Prop} (F : Fr h₀ L s.heap m) (X₀ : K.In h₀) (I : InstAt s.heap x ox C od) (hs : findIn K (.ref C) "__abs__" = some (some (.ref f))) (hf : isFn K (.ref f) = true)
    (h : wpAny (model prog w) A.in1 (call (.ref f) [.ref x]) Q E s) : wpAny (model prog w) A (call (.builtin "abs") [.ref x]) Q E s := by
  refine call_function_entry kind_abs plain_abs entry_abs (args_abs _) ?_
  unfold Builtin.«abs»
  refine wpAny_bind (m := oneArg "abs" _) (wpAny_pure ?_)
  refine wpAny_bind (m := callSpecial? (.ref x) (Str.ofString "__abs__")) (special_fn (X₀.keeps F.keep) I hs (beq_iff_eq.mp hf) (wpAny_mono h (fun r s' hr => ?_) fun _ _ y => y))
  exact wpAny_pure ⟨_, rfl, hr⟩
end
end PySem.W
namespace Mz
open PySem PySem.Spec PyProof.Rows L2
section
variable {X : Cx} {cl : Nat → Addr} {Wx : WX} {e : Expr} {me : ME} {pos p p2 : Pos} {x : Str}
/-- what an int does before an own instance, for one operator -/
structure DecI (op : Operator) (idl : String) : Prop where
  fill : fillsNumberSlot (.type "int") op.info.2 = pure true
  slot : Slot "int" (PySem.dunder op.info.2) idl
  dec : ∀ (prog : Program) (w : World) (A : Around) (s : Shared) (a : Int) (t : Tok) (l dx C : Addr) (Q E : Value → Shared → Prop), s.heap.get? l = some (PySem.W.instObj C dx) → Q .notImplemented s → wpAny (model prog w) A (call (.builtin idl) [.int a t, .ref l]) Q E s
theorem dec_add : DecI .Add "int.__add__" := ⟨F.fills_int_add, F.slot_int_add, fun prog w A s a t l dx C Q E hl hq => call_meets F.slot_int_add rfl F.entry_int_add (F.args_int_add_2 _ _) (PySem.W.int_add_ref a t l dx C) ⟨hl, hq⟩⟩
theorem dec_sub : DecI .Sub "int.__sub__" := ⟨F.fills_int_sub, F.slot_int_sub, fun prog w A s a t l dx C Q E hl hq => call_meets F.slot_int_sub rfl F.entry_int_sub (F.args_int_sub_2 _ _) (PySem.W.int_sub_ref a t l dx C) ⟨hl, hq⟩⟩
theorem dec_mul : DecI .Mult "int.__mul__" := ⟨F.fills_int_mul, F.slot_int_mul, fun prog w A s a t l dx C Q E hl hq => call_meets F.slot_int_mul rfl F.entry_int_mul (F.args_int_mul_2 _ _) (PySem.W.int_mul_ref a t l dx C) ⟨hl, hq⟩⟩
def opOwnR (c : Nat) (F : MF) : Op2 := fun x y st => match x with
  | .v (.int i) => if isCl c st y = true then F [y, .v (.int i)] st else .bad
  | _ => .bad
theorem opm_ownR {op : Operator} {idl : String} {F : MF} {k c : Nat} {g g0 : Addr} {fd : FuncData} {ps : List Str} (D : DecI op idl) (C : ClF X.K (cl c)) (hs : PySem.W.findIn X.K (.ref (cl c)) (PySem.dunder op.info.2) = some (some (.ref g0)))
    (hsr : PySem.W.findIn X.K (.ref (cl c)) (dunderR op.info.2) = some (some (.ref g))) (hf : PySem.W.isFn X.K (.ref g) = true) (hsub : PySem.W.subIn X.K (.ref (cl c)) (.type "int") = some false)
    (hF : FnOk X.prog X.w X.K X.mg X.base (L2.CX X.prog X.w) k g fd ps (spM ⟨X.K, cl⟩ 2 F)) (tk : Takes X Wx) (hr : Room k X.A) (hb : Binds X.K fd ps []) : OpM X cl Wx (binaryOp op) (opOwnR c F) :=
  fun pins s σ H x y v u Q ρ G st sx sy I rx ry rel hx hy p => by
    unfold opOwnR at p
    split at p
    · rename_i i
      split at p
      · rename_i hi
        obtain ⟨a, dx, fs, rfl, hH⟩ := isCl_at rel hy hi
        cases ry
        have hx0 := hx
        unfold Mz.SlR Rep at hx0
        subst hx0
        obtain ⟨t, rfl⟩ := rx
        obtain ⟨mA, J, _⟩ := ins_get I.hok hH
        obtain ⟨od, J, _⟩ := J.look
        obtain ⟨m, hFr⟩ := I.fr
        exact PySem.W.mz_binIR hFr I.ok.mod.kin J C.sf hs hsr hf D.fill hsub D.slot (fun Q0 E0 hq => D.dec _ _ _ _ i t a dx (cl c) Q0 E0 J.1 hq)
          (wpAny_mono (own_call hF tk hr hb I (u := .int i t) (y := .int i) ⟨t, rfl⟩ rel hy hx p) (fun _ _ h => cmp_back h) fun _ _ h => h)
      · exact p.elim
    · exact p.elim
def okBk : Res Sl → Res Sl
  | .ok s st => .ok s st
  | _ => .bad
def absOwn (c : Nat) (F : MF) : MF := fun xs st => match xs with
  | [x] => if isCl c st x = true then okBk (F [x] st) else .bad
  | _ => .bad
theorem cam_abs {F : MF} {k c : Nat} {g : Addr} {fd : FuncData} {ps : List Str} (hs : PySem.W.findIn X.K (.ref (cl c)) "__abs__" = some (some (.ref g))) (hf : PySem.W.isFn X.K (.ref g) = true)
    (hF : FnOk X.prog X.w X.K X.mg X.base (L2.CX X.prog X.w) k g fd ps (spM ⟨X.K, cl⟩ 1 F)) (hr : Room (k + 1) X.A) (hb : Binds X.K fd ps []) : CaM X cl Wx (.builtin "abs") (absOwn c F) :=
  fun pins s σ H xs us Q ρ G st ss I rv rel hss p => by
    unfold absOwn at p
    split at p
    · rename_i y
      obtain ⟨u, rfl, hy⟩ := slrs1 hss
      split at p
      · rename_i hi
        obtain ⟨a, dx, fs, rfl, hH⟩ := isCl_at rel hy hi
        cases rv with
        | cons r rr =>
          cases rr
          cases r
          obtain ⟨mA, J, _⟩ := ins_get I.hok hH
          obtain ⟨od, J, _⟩ := J.look
          obtain ⟨m, hFr⟩ := I.fr
          have sp : spM ⟨X.K, cl⟩ 1 F [.ref a] H Q (fun _ _ _ => False) := by
            refine ⟨ρ, G, st, [y], rel, ⟨_, [], rfl, hy, rfl⟩, rfl, ?_⟩
            revert p
            cases F [y] st with
            | ok s1 st1 => exact fun p => p
            | ex c ns ws st1 => exact fun p => p.elim
            | bad => exact fun p => p.elim
          have bb := hb s [.ref a] I.kIn (by rw [List.append_nil]; exact hF.len [.ref a] _ _ _ sp)
          rw [List.append_nil] at bb
          refine PySem.W.abs_K hFr I.ok.mod.kin J hs hf ?_
          refine wpAny_call (codeAny_mono (hF.run X.A.in1 X.stack s H ⟨[.ref a], []⟩ [.ref a] [.ref a] _ _ hr.in1 I.env0.in1 bb (.cons rfl .nil) sp) fun r s' hq => ?_)
          cases r with
          | error e =>
            obtain ⟨_, _, _, _, _, hh⟩ := hq
            exact hh.2.2.2.2.2.2.2.elim
          | ok fl =>
            cases fl with
            | ret u =>
              obtain ⟨v, H', I3, rv3, q3⟩ := I.after hq
              exact ⟨v, H', I3, rv3, q3⟩
            | next => exact False.elim hq
            | brk => exact False.elim hq
            | cont => exact False.elim hq
      · exact p.elim
    · exact p.elim
/-- isinstance(e, t) for a built-in t, of an own instance too -/
def mIsTyO (cs : List Nat) (t : String) (a : ME) : ME := fun env st => (a env st).bind fun x st1 => if cs.any (fun c => isCl c st1 x) then .ok (.v (.bl false)) st1 else match tyName st1 x with
  | some n => match kitB n t with
    | some b => .ok (.v (.bl b)) st1
    | none => .bad
  | none => .bad
theorem ie_isTyO {t : String} {cs : List Nat} (hcs : ∀ c ∈ cs, ClF X.K (cl c) ∧ PySem.W.kitOne X.K (.ref (cl c)) (.type t) = some false) (he : IE X cl Wx e me) (hg : Gl X "isinstance") (hm : X.mg "isinstance" = none) (hg2 : Gl X x) (hm2 : X.mg x = none) (hv2 : bootBuiltins x = some (.type t)) (hv : bootBuiltins "isinstance" = some (.builtin "isinstance") := by decide +kernel) (hn2 : x ≠ "__name__" := by decide) (hd2 : (x == ("__debug__" : Str)) = false := by decide)
    (hs : starEach (e :: [.Name x p2]) X.env = (false, eval e X.env) :: starEach [.Name x p2] X.env := by rfl) (hs2 : starEach [.Name x p2] X.env = (false, eval (.Name x p2) X.env) :: starEach [] X.env := by rfl) (hpl : (backTo pos (starEach [.Name x p2] X.env)).any (·.1) = false := by rfl) :
    IE X cl Wx (.Call (.Name "isinstance" p) [e, .Name x p2] [] pos) (mIsTyO cs t me) :=
  pe_weak (pe_callB call_isi hg hm hv (pa_cons he (pa_cons (pe_bltn (v := .ty t) hg2 hm2 hv2 rfl hn2 hd2) pa_nil hs2) hs) (by decide) (by decide) hs hpl) fun σ H Q ⟨env, ρ, G, st, rel, er, q⟩ =>
    ⟨env, ρ, G, st, rel, er, PostR.bind (R1 := Mz.SlR ⟨X.K, cl⟩) q fun y st1 ρ1 G1 H1 u f1 r1 s1 p1 => by
      split at p1
      · rename_i ha
        obtain ⟨c, hc, hi⟩ := List.any_eq_true.mp ha
        obtain ⟨F, hk⟩ := hcs c hc
        obtain ⟨a, dx, fs, rfl, hH⟩ := isCl_at r1 s1 hi
        exact ⟨_, .ty t, _, _, false, rfl, .ty t, .base (.ins hH F.cl F.ha F.hn F.htk F.hm), hk, pg p1 r1 rep_bl⟩
      · split at p1
        · rename_i n hn
          split at p1
          · rename_i b hb
            obtain ⟨t', h1, rfl⟩ := tyName_at r1 s1 hn
            exact ⟨u, .ty t, _, _, b, rfl, .ty t, h1, kit_ty hb, pg p1 r1 rep_bl⟩
          · exact p1.elim
        · exact p1.elim⟩
theorem an_nil {P : Nat → Prop} : ∀ c ∈ ([] : List Nat), P c := fun _ h => by cases h
theorem an_cons {P : Nat → Prop} {a : Nat} {l : List Nat} (h : P a) (t : ∀ c ∈ l, P c) : ∀ c ∈ a :: l, P c := fun c hc => by
  cases hc with
  | head => exact h
  | tail _ hc => exact t c hc
/-- an operator of which either side may be own, or an int -/
def opMix (c : Nat) (F R : MF) (std : Op2) : Op2 := fun x y st => if isCl c st x = true then (if isCl c st y = true then opOwn c F x y st else opOwnT c "int" F x y st) else (if isCl c st y = true then opOwnR c R x y st else std x y st)
theorem opm_mix {f : Value → Value → Sem Value} {c : Nat} {F R : MF} {std : Op2} (h1 : OpM X cl Wx f (opOwn c F)) (h2 : OpM X cl Wx f (opOwnT c "int" F)) (h3 : OpM X cl Wx f (opOwnR c R)) (h4 : OpM X cl Wx f std) : OpM X cl Wx f (opMix c F R std) :=
  fun pins s σ H x y v u Q ρ G st sx sy I rx ry rel hx hy p => by
    unfold opMix at p
    split at p
    · split at p
      · exact h1 pins s σ H x y v u Q ρ G st sx sy I rx ry rel hx hy p
      · exact h2 pins s σ H x y v u Q ρ G st sx sy I rx ry rel hx hy p
    · split at p
      · exact h3 pins s σ H x y v u Q ρ G st sx sy I rx ry rel hx hy p
      · exact h4 pins s σ H x y v u Q ρ G st sx sy I rx ry rel hx hy p
end
/-! small steps -/
section
variable {c : Nat} {F R : MF} {std : Op2} {x y : Sl} {st : Store} {i j : Int} {t : String} {a : ME} {env : Env}
theorem not_cl : isCl c st (.v (.int i)) = false := rfl
theorem mix_oo (hx : isCl c st x = true) (hy : isCl c st y = true) : opMix c F R std x y st = F [x, y] st := by
  unfold opMix opOwn; rw [if_pos hx, if_pos hy, if_pos ⟨hx, hy⟩]
theorem mix_oi (hx : isCl c st x = true) : opMix c F R std x (.v (.int i)) st = F [x, .v (.int i)] st := by
  unfold opMix opOwnT; rw [if_pos hx, if_neg (by rw [not_cl]; decide), if_pos ⟨hx, rfl⟩]
theorem mix_io (hy : isCl c st y = true) : opMix c F R std (.v (.int i)) y st = R [y, .v (.int i)] st := by
  unfold opMix opOwnR; rw [if_neg (by rw [not_cl]; decide), if_pos hy]; dsimp only; rw [if_pos hy]
theorem mix_ii : opMix c F R std (.v (.int i)) (.v (.int j)) st = std (.v (.int i)) (.v (.int j)) st := by
  unfold opMix; rw [if_neg (by rw [not_cl]; decide), if_neg (by rw [not_cl]; decide)]
theorem absOwn_1 (hx : isCl c st x = true) : absOwn c F [x] st = okBk (F [x] st) := by unfold absOwn; dsimp only; rw [if_pos hx]
theorem okBk_1 {s : Sl} : okBk (.ok s st) = .ok s st := rfl
def kIsTyO (c : Nat) (t : String) (r : Res Sl) : Res Sl := r.bind fun x st1 => if isCl c st1 x = true then .ok (.v (.bl false)) st1 else kIsTy2 t (tyName st1 x) st1
theorem e_isTyO : mIsTyO [c] t a env st = kIsTyO c t (a env st) := by
  unfold mIsTyO kIsTyO
  cases a env st with
  | ok x st1 =>
    show (if ([c] : List Nat).any (fun c => isCl c st1 x) = true then _ else _) = _
    rw [show ([c] : List Nat).any (fun c => isCl c st1 x) = isCl c st1 x by simp]
    rfl
  | ex _ _ _ _ => rfl
  | bad => rfl
theorem k_isTyO : kIsTyO c t (.ok x st) = if isCl c st x = true then .ok (.v (.bl false)) st else kIsTy2 t (tyName st x) st := rfl
end
end Mz

set_option Elab.async false
set_option linter.all false
set_option maxRecDepth 100000
set_option maxHeartbeats 4000000
namespace Mz
open PySem PySem.Spec PyProof.Rows L2
/-! ## 39. // by any divisor, isinstance(e, (int, C)) -/
def CFd (_ j : Int) : Prop := j ≠ 0 ∧ j.natAbs.log2 < 9000
def opFd : Op2 := opI (fun _ j => decide (j ≠ 0) && decide (j.natAbs.log2 < 9000)) fun i j => .int (i.fdiv j)
theorem s_fd {T : Tx} : OpS T (rI CFd fun i j => .int (i.fdiv j)) opFd := ops_I (fun i j h => by
  simp only [Bool.and_eq_true, decide_eq_true_eq] at h; exact h) fun _ _ _ => rep_int
theorem o_fd {i j : Int} {st : Store} (h : j ≠ 0) (hj : j.natAbs < 2 ^ 1000) : opFd (.v (.int i)) (.v (.int j)) st = .ok (.v (.int (i.fdiv j))) st := by
  have h2 : j.natAbs.log2 < 9000 := Nat.lt_of_lt_of_le (PySem.Flt.log2_lt_of (by decide) hj) (by decide)
  unfold opFd opI
  dsimp only
  rw [if_pos (by rw [Bool.and_eq_true]; exact ⟨decide_eq_true h, decide_eq_true h2⟩)]
def mIs2 (c : Nat) (t : String) (a : ME) : ME := fun env st => (a env st).bind fun x st1 => if isCl c st1 x = true then .ok (.v (.bl true)) st1 else if tyName st1 x = some t then .ok (.v (.bl true)) st1 else .bad
section
variable {X : Cx} {cl : Nat → Addr} {Wx : WX} {e : Expr} {me : ME} {pos p p2 p3 p4 : Pos} {x y : Str}
theorem op_fd : OpR X (binaryOp .FloorDiv) (rI CFd fun i j => .int (i.fdiv j)) := L2.opI fun i j _ _ _ _ _ hc q => by
  have h1 : j ≠ 0 := hc.1
  have h2 : j.natAbs.log2 < 9000 := hc.2
  exact floordiv_int h1 q (.inl (PyProof.noPylong_of_log2 h2))
theorem ie_is2 {t : String} {c : Nat} {x1} (hF : ClF X.K (cl c)) (hk : PySem.W.kitOne X.K (.ref (cl c)) (.type t) = some false) (hkk : PySem.W.kitOne X.K (.ref (cl c)) (.ref (cl c)) = some true) (htt : kitB t t = some true) (he : IE X cl Wx e me) (hg : Gl X "isinstance") (hm : X.mg "isinstance" = none)
    (hg2 : Gl X x) (hm2 : X.mg x = none) (hv2 : bootBuiltins x = some (.type t)) (hg3 : Gl X y) (hm3 : X.mg y = some (.ref (cl c)))
    (hv : bootBuiltins "isinstance" = some (.builtin "isinstance") := by decide +kernel) (hn2 : x ≠ "__name__" := by decide) (hd2 : (x == ("__debug__" : Str)) = false := by decide) (hd3 : (y == ("__debug__" : Str)) = false := by decide)
    (hs : starEach (e :: [.Tuple [.Name x p2, .Name y p3] x1 p4]) X.env = (false, eval e X.env) :: starEach [.Tuple [.Name x p2, .Name y p3] x1 p4] X.env := by rfl)
    (hs2 : starEach [.Tuple [.Name x p2, .Name y p3] x1 p4] X.env = (false, eval (.Tuple [.Name x p2, .Name y p3] x1 p4) X.env) :: starEach [] X.env := by rfl)
    (hs3 : starEach (.Name x p2 :: [.Name y p3]) X.env = (false, eval (.Name x p2) X.env) :: starEach [.Name y p3] X.env := by rfl)
    (hs4 : starEach [.Name y p3] X.env = (false, eval (.Name y p3) X.env) :: starEach [] X.env := by rfl)
    (hpl : (backTo pos (starEach [.Tuple [.Name x p2, .Name y p3] x1 p4] X.env)).any (·.1) = false := by rfl) :
    IE X cl Wx (.Call (.Name "isinstance" p) [e, .Tuple [.Name x p2, .Name y p3] x1 p4] [] pos) (mIs2 c t me) :=
  pe_weak (pe_callB call_isiT hg hm hv (pa_cons he (pa_cons (pe_tup (pa_cons (pe_bltn (v := .ty t) hg2 hm2 hv2 rfl hn2 hd2) (pa_cons (pe_glob (v := .ref (cl c)) hg3 hm3 rfl hd3) pa_nil hs4) hs3)) pa_nil hs2) hs) (by decide) (by decide) hs hpl) fun σ H Q ⟨env, ρ, G, st, rel, er, q⟩ =>
    ⟨env, ρ, G, st, rel, er, PostR.bind (R1 := Mz.SlR ⟨X.K, cl⟩) q fun y st1 ρ1 G1 H1 u f1 r1 s1 p1 => by
      refine ⟨by rw [big_line]; show 2 ≤ big; decide, fun tp htp => ?_⟩
      obtain ⟨f2, r2⟩ := r1.newG (o := .tup [.ty t, .ref (cl c)]) htp
      have s2 := s1.mono f2
      split at p1
      · rename_i hi
        obtain ⟨a, dx, fs, rfl, hH⟩ := isCl_at r2 s2 hi
        exact ⟨_, tp, _, _, [.type t, .ref (cl c)], true, rfl, upd_same, .cons (.ty t) (.cons (.own _) .nil), .base (.ins hH hF.cl hF.ha hF.hn hF.htk hF.hm), kitAny_cons hk (fun _ => kitAny_cons hkk (fun z => nomatch z) fun _ => rfl) (fun z => nomatch z), p1 _ _ _ _ f2 r2 (by unfold Mz.SlR Rep; rfl)⟩
      · split at p1
        · rename_i hn
          obtain ⟨t', h1, rfl⟩ := tyName_at r2 s2 hn
          exact ⟨_, tp, _, _, [.type t, .ref (cl c)], true, rfl, upd_same, .cons (.ty t) (.cons (.own _) .nil), h1, kitAny_cons (kit_ty htt) (fun z => nomatch z) fun _ => rfl, p1 _ _ _ _ f2 r2 (by unfold Mz.SlR Rep; rfl)⟩
        · exact p1.elim⟩
/-- own on the left, on the right own or an int -/
def opMix2 (c : Nat) (F : MF) (std : Op2) : Op2 := fun x y st => if isCl c st x = true then (if isCl c st y = true then opOwn c F x y st else opOwnT c "int" F x y st) else std x y st
theorem opm_mix2 {f : Value → Value → Sem Value} {c : Nat} {F : MF} {std : Op2} (h1 : OpM X cl Wx f (opOwn c F)) (h2 : OpM X cl Wx f (opOwnT c "int" F)) (h4 : OpM X cl Wx f std) : OpM X cl Wx f (opMix2 c F std) :=
  fun pins s σ H x y v u Q ρ G st sx sy I rx ry rel hx hy p => by
    unfold opMix2 at p
    split at p
    · split at p
      · exact h1 pins s σ H x y v u Q ρ G st sx sy I rx ry rel hx hy p
      · exact h2 pins s σ H x y v u Q ρ G st sx sy I rx ry rel hx hy p
    · exact h4 pins s σ H x y v u Q ρ G st sx sy I rx ry rel hx hy p
end
/-! small steps -/
section
variable {c : Nat} {F : MF} {std : Op2} {x y : Sl} {st : Store} {i j : Int} {t : String} {a : ME} {env : Env}
theorem mix2_oo (hx : isCl c st x = true) (hy : isCl c st y = true) : opMix2 c F std x y st = F [x, y] st := by
  unfold opMix2 opOwn; rw [if_pos hx, if_pos hy, if_pos ⟨hx, hy⟩]
theorem mix2_oi (hx : isCl c st x = true) : opMix2 c F std x (.v (.int i)) st = F [x, .v (.int i)] st := by
  unfold opMix2 opOwnT; rw [if_pos hx, if_neg (by rw [not_cl]; decide), if_pos ⟨hx, rfl⟩]
theorem mix2_ii : opMix2 c F std (.v (.int i)) (.v (.int j)) st = std (.v (.int i)) (.v (.int j)) st := by
  unfold opMix2; rw [if_neg (by rw [not_cl]; decide)]
def kIs2 (c : Nat) (t : String) (r : Res Sl) : Res Sl := r.bind fun x st1 => if isCl c st1 x = true then .ok (.v (.bl true)) st1 else if tyName st1 x = some t then .ok (.v (.bl true)) st1 else .bad
theorem e_is2 : mIs2 c t a env st = kIs2 c t (a env st) := rfl
theorem k_is2o (hx : isCl c st x = true) : kIs2 c t (.ok x st) = .ok (.v (.bl true)) st := by
  show (if isCl c st x = true then _ else _) = _
  rw [if_pos hx]
theorem k_is2i : kIs2 c "int" (.ok (.v (.int i)) st) = .ok (.v (.bl true)) st := rfl
end
end Mz

set_option Elab.async false
set_option linter.all false
set_option maxRecDepth 100000
set_option maxHeartbeats 4000000
namespace Mz
open PySem PySem.Spec PyProof.Rows L2
/-! ## 40. str(i), text.join(list), text.split(text) -/
def strsOf : List W → Option (List Str)
  | [] => some []
  | .str i :: r => (strsOf r).map (i :: ·)
  | _ :: _ => none
theorem strs_rep {T : Tx} {G : Hp} : ∀ {xs : List W} {ys : List Str} {vs : List V}, strsOf xs = some ys → Reps T G xs vs → vs = ys.map V.str
  | [], ys, vs, h, hr => by
    cases h
    unfold Reps at hr
    rw [hr]; rfl
  | x :: r, ys, vs, h, hr => by
    unfold Reps at hr
    obtain ⟨v, t, rfl, h2, h3⟩ := hr
    cases x with
    | str i =>
      obtain ⟨z, h1, rfl⟩ := Option.map_eq_some_iff.mp (show (strsOf r).map (i :: ·) = some ys from h)
      unfold Rep at h2
      rw [h2, strs_rep h1 h3, List.map_cons]
    | _ => cases h
theorem strsOf_map (ns : List Str) : strsOf (ns.map W.str) = some ns := by
  induction ns with
  | nil => rfl
  | cons n ns ih => show (strsOf (ns.map W.str)).map (n :: ·) = _; rw [ih]; rfl
def fStr : MF
  | [.v (.int i)], st => if i.natAbs.log2 < 1920 then .ok (.v (.str (toString i))) st else .bad
  | [.v (.str a)], st => .ok (.v (.str a)) st
  | _, _ => .bad
abbrev rStr1 : List V → Hp → VK → Prop := fun xs H Q => (∃ i : Int, xs = [.int i] ∧ i.natAbs.log2 < 1920 ∧ Q (.str (toString i)) H) ∨ ∃ a, xs = [.str a] ∧ Q (.str a) H
theorem s_str {T : Tx} : CaS T rStr1 fStr := fun ρ G H st xs us Q E r hs p => by
  unfold fStr at p
  split at p
  · obtain ⟨u, rfl, hx⟩ := slrs1 hs
    unfold SlR Rep at hx; subst hx
    split at p
    · rename_i hl
      exact .inl ⟨_, rfl, hl, pg p r rep_str⟩
    · exact p.elim
  · obtain ⟨u, rfl, hx⟩ := slrs1 hs
    unfold SlR Rep at hx; subst hx
    exact .inr ⟨_, rfl, pg p r rep_str⟩
  · exact p.elim
def joinOf (a : Str) (y : Sl) (st : Store) : Res Sl := match litems st y with
  | some xs => match strsOf xs with
    | some ys => if (ys.map (·.length)).sum + ys.length * a.length ≤ 16777216 then .ok (.v (.str (Txt.join a ys))) st else .bad
    | none => .bad
  | none => .bad
def mJoin (o e : ME) : ME := fun env st => (o env st).bind fun x st1 => match x with
  | .v (.str a) => (e env st1).bind fun y st2 => joinOf a y st2
  | _ => .bad
def splitOf (a : Str) (y : Sl) (st : Store) : Res Sl := match y with
  | .v (.str b) => if (b.length == 0) = false ∧ a.length + 2 ≤ big then .ok (.v (.lst ((Txt.split a b).map W.str))) st else .bad
  | _ => .bad
def mSplit (o e : ME) : ME := fun env st => (o env st).bind fun x st1 => match x with
  | .v (.str a) => (e env st1).bind fun y st2 => splitOf a y st2
  | _ => .bad
theorem reps_strs {T : Tx} {G : Hp} : ∀ (ys : List Str), Reps T G (ys.map W.str) (ys.map V.str)
  | [] => Reps.nil
  | y :: ys => Reps.cons rep_str (reps_strs ys)
section
variable {X : Cx} {cl : Nat → Addr} {Wx : WX} {o e : Expr} {mo me : ME} {pos apos : Pos}
theorem call_str1 : CallR X (.type "str") rStr1 := fun pins s σ H xs us Q I r h => by
  rcases h with h | h
  · exact call_str_int pins s σ H xs us Q I r h
  · exact SkE.call_str_str pins s σ H xs us Q I r h
theorem ie_join (ho : IE X cl Wx o mo) (he : IE X cl Wx e me) (hs : starEach [e] X.env = [(false, eval e X.env)] := by rfl) (hbase : attributeBase o "join" X.env (eval o X.env) = eval o X.env := by rfl) (hline : (apos.endLine == pos.line) = true := by rfl) :
    IE X cl Wx (.Call (.Attribute o "join" apos) [e] [] pos) (mJoin mo me) :=
  pe_weak (pe_join ho he hs hbase hline) fun σ H Q ⟨env, ρ, G, st, rel, er, p⟩ => ⟨env, ρ, G, st, rel, er, PostR.bind (R1 := Mz.SlR ⟨X.K, cl⟩) p fun x st1 ρ1 G1 H1 u f1 r1 s1 p1 => by
    split at p1
    · rename_i a
      have s0 := s1
      unfold Mz.SlR Rep at s0
      subst s0
      refine ⟨⟨a, rfl⟩, env, ρ1, G1, st1, r1, er.mono f1, PostR.bind (R1 := Mz.SlR ⟨X.K, cl⟩) p1 fun y st2 ρ2 G2 H2 v f2 r2 s2 p2 => ?_⟩
      unfold joinOf at p2
      split at p2
      · rename_i xs ex
        split at p2
        · rename_i ys ey
          split at p2
          · rename_i hz
            obtain ⟨q, vs, rfl, hq, hr⟩ := litems_at r2 s2 ex
            rw [strs_rep ey hr] at hq
            exact ⟨a, q, ys, rfl, rfl, .inl hq, hz, pg p2 r2 rep_str⟩
          · exact p2.elim
        · exact p2.elim
      · exact p2.elim
    · exact p1.elim⟩
theorem ie_split (ho : IE X cl Wx o mo) (he : IE X cl Wx e me) (hs : starEach [e] X.env = [(false, eval e X.env)] := by rfl) (hbase : attributeBase o "split" X.env (eval o X.env) = eval o X.env := by rfl) (hline : (apos.endLine == pos.line) = true := by rfl) :
    IE X cl Wx (.Call (.Attribute o "split" apos) [e] [] pos) (mSplit mo me) :=
  pe_weak (pe_split ho he hs hbase hline) fun σ H Q ⟨env, ρ, G, st, rel, er, p⟩ => ⟨env, ρ, G, st, rel, er, PostR.bind (R1 := Mz.SlR ⟨X.K, cl⟩) p fun x st1 ρ1 G1 H1 u f1 r1 s1 p1 => by
    split at p1
    · rename_i a
      have s0 := s1
      unfold Mz.SlR Rep at s0
      subst s0
      refine ⟨⟨a, rfl⟩, env, ρ1, G1, st1, r1, er.mono f1, PostR.bind (R1 := Mz.SlR ⟨X.K, cl⟩) p1 fun y st2 ρ2 G2 H2 v f2 r2 s2 p2 => ?_⟩
      unfold splitOf at p2
      split at p2
      · rename_i b
        split at p2
        · rename_i hz
          have s0 := s2
          unfold Mz.SlR Rep at s0
          subst s0
          refine ⟨a, b, rfl, rfl, hz.1, by rw [big_line]; exact hz.2, fun q hq => ?_⟩
          obtain ⟨f3, r3⟩ := r2.newG (o := .lst ((Txt.split a b).map V.str)) hq
          exact p2 _ _ _ _ f3 r3 (by unfold Mz.SlR Rep; exact ⟨q, _, rfl, upd_same, reps_strs _⟩)
        · exact p2.elim
      · exact p2.elim
    · exact p1.elim⟩
end
/-! small steps -/
section
variable {a b : Str} {x y : Sl} {st : Store} {env : Env} {o e : ME} {ys : List Str} {i : Int}
def kJoin1 (e : ME) (env : Env) (r : Res Sl) : Res Sl := r.bind fun x st1 => match x with
  | .v (.str a) => (e env st1).bind fun y st2 => joinOf a y st2
  | _ => .bad
def kJoin2 (a : Str) (r : Res Sl) : Res Sl := r.bind fun y st2 => joinOf a y st2
theorem e_join : mJoin o e env st = kJoin1 e env (o env st) := rfl
theorem k_join1 : kJoin1 e env (.ok (.v (.str a)) st) = kJoin2 a (e env st) := rfl
theorem k_join2 : kJoin2 a (.ok y st) = joinOf a y st := rfl
theorem join_ok (h : litems st y = some (ys.map W.str)) (hz : (ys.map (·.length)).sum + ys.length * a.length ≤ 16777216) : joinOf a y st = .ok (.v (.str (Txt.join a ys))) st := by
  unfold joinOf; rw [h]; dsimp only; rw [strsOf_map]; dsimp only; rw [if_pos hz]
def kSplit1 (e : ME) (env : Env) (r : Res Sl) : Res Sl := r.bind fun x st1 => match x with
  | .v (.str a) => (e env st1).bind fun y st2 => splitOf a y st2
  | _ => .bad
def kSplit2 (a : Str) (r : Res Sl) : Res Sl := r.bind fun y st2 => splitOf a y st2
theorem e_split : mSplit o e env st = kSplit1 e env (o env st) := rfl
theorem k_split1 : kSplit1 e env (.ok (.v (.str a)) st) = kSplit2 a (e env st) := rfl
theorem k_split2 : kSplit2 a (.ok y st) = splitOf a y st := rfl
theorem split_ok (h : (b.length == 0) = false) (hz : a.length + 2 ≤ big) : splitOf a (.v (.str b)) st = .ok (.v (.lst ((Txt.split a b).map W.str))) st := by
  unfold splitOf; dsimp only; rw [if_pos ⟨h, hz⟩]
theorem f_stri (h : i.natAbs.log2 < 1920) : fStr [.v (.int i)] st = .ok (.v (.str (toString i))) st := by unfold fStr; dsimp only; rw [if_pos h]
theorem f_strs : fStr [.v (.str a)] st = .ok (.v (.str a)) st := rfl
end
end Mz

set_option Elab.async false
set_option linter.all false
set_option maxRecDepth 100000
set_option maxHeartbeats 4000000
namespace Mz
open PySem PySem.Spec PyProof.Rows L2
/-! ## 41. own str -/
def strBk : Res Sl → Res Sl
  | .ok (.v (.str a)) st => .ok (.v (.str a)) st
  | _ => .bad
def strOwn (c : Nat) (F : MF) : MF := fun xs st => match xs with
  | [x] => if isCl c st x = true then strBk (F [x] st) else .bad
  | _ => .bad
section
variable {X : Cx} {cl : Nat → Addr} {Wx : WX}
theorem cam_str {F : MF} {k c : Nat} {g : Addr} {fd : FuncData} {ps : List Str} (hs : PySem.W.findIn X.K (.ref (cl c)) "__str__" = some (some (.ref g))) (hf : PySem.W.isFn X.K (.ref g) = true)
    (hF : FnOk X.prog X.w X.K X.mg X.base (L2.CX X.prog X.w) k g fd ps (spM ⟨X.K, cl⟩ 1 F)) (hr : Room (k + 2) X.A) (hb : Binds X.K fd ps []) : CaM X cl Wx (.type "str") (strOwn c F) :=
  fun pins s σ H xs us Q ρ G st ss I rv rel hss p => by
    unfold strOwn at p
    split at p
    · rename_i y
      obtain ⟨u, rfl, hy⟩ := slrs1 hss
      split at p
      · rename_i hi
        obtain ⟨a, dx, fs, rfl, hH⟩ := isCl_at rel hy hi
        cases rv with
        | cons r rr =>
          cases rr
          cases r
          obtain ⟨mA, J, _⟩ := ins_get I.hok hH
          obtain ⟨od, J, _⟩ := J.look
          have sp : spM ⟨X.K, cl⟩ 1 F [.ref a] H (fun v H2 => ∃ b : Str, v = .str b ∧ Q (.str b) H2) (fun _ _ _ => False) := by
            refine ⟨ρ, G, st, [y], rel, ⟨_, [], rfl, hy, rfl⟩, rfl, ?_⟩
            revert p
            cases F [y] st with
            | ok s1 st1 =>
              intro p ρ2 G2 H2 v f2 r2 hv
              unfold strBk at p
              split at p
              · rename_i b st2 e
                cases e
                have hv0 := hv
                unfold Mz.SlR Rep at hv0
                subst hv0
                exact ⟨b, rfl, p ρ2 G2 H2 _ f2 r2 hv⟩
              · exact p.elim
            | ex c ns ws st1 => exact fun p => p.elim
            | bad => exact fun p => p.elim
          have bb := hb s [.ref a] I.kIn (by rw [List.append_nil]; exact hF.len [.ref a] _ _ _ sp)
          rw [List.append_nil] at bb
          have hu := hr.in1.in1.units
          refine PySem.W.kso_call (by omega) I.kIn J hs hf ?_
          refine wpAny_call (codeAny_mono (hF.run X.A.in1.in1 X.stack s H ⟨[.ref a], []⟩ [.ref a] [.ref a] _ _ hr.in1.in1 I.env0.in1.in1 bb (.cons rfl .nil) sp) fun r s' hq => ?_)
          cases r with
          | error e =>
            obtain ⟨_, _, _, _, _, hh⟩ := hq
            exact hh.2.2.2.2.2.2.2.elim
          | ok fl =>
            cases fl with
            | ret u =>
              obtain ⟨v, H', I3, rv3, b, rfl, q3⟩ := I.after hq
              obtain ⟨t, rfl⟩ := (show ∃ t, u = Value.str b t from rv3)
              exact ⟨.str b, H', I3, ⟨t, rfl⟩, q3⟩
            | next => exact False.elim hq
            | brk => exact False.elim hq
            | cont => exact False.elim hq
      · exact p.elim
    · exact p.elim
end
theorem strOwn_1 {c : Nat} {F : MF} {x : Sl} {st : Store} : strOwn c F [x] st = if isCl c st x = true then strBk (F [x] st) else .bad := rfl
theorem strBk_1 {a : Str} {st : Store} : strBk (.ok (.v (.str a)) st) = .ok (.v (.str a)) st := rfl
end Mz

set_option Elab.async false
set_option linter.all false
set_option maxRecDepth 100000
set_option maxHeartbeats 4000000
namespace L2
open PySem PySem.Spec PyProof.Rows
/-- t * x where nothing is repeated: the same tuple -/
theorem tuple_mulSame (l : Addr) (items : Array Value) (n : Nat) (dd : Option Addr) (sl : Array (Option Value)) (x : Int) (u : Tok) (c0 : (decide (x < -(2 ^ 63)) || decide (x ≥ 2 ^ 63)) = false) (c1 : (items.isEmpty || x == 1) = true) :
    Meets (Builtin.«tuple.__mul__» ⟨[.ref l, .int x u], []⟩) (fun _ R s => s.heap.get? l = some { cls := .type "tuple", dict := dd, data := .seq items n, slots := sl } ∧
      R (.ok (.ret (Value.ref l))) s) :=
  .of_wp fun prog w A R s h => by
    obtain ⟨hp, g, d, tk, os⟩ := s
    obtain ⟨hl, h⟩ := h
    have f1 := AutoSeq1.idx_int
    wp_walk using wpAny_loadPart' hl
    repeat (first
      | (refine wpAny_ite_false (decide_eq_false (by rw [c0]; exact Bool.false_ne_true)) ?_; wp_walk using wpAny_loadPart' hl)
      | (refine wpAny_ite_true (decide_eq_true (by rw [c1])) ?_; wp_walk using wpAny_loadPart' hl))
    exact ⟨_, rfl, h⟩
theorem tuple_mul0 (l : Addr) (items : Array Value) (n : Nat) (dd : Option Addr) (sl : Array (Option Value)) (x : Int) (u : Tok) (c0 : (decide (x < -(2 ^ 63)) || decide (x ≥ 2 ^ 63)) = false) (c1 : (items.isEmpty || x == 1) = false) (c2 : (decide (x ≤ 0) || items.isEmpty) = true) :
    Meets (Builtin.«tuple.__mul__» ⟨[.ref l, .int x u], []⟩) (fun _ R s => s.heap.get? l = some { cls := .type "tuple", dict := dd, data := .seq items n, slots := sl } ∧
      R (.ok (.ret (Value.ref s.heap.objs.size))) { s with heap := s.heap.push { cls := Value.type "tuple", data := Data.seq #[] }, toks := s.toks }) :=
  .of_wp fun prog w A R s h => by
    obtain ⟨hp, g, d, tk, os⟩ := s
    obtain ⟨hl, h⟩ := h
    have f1 := AutoSeq1.idx_int
    wp_walk using wpAny_loadPart' hl
    repeat (first
      | (refine wpAny_ite_false (decide_eq_false (by rw [c0]; exact Bool.false_ne_true)) ?_; wp_walk using wpAny_loadPart' hl)
      | (refine wpAny_ite_false (decide_eq_false (by rw [c1]; exact Bool.false_ne_true)) ?_; wp_walk using wpAny_loadPart' hl)
      | (refine wpAny_ite_true (decide_eq_true (by rw [c2])) ?_; wp_walk using wpAny_loadPart' hl))
    exact ⟨_, rfl, h⟩
def rRepA (K : PySem.W.Frag) : R2 := fun x y H Q => ∃ l k xs, x = .ref l ∧ y = .int k ∧ SqT K H l xs ∧ -(2 ^ 63) ≤ k ∧ k < 2 ^ 63 ∧ xs.length * k.toNat ≤ sizeLine ∧
  ((xs = [] ∨ k = 1) → Q (.ref l) H) ∧ (xs ≠ [] → k ≤ 0 → ∀ p, H p = none → Q (.ref p) (upd H p (.tup []))) ∧ (xs ≠ [] → 2 ≤ k → ∀ p, H p = none → Q (.ref p) (upd H p (.tup (List.replicate k.toNat xs).flatten)))
section
variable {X : Cx}
theorem op_repA : OpR X (binaryOp .Mult) (rRepA X.K) := by
  intro pins s σ H x y v u Q I rx ry h
  obtain ⟨l, k, xs, rfl, rfl, hT, h1, h2, hz, q1, q2, q3⟩ := h
  cases rx
  obtain ⟨t, rfl⟩ := ry
  obtain ⟨its, r, ⟨⟨cls, dd, data, sl⟩, ho, hc, n, hd⟩, hs⟩ := I.tuple hT
  simp only at hc hd
  subst hc hd
  have hle : its.length = xs.length := r.length.symm
  have hsz0 : its.toArray.size = xs.length := by rw [List.size_toArray, hle]
  have hem : its.toArray.isEmpty = decide (xs = []) := by
    cases its with
    | nil => rw [decide_eq_true (List.eq_nil_of_length_eq_zero hle.symm)]; rfl
    | cons a b => rw [decide_eq_false (fun e => by rw [e] at hle; cases hle)]; rfl
  have c0 : (decide (k < -(2 ^ 63)) || decide (k ≥ 2 ^ 63)) = false := by
    rw [decide_eq_false (by omega), decide_eq_false (by omega)] <;> rfl
  have go : ∀ (P : Prop), P → P := fun _ p => p
  by_cases hsame : xs = [] ∨ k = 1
  · have c1 : (its.toArray.isEmpty || k == 1) = true := by
      rw [hem]
      rcases hsame with e | e
      · rw [decide_eq_true e]; rfl
      · rw [e]; simp
    refine wpAny_binaryOp_repeat_ref (T := "tuple") (U := "int") (by decide) ⟨_, ho, rfl⟩ (fun s' => typeIs_int s' k t) noFill_tuple_mul F.fills_int_mul F.slot_int_rmul repeat_tuple F.slot_int_index.lookup
      (call_meets F.slot_int_rmul (typeIs_int s k t) F.entry_int_rmul (F.args_int_rmul_2 _ _) (int_rmul_tuple k t l its.toArray n dd sl)
        ⟨ho, rfl, ⟨_, ho, rfl⟩, call_meets F.slot_tuple_mul ⟨_, ho, rfl⟩ F.entry_tuple_mul (F.args_tuple_mul_2 _ _) (tuple_mulSame l its.toArray n dd sl k t c0 c1) ⟨ho, ?_⟩⟩)
    exact ⟨.ref l, H, I, rfl, q1 hsame⟩
  · have hne : xs ≠ [] := fun e => hsame (.inl e)
    have hk1 : k ≠ 1 := fun e => hsame (.inr e)
    have hi : its.toArray.isEmpty = false := by rw [hem, decide_eq_false hne]
    have c1 : (its.toArray.isEmpty || k == 1) = false := by
      rw [hi, Bool.false_or]
      exact beq_eq_false_iff_ne.mpr hk1
    by_cases hk : k ≤ 0
    · have c2 : (decide (k ≤ 0) || its.toArray.isEmpty) = true := by rw [decide_eq_true hk]; rfl
      refine wpAny_binaryOp_repeat_ref (T := "tuple") (U := "int") (by decide) ⟨_, ho, rfl⟩ (fun s' => typeIs_int s' k t) noFill_tuple_mul F.fills_int_mul F.slot_int_rmul repeat_tuple F.slot_int_index.lookup
        (call_meets F.slot_int_rmul (typeIs_int s k t) F.entry_int_rmul (F.args_int_rmul_2 _ _) (int_rmul_tuple k t l its.toArray n dd sl)
          ⟨ho, rfl, ⟨_, ho, rfl⟩, call_meets F.slot_tuple_mul ⟨_, ho, rfl⟩ F.entry_tuple_mul (F.args_tuple_mul_2 _ _) (tuple_mul0 l its.toArray n dd sl k t c0 c1 c2) ⟨ho, ?_⟩⟩)
      refine ⟨.ref s.heap.objs.size, _, I.laid (t' := s.toks) (o := .tup []) (fun b ob q => Heap.get?_push_of_some _ q) (Nat.le_refl _) ?_, rfl, q2 hne hk _ (I.hok.fresh (Nat.le_refl _))⟩
      exact ⟨by rw [sizeLine_eq]; exact Nat.zero_le _, [], .nil, IsTup.new _ _⟩
    · have c2 : (decide (k ≤ 0) || its.toArray.isEmpty) = false := by
        rw [hi, Bool.or_false]
        exact decide_eq_false hk
      have hmz : ((its.toArray.size : Nat) : Int) * k ≤ (sizeLine : Nat) := by
        rw [hsz0]
        have e : k = ((k.toNat : Nat) : Int) := by omega
        rw [e, ← Int.natCast_mul]
        exact Int.ofNat_le.mpr hz
      have c4 : Builtin.Tuple.tupleTooMany (((its.toArray.size : Nat) : Int) * k) = false := by
        unfold Builtin.Tuple.tupleTooMany
        exact decide_eq_false (by omega)
      have flen : (List.replicate k.toNat its).flatten.length ≤ sizeLine := by
        rw [PyProof.Rows.lm_len_rep_flat, hle, Nat.mul_comm]; exact hz
      have hsl := sizeLine_eq
      refine wpAny_binaryOp_repeat_ref (T := "tuple") (U := "int") (by decide) ⟨_, ho, rfl⟩ (fun s' => typeIs_int s' k t) noFill_tuple_mul F.fills_int_mul F.slot_int_rmul repeat_tuple F.slot_int_index.lookup
        (call_meets F.slot_int_rmul (typeIs_int s k t) F.entry_int_rmul (F.args_int_rmul_2 _ _) (int_rmul_tuple k t l its.toArray n dd sl)
          ⟨ho, rfl, ⟨_, ho, rfl⟩, call_meets F.slot_tuple_mul ⟨_, ho, rfl⟩ F.entry_tuple_mul (F.args_tuple_mul_2 _ _) (tuple_mulW l its.toArray n dd sl k t c0 c1 c2 (by omega) c4 (by rw [size_rep, List.size_toArray]; exact flen)) ⟨ho, ?_⟩⟩)
      rw [size_rep]
      refine ⟨.ref s.heap.objs.size, _, I.laid (t' := s.toks) (o := .tup (List.replicate k.toNat xs).flatten) (fun b ob q => Heap.get?_push_of_some _ q) (Nat.le_refl _) ?_, rfl, q3 hne (by omega) _ (I.hok.fresh (Nat.le_refl _))⟩
      exact ⟨by rw [PyProof.Rows.lm_len_rep_flat, Nat.mul_comm]; exact hz, _, r.rep k.toNat, IsTup.new _ _⟩
end
end L2
namespace Mz
open PySem PySem.Spec PyProof.Rows L2
/-! ## 42. list * int, tuple * int -/
def opRep : Op2
  | .v (.tup xs), .v (.int k), st => if xs.length * k.toNat ≤ big ∧ -(2 ^ 63) ≤ k ∧ k < 2 ^ 63 then .ok (.v (.tup (List.replicate k.toNat xs).flatten)) st else .bad
  | .v (.lst xs), .v (.int k), st => if xs.length * k.toNat ≤ big ∧ -(2 ^ 63) ≤ k ∧ k < 2 ^ 63 then .ok (.v (.lst (List.replicate k.toNat xs).flatten)) st else .bad
  | .l n, .v (.int k), st => match st.lget n with
    | some xs => if xs.length * k.toNat ≤ big ∧ -(2 ^ 63) ≤ k ∧ k < 2 ^ 63 then .ok (.v (.lst (List.replicate k.toNat xs).flatten)) st else .bad
    | none => .bad
  | _, _, _ => .bad
theorem reps_rep {T : Tx} {G : Hp} {xs : List W} {vs : List V} (h : Reps T G xs vs) : ∀ m : Nat, Reps T G (List.replicate m xs).flatten (List.replicate m vs).flatten
  | 0 => Reps.nil
  | m + 1 => by
    rw [List.replicate_succ, List.replicate_succ, List.flatten_cons, List.flatten_cons]
    exact h.append (reps_rep h m)
abbrev rRepAll (K : PySem.W.Frag) : R2 := fun x y H Q => rRep x y H Q ∨ rRepA K x y H Q
theorem op_repAll {X : Cx} : OpR X (binaryOp .Mult) (rRepAll X.K) := op_rep.or op_repA
theorem s_rep {T : Tx} : OpS T (rRepAll T.K) opRep := fun ρ G H st x y u v Q E r hx hy p => by
  unfold opRep at p
  split at p
  · rename_i xs k
    split at p
    · rename_i hz
      have hx0 := hx
      unfold SlR Rep at hx hy
      subst hy
      obtain ⟨a, vs, rfl, ha, hvs⟩ := hx
      refine .inr ⟨a, k, vs, rfl, rfl, sqt_mono r.ext ha, hz.2.1, hz.2.2, by rw [big_line, ← hvs.length]; exact hz.1, fun h => ?_, fun h1 h2 q hq => ?_, fun h1 h2 q hq => ?_⟩
      · have e : (List.replicate k.toNat xs).flatten = xs := by
          rcases h with h | h
          · have : xs = [] := List.length_eq_zero_iff.mp (by rw [hvs.length, h]; rfl)
            subst this
            simp
          · subst h
            simp
        rw [e] at p
        exact p.give r hx0
      · obtain ⟨f, r2⟩ := r.newG (o := .tup []) hq
        have e : k.toNat = 0 := by omega
        rw [e] at p
        exact p _ _ _ _ f r2 (by unfold SlR Rep; exact ⟨q, [], rfl, SqT.of upd_same, Reps.nil⟩)
      · obtain ⟨f, r2⟩ := r.newG (o := .tup (List.replicate k.toNat vs).flatten) hq
        exact p _ _ _ _ f r2 (by unfold SlR Rep; exact ⟨q, _, rfl, SqT.of upd_same, Reps.mono f.ex _ _ (reps_rep hvs _)⟩)
    · exact p.elim
  · rename_i xs k
    split at p
    · rename_i hz
      unfold SlR Rep at hx hy
      subst hy
      obtain ⟨a, vs, rfl, ha, hvs⟩ := hx
      refine .inl ⟨a, k, vs, rfl, rfl, r.ext _ _ ha, hz.2.1, hz.2.2, by rw [big_line, ← hvs.length]; exact hz.1, fun q hq => ?_⟩
      obtain ⟨f, r2⟩ := r.newG (o := .lst (List.replicate k.toNat vs).flatten) hq
      exact p _ _ _ _ f r2 (by unfold SlR Rep; exact ⟨q, _, rfl, upd_same, Reps.mono f.ex _ _ (reps_rep hvs _)⟩)
    · exact p.elim
  · rename_i n k
    split at p
    · rename_i xs hn
      split at p
      · rename_i hz
        obtain ⟨a, vs, h1, rfl, h3, hvs⟩ := lst_at r hx hn
        unfold SlR Rep at hy
        subst hy
        refine .inl ⟨a, k, vs, rfl, rfl, h3, hz.2.1, hz.2.2, by rw [big_line, ← hvs.length]; exact hz.1, fun q hq => ?_⟩
        obtain ⟨f, r2⟩ := r.newG (o := .lst (List.replicate k.toNat vs).flatten) hq
        exact p _ _ _ _ f r2 (by unfold SlR Rep; exact ⟨q, _, rfl, upd_same, Reps.mono f.ex _ _ (reps_rep hvs _)⟩)
      · exact p.elim
    · exact p.elim
  · exact p.elim
theorem o_repT {xs : List W} {k : Nat} {st : Store} (h : xs.length * k ≤ big) (hk : k ≤ big) : opRep (.v (.tup xs)) (.v (.int (k : Int))) st = .ok (.v (.tup (List.replicate k xs).flatten)) st := by
  have hb := big62
  unfold opRep; dsimp only
  rw [Int.toNat_natCast, if_pos ⟨h, by omega, by omega⟩]
theorem o_repL {xs : List W} {k : Nat} {st : Store} (h : xs.length * k ≤ big) (hk : k ≤ big) : opRep (.v (.lst xs)) (.v (.int (k : Int))) st = .ok (.v (.lst (List.replicate k xs).flatten)) st := by
  have hb := big62
  unfold opRep; dsimp only
  rw [Int.toNat_natCast, if_pos ⟨h, by omega, by omega⟩]
theorem i_int {i : Int} {st : Store} : items st (.v (.int i)) = none := rfl
end Mz

set_option Elab.async false
set_option linter.all false
set_option maxRecDepth 100000
set_option maxHeartbeats 4000000
namespace Mz
open PySem PySem.Spec PyProof.Rows L2
/-! ## 43. a call with no arguments -/
section
variable {X : Cx} {cl : Nat → Addr} {Wx : WX}
theorem ie_call0 {F : MF} {k : Nat} {f : Addr} {fd : FuncData} {ps : List Str} {x : Str} {p pos : Pos} (hF : FnOk X.prog X.w X.K X.mg X.base (L2.CX X.prog X.w) k f fd ps (spM ⟨X.K, cl⟩ 0 F)) (tk : Takes X Wx) (hr : Room k X.A) (hg : Gl X x) (hm : X.mg x = some (.ref f))
    (hk : PySem.W.keepIn X.K (.ref f) = true) (hb : Binds X.K fd ps []) (hdb : (x == ("__debug__" : Str)) = false := by decide) : IE X cl Wx (.Call (.Name x p) [] [] pos) (mCall F mNil) := by
  refine ⟨fun pins s σ H Q I h => ?_⟩
  obtain ⟨env, ρ, G, st, rel, er, q⟩ := h
  refine wpAny_Call_Name_kw (ld_glob I hg hm ?_ hdb)
  exact PySem.W.callWith_K0 I.kIn hk (run_fnS (E := WE Wx) (us := []) (vs := []) hF hr hb (passAt tk σ) I .nil ⟨ρ, G, st, [], rel, rfl, rfl, q⟩)
end
end Mz

set_option Elab.async false
set_option linter.all false
set_option maxRecDepth 100000
set_option maxHeartbeats 4000000
namespace Mz
open PySem PySem.Spec PyProof.Rows L2
/-! ## 44. a list of the store that stays as it is from now on; split into a list that is changed -/
section
variable {T : Tx} {ρ : Mp} {G H : Hp} {st : Store}
theorem Rel.kill (r : Rel T ρ G H st) {n : Nat} {a : Addr} {xs : List W} (hn : ρ.l[n]? = some a) (hx : st.lget n = some xs) :
    ∃ vs, Fr ρ ρ G (upd G a (.lst vs)) ∧ Rel T ρ (upd G a (.lst vs)) H (st.setl n .dead) ∧ Reps T (upd G a (.lst vs)) xs vs := by
  have hx0 := Store.lget_of hx
  obtain ⟨hG, o, ho, vs, rfl, hr⟩ := r.la n a _ hn hx0
  replace hG := hG (fun z => by cases z)
  have f : Fr ρ ρ G (upd G a (.lst vs)) := ⟨(Fr.refl ρ G).le, updG_ex hG⟩
  refine ⟨vs, f, ⟨fun b u e => ?_, ?_, r.lo, fun m b y hm hy => ?_, fun m b y hm hy => ?_, r.nl, r.no, r.tb, nt_upd r.nt (fun _ z => nomatch z)⟩, Reps.mono f.ex _ _ hr⟩
  · by_cases hb : b = a
    · subst hb; rw [upd_same] at e; cases e; exact ho
    · rw [upd_ne hb] at e; exact r.ext b u e
  · show ρ.l.length = (st.l.set n .dead).length
    rw [List.length_set]; exact r.ll
  · by_cases hmn : n = m
    · subst hmn
      rw [hn] at hm; cases hm
      have hy' : (st.l.set n Lo.dead)[n]? = some y := hy
      rw [List.getElem?_set_self (get_lt hx0)] at hy'; cases hy'
      exact ⟨fun z => absurd rfl z, _, ho, .inl ⟨vs, rfl⟩⟩
    · have hb : b ≠ a := fun z => hmn (nodup_get r.nl hn (z ▸ hm))
      have hy' : (st.l.set n Lo.dead)[m]? = some y := hy
      rw [List.getElem?_set_ne hmn] at hy'
      obtain ⟨h1, o', h2, h3⟩ := r.la m b y hm hy'
      exact ⟨fun hd => by rw [upd_ne hb]; exact h1 hd, o', h2, h3.mono f.ex⟩
  · obtain ⟨h1, o', h2, h3⟩ := r.oa m b y hm hy
    have hb : b ≠ a := fun z => r.apart hn hm z.symm
    exact ⟨by rw [upd_ne hb]; exact h1, o', h2, h3.mono f⟩
end
def fzOf (x : Sl) (st : Store) : Res Sl := match x with
  | .v w => .ok (.v w) st
  | .l n => match st.lget n with
    | some xs => .ok (.v (.lst xs)) (st.setl n .dead)
    | none => .bad
  | .o _ => .bad
def mFz (a : ME) : ME := fun env st => (a env st).bind fzOf
def splitOfM (a : Str) (y : Sl) (st : Store) : Res Sl := match y with
  | .v (.str b) => if (b.length == 0) = false ∧ a.length + 2 ≤ big then .ok (.l st.l.length) (st.push (.lst ((Txt.split a b).map W.str))) else .bad
  | _ => .bad
def mSplitM (o e : ME) : ME := fun env st => (o env st).bind fun x st1 => match x with
  | .v (.str a) => (e env st1).bind fun y st2 => splitOfM a y st2
  | _ => .bad
section
variable {X : Cx} {cl : Nat → Addr} {Wx : WX} {o e : Expr} {mo me : ME} {pos apos : Pos}
theorem ie_fz (he : IE X cl Wx e me) : IE X cl Wx e (mFz me) :=
  pe_weak he fun σ H Q ⟨env, ρ, G, st, rel, er, p⟩ => ⟨env, ρ, G, st, rel, er, PostR.bind (R1 := Mz.SlR ⟨X.K, cl⟩) p fun x st1 ρ1 G1 H1 u f1 r1 s1 p1 => by
    cases x with
    | v w => exact p1.give r1 s1
    | l n =>
      unfold fzOf at p1
      dsimp only at p1
      split at p1
      · rename_i xs hx
        obtain ⟨a, ha, rfl⟩ := s1
        obtain ⟨vs, f2, r2, hr⟩ := r1.kill ha hx
        exact p1 _ _ _ _ f2 r2 (by unfold Mz.SlR Rep; exact ⟨a, vs, rfl, upd_same, hr⟩)
      · exact p1.elim
    | o n => exact p1.elim⟩
theorem ie_splitM (ho : IE X cl Wx o mo) (he : IE X cl Wx e me) (hs : starEach [e] X.env = [(false, eval e X.env)] := by rfl) (hbase : attributeBase o "split" X.env (eval o X.env) = eval o X.env := by rfl) (hline : (apos.endLine == pos.line) = true := by rfl) :
    IE X cl Wx (.Call (.Attribute o "split" apos) [e] [] pos) (mSplitM mo me) :=
  pe_weak (pe_split ho he hs hbase hline) fun σ H Q ⟨env, ρ, G, st, rel, er, p⟩ => ⟨env, ρ, G, st, rel, er, PostR.bind (R1 := Mz.SlR ⟨X.K, cl⟩) p fun x st1 ρ1 G1 H1 u f1 r1 s1 p1 => by
    split at p1
    · rename_i a
      have s0 := s1
      unfold Mz.SlR Rep at s0
      subst s0
      refine ⟨⟨a, rfl⟩, env, ρ1, G1, st1, r1, er.mono f1, PostR.bind (R1 := Mz.SlR ⟨X.K, cl⟩) p1 fun y st2 ρ2 G2 H2 v f2 r2 s2 p2 => ?_⟩
      unfold splitOfM at p2
      split at p2
      · rename_i b
        split at p2
        · rename_i hz
          have s0 := s2
          unfold Mz.SlR Rep at s0
          subst s0
          refine ⟨a, b, rfl, rfl, hz.1, by rw [big_line]; exact hz.2, fun q hq => ?_⟩
          obtain ⟨f3, r3⟩ := r2.newL (o := .lst ((Txt.split a b).map V.str)) (x := .lst ((Txt.split a b).map W.str)) hq ⟨_, rfl, reps_strs _⟩
          refine p2 _ _ _ _ f3 r3 ⟨q, ?_, rfl⟩
          rw [← r2.ll]
          show (ρ2.l ++ [q])[ρ2.l.length]? = some q
          simp
        · exact p2.elim
      · exact p2.elim
    · exact p1.elim⟩
end
/-! small steps -/
section
variable {a b : Str} {x y : Sl} {st : Store} {env : Env} {o e : ME} {xs : List W} {n : Nat} {w : W}
def kFz (r : Res Sl) : Res Sl := r.bind fzOf
def kFz2 (n : Nat) (o : Option (List W)) (st : Store) : Res Sl := match o with
    | some xs => .ok (.v (.lst xs)) (st.setl n .dead)
    | none => .bad
theorem e_fz : mFz e env st = kFz (e env st) := rfl
theorem k_fzv : kFz (.ok (.v w) st) = .ok (.v w) st := rfl
theorem k_fzl : kFz (.ok (.l n) st) = kFz2 n (st.lget n) st := rfl
theorem k_fz2 : kFz2 n (some xs) st = .ok (.v (.lst xs)) (st.setl n .dead) := rfl
def kSplitM1 (e : ME) (env : Env) (r : Res Sl) : Res Sl := r.bind fun x st1 => match x with
  | .v (.str a) => (e env st1).bind fun y st2 => splitOfM a y st2
  | _ => .bad
def kSplitM2 (a : Str) (r : Res Sl) : Res Sl := r.bind fun y st2 => splitOfM a y st2
theorem e_splitM : mSplitM o e env st = kSplitM1 e env (o env st) := rfl
theorem k_splitM1 : kSplitM1 e env (.ok (.v (.str a)) st) = kSplitM2 a (e env st) := rfl
theorem k_splitM2 : kSplitM2 a (.ok y st) = splitOfM a y st := rfl
theorem splitM_ok (h : (b.length == 0) = false) (hz : a.length + 2 ≤ big) : splitOfM a (.v (.str b)) st = .ok (.l st.l.length) (st.push (.lst ((Txt.split a b).map W.str))) := by
  unfold splitOfM; dsimp only; rw [if_pos ⟨h, hz⟩]
end
end Mz

set_option Elab.async false
set_option linter.all false
set_option maxRecDepth 100000
set_option maxHeartbeats 4000000
namespace Mz
open PySem PySem.Spec PyProof.Rows L2
/-! ## 45. int(text) -/
def fIntX : MF
  | [.v (.int i)], st => .ok (.v (.int i)) st
  | [.v (.bl b)], st => .ok (.v (.int (if b then 1 else 0))) st
  | [.v (.str a)], st => if a.length ≤ 640 then (match intText? a with
    | some n => .ok (.v (.int n)) st
    | none => .bad) else .bad
  | _, _ => .bad
abbrev rIntX : List V → Hp → VK → Prop := fun xs H Q => ((∃ i, xs = [.int i] ∧ Q (.int i) H) ∨ ∃ k, xs = [.bl k] ∧ Q (.int (if k then 1 else 0)) H) ∨ ∃ a n, xs = [.str a] ∧ PySem.intText? a = some n ∧ a.length ≤ 640 ∧ Q (.int n) H
theorem s_intX {T : Tx} : CaS T rIntX fIntX := fun ρ G H st xs us Q E r hs p => by
  unfold fIntX at p
  split at p
  · obtain ⟨u, rfl, hx⟩ := slrs1 hs
    unfold SlR Rep at hx; subst hx
    exact .inl (.inl ⟨_, rfl, pg p r rep_int⟩)
  · obtain ⟨u, rfl, hx⟩ := slrs1 hs
    unfold SlR Rep at hx; subst hx
    exact .inl (.inr ⟨_, rfl, pg p r rep_int⟩)
  · obtain ⟨u, rfl, hx⟩ := slrs1 hs
    unfold SlR Rep at hx; subst hx
    split at p
    · rename_i hl
      split at p
      · rename_i n hn
        exact .inr ⟨_, n, rfl, hn, hl, pg p r rep_int⟩
      · exact p.elim
    · exact p.elim
  · exact p.elim
theorem call_intX {X : Cx} : CallR X (.type "int") rIntX := fun pins s σ H xs us Q I r h => by
  rcases h with h | h
  · exact call_int1 pins s σ H xs us Q I r h
  · exact call_int_str pins s σ H xs us Q I r h
theorem f_intx {i : Int} {st : Store} : fIntX [.v (.int i)] st = .ok (.v (.int i)) st := rfl
theorem f_intxS {a : Str} {n : Int} {st : Store} (h : intText? a = some n) (hl : a.length ≤ 640) : fIntX [.v (.str a)] st = .ok (.v (.int n)) st := by
  unfold fIntX; dsimp only; rw [if_pos hl, h]
/-! ## 46. texts by their codes -/
abbrev tx (cs : List Nat) : Str := ⟨cs.toArray⟩
theorem tx_of (x : Str) : x = tx x.cps.toList := by cases x; rfl
theorem tx_ex (x : Str) : ∃ cs, x = tx cs := ⟨_, tx_of x⟩
theorem tx_inj {a b : List Nat} : tx a = tx b ↔ a = b := ⟨fun h => SX.S_inj h, fun h => by rw [h]⟩
theorem tx_len {a : List Nat} : (tx a).length = a.length := SX.S_len a
theorem tx_app {a b : List Nat} : tx a ++ tx b = tx (a ++ b) := SX.S_cat a b
theorem tx_signs {a : List Nat} : signs (tx a) = a.map fun c => .str (tx [c]) := rfl
theorem tx_dec {a b : List Nat} : decide (tx a = tx b) = decide (a = b) := by simp [tx_inj]
abbrev joinC (s : List Nat) (ps : List (List Nat)) : List Nat := TL.joinL s ps
theorem tx_join {s : List Nat} {ps : List (List Nat)} : Txt.join (tx s) (ps.map tx) = tx (joinC s ps) := SX.join_S s ps
theorem ofS (s : String) : Str.ofString s = tx (s.toList.map Char.toNat) := Str.ofString_eq_toList s
theorem tx_take {a : List Nat} {k : Nat} : cutS (tx a) none (some (k : Int)) = tx (a.take k) := by
  unfold cutS
  rw [HT.sIx_none, HT.sIx_nat]
  show (⟨_⟩ : Str) = _
  rw [tx_len]
  show tx ((a.drop 0).take (min k a.length - 0)) = tx (a.take k)
  rw [List.drop_zero, Nat.sub_zero]
  congr 1
  by_cases h : k ≤ a.length
  · rw [Nat.min_eq_left h]
  · rw [Nat.min_eq_right (by omega), List.take_of_length_le (Nat.le_refl _), List.take_of_length_le (by omega)]
theorem tx_drop {a : List Nat} {k : Nat} : cutS (tx a) (some (k : Int)) none = tx (a.drop k) := by
  unfold cutS
  rw [HT.sIx_none, HT.sIx_nat]
  show (⟨_⟩ : Str) = _
  rw [tx_len]
  show tx ((a.drop (min k a.length)).take (a.length - min k a.length)) = tx (a.drop k)
  congr 1
  by_cases h : k ≤ a.length
  · rw [Nat.min_eq_left h, List.take_of_length_le (by rw [List.length_drop]; omega)]
  · rw [Nat.min_eq_right (by omega), List.drop_of_length_le (Nat.le_refl _), List.drop_of_length_le (by omega)]
    simp
/-! parts that are split off at one sign -/
def spl (c : Nat) : List Nat → List (List Nat)
  | [] => [[]]
  | x :: r => if x = c then [] :: spl c r else match spl c r with
    | p :: ps => (x :: p) :: ps
    | [] => [[x]]
def flt (c : Nat) (ps : List (List Nat)) : List Nat := (ps.map (· ++ [c])).flatten
theorem flt_nil {c : Nat} : flt c [] = [] := rfl
theorem flt_cons {c : Nat} {p : List Nat} {ps : List (List Nat)} : flt c (p :: ps) = p ++ c :: flt c ps := by unfold flt; simp
theorem flt_app {c : Nat} {ps qs : List (List Nat)} : flt c (ps ++ qs) = flt c ps ++ flt c qs := by unfold flt; simp
theorem spl_ne {c : Nat} : ∀ {a : List Nat}, spl c a ≠ []
  | [] => by unfold spl; simp
  | x :: r => by
    unfold spl
    split
    · simp
    · split <;> simp
theorem flt_spl {c : Nat} : ∀ {a : List Nat}, flt c (spl c a) = a ++ [c]
  | [] => rfl
  | x :: r => by
    have ih := flt_spl (c := c) (a := r)
    unfold spl
    split
    · rename_i h
      rw [flt_cons, ih, h]; rfl
    · split
      · rename_i p ps e
        rw [e, flt_cons] at ih
        rw [flt_cons, List.cons_append, ih]; rfl
      · rename_i e
        exact absurd e spl_ne
theorem spl_free {c : Nat} : ∀ {a : List Nat}, ∀ p ∈ spl c a, c ∉ p
  | [], p, h => by
    unfold spl at h
    rw [List.mem_singleton.mp h]; simp
  | x :: r, p, h => by
    have ih := spl_free (c := c) (a := r)
    unfold spl at h
    split at h
    · rcases List.mem_cons.mp h with rfl | h
      · simp
      · exact ih p h
    · rename_i hx
      split at h
      · rename_i q ps e
        rw [e] at ih
        rcases List.mem_cons.mp h with rfl | h
        · intro z
          rcases List.mem_cons.mp z with z | z
          · exact hx z.symm
          · exact ih q List.mem_cons_self z
        · exact ih p (List.mem_cons_of_mem _ h)
      · rename_i e
        exact absurd e spl_ne
/-- the first sign c tells the first part -/
theorem first_part {c : Nat} : ∀ {p q r s : List Nat}, c ∉ p → c ∉ q → p ++ c :: r = q ++ c :: s → p = q ∧ r = s
  | [], [], r, s, _, _, h => ⟨rfl, by simpa using h⟩
  | [], y :: q, r, s, _, hq, h => by
    rw [List.nil_append, List.cons_append, List.cons.injEq] at h
    exact absurd (h.1 ▸ List.mem_cons_self) hq
  | x :: p, [], r, s, hp, _, h => by
    rw [List.nil_append, List.cons_append, List.cons.injEq] at h
    exact absurd (h.1 ▸ List.mem_cons_self) hp
  | x :: p, y :: q, r, s, hp, hq, h => by
    rw [List.cons_append, List.cons_append, List.cons.injEq] at h
    obtain ⟨h1, h2⟩ := first_part (fun z => hp (List.mem_cons_of_mem _ z)) (fun z => hq (List.mem_cons_of_mem _ z)) h.2
    exact ⟨by rw [h.1, h1], h2⟩
/-- what begins a filled row of parts -/
theorem flt_pre {c : Nat} : ∀ {ps qs : List (List Nat)} {w post : List Nat}, (∀ p ∈ ps, c ∉ p) → (∀ q ∈ qs, c ∉ q) → c ∉ w → flt c qs = flt c ps ++ (w ++ c :: post) → ∃ rest, qs = ps ++ w :: rest ∧ post = flt c rest
  | [], [], w, post, _, _, _, h => by
    rw [flt_nil, List.nil_append] at h
    simp at h
  | [], q :: qs, w, post, _, hq, hw, h => by
    rw [flt_nil, List.nil_append, flt_cons] at h
    obtain ⟨rfl, h2⟩ := first_part (hq q List.mem_cons_self) hw h
    exact ⟨qs, rfl, h2.symm⟩
  | p :: ps, [], w, post, _, _, _, h => by
    rw [flt_nil, flt_cons] at h
    simp at h
  | p :: ps, q :: qs, w, post, hp, hq, hw, h => by
    rw [flt_cons, flt_cons, List.append_assoc, List.cons_append] at h
    obtain ⟨rfl, h2⟩ := first_part (hq q List.mem_cons_self) (hp p List.mem_cons_self) h
    obtain ⟨rest, rfl, e⟩ := flt_pre (fun x hx => hp x (List.mem_cons_of_mem _ hx)) (fun x hx => hq x (List.mem_cons_of_mem _ hx)) hw h2
    exact ⟨rest, rfl, e⟩
theorem flt_inj {c : Nat} : ∀ {ps qs : List (List Nat)}, (∀ p ∈ ps, c ∉ p) → (∀ q ∈ qs, c ∉ q) → flt c ps = flt c qs → ps = qs
  | [], [], _, _, _ => rfl
  | [], q :: qs, _, _, h => by rw [flt_nil, flt_cons] at h; simp at h
  | p :: ps, [], _, _, h => by rw [flt_nil, flt_cons] at h; simp at h
  | p :: ps, q :: qs, hp, hq, h => by
    rw [flt_cons, flt_cons] at h
    obtain ⟨rfl, h2⟩ := first_part (hp p List.mem_cons_self) (hq q List.mem_cons_self) h
    rw [flt_inj (fun x hx => hp x (List.mem_cons_of_mem _ hx)) (fun x hx => hq x (List.mem_cons_of_mem _ hx)) h2]
theorem flt_join {c : Nat} : ∀ {ps : List (List Nat)}, ps ≠ [] → flt c ps = joinC [c] ps ++ [c]
  | [], h => absurd rfl h
  | [p], _ => by rw [flt_cons, flt_nil]; rfl
  | p :: q :: ps, _ => by
    have ih := flt_join (c := c) (ps := q :: ps) (List.cons_ne_nil _ _)
    rw [flt_cons, ih]
    show _ = (p ++ ([c] ++ TL.joinL [c] (q :: ps))) ++ [c]
    simp
theorem spl_joinC {c : Nat} {ps : List (List Nat)} (hp : ∀ p ∈ ps, c ∉ p) (h : ps ≠ []) : spl c (joinC [c] ps) = ps :=
  flt_inj spl_free hp (by rw [flt_spl, flt_join h])
theorem join_spl {c : Nat} {a : List Nat} : joinC [c] (spl c a) = a := by
  have h := flt_join (c := c) (ps := spl c a) spl_ne
  rw [flt_spl] at h
  exact (List.append_cancel_right h).symm
theorem tx_split {c : Nat} {a : List Nat} : Txt.split (tx a) (tx [c]) = (spl c a).map tx := by
  have h1 := StrLaws.join_split (tx a) (tx [c])
  have h2 := StrLaws.split_free (tx a) c
  obtain ⟨ps, hps⟩ : ∃ ps : List (List Nat), Txt.split (tx a) (tx [c]) = ps.map tx := ⟨(Txt.split (tx a) (tx [c])).map fun x => x.cps.toList, by rw [List.map_map]; exact (List.map_id'' (fun x => (tx_of x).symm) _).symm⟩
  have hf : ∀ p ∈ ps, c ∉ p := fun p hp => by
    have := h2 (tx p) (by rw [hps]; exact List.mem_map_of_mem hp)
    simpa using this
  have hj : joinC [c] ps = a := by
    rw [hps] at h1
    have e := tx_join (s := [c]) (ps := ps)
    unfold Txt.join at e
    rw [StrLaws.glued_eq_join, h1] at e
    exact (tx_inj.mp e).symm
  have hne : ps ≠ [] := fun z => by
    subst z
    have ha : a = [] := hj.symm
    subst ha
    have e : Txt.split (tx []) (tx [c]) = [tx []] := by
      unfold Txt.split
      rw [if_pos (by rw [tx_len, tx_len]; rfl)]
    rw [e] at hps
    cases hps
  rw [hps, ← hj, spl_joinC hf hne]
theorem joinC_len {c : Nat} {ps : List (List Nat)} (h : ps ≠ []) : (joinC [c] ps).length + 1 = (ps.map List.length).sum + ps.length := by
  have e := congrArg List.length (flt_join (c := c) h)
  rw [List.length_append, List.length_singleton] at e
  rw [← e]
  clear e h
  induction ps with
  | nil => rfl
  | cons p ps ih => rw [flt_cons, List.length_append, List.length_cons, ih, List.map_cons, List.sum_cons, List.length_cons]; omega
theorem lens_tx {ps : List (List Nat)} : ((ps.map tx).map Str.length).sum = (ps.map List.length).sum := by
  rw [List.map_map, show Str.length ∘ tx = List.length from funext fun p => tx_len]
theorem joinT {s : List Nat} {ps : List (List Nat)} {y : Sl} {st : Store} (h : litems st y = some ((ps.map tx).map W.str)) (hz : (ps.map List.length).sum + ps.length * s.length ≤ 16777216) : joinOf (tx s) y st = .ok (.v (.str (tx (joinC s ps)))) st := by
  rw [join_ok h (by rw [lens_tx, List.length_map, tx_len]; exact hz), tx_join]
theorem splitT {a : List Nat} {c : Nat} {st : Store} (h : a.length + 2 ≤ big) : splitOf (tx a) (.v (.str (tx [c]))) st = .ok (.v (.lst (((spl c a).map tx).map W.str))) st := by
  rw [split_ok (by rw [tx_len]; rfl) (by rw [tx_len]; exact h), tx_split]
theorem splitMT {a : List Nat} {c : Nat} {st : Store} (h : a.length + 2 ≤ big) : splitOfM (tx a) (.v (.str (tx [c]))) st = .ok (.l st.l.length) (st.push (.lst (((spl c a).map tx).map W.str))) := by
  rw [splitM_ok (by rw [tx_len]; rfl) (by rw [tx_len]; exact h), tx_split]
/-! an error leaves the store as it was -/
theorem fin_cutx {st st1 : Store} {c : Nat} {ns : List Str} {ws : List W} {env : Env} (ho : st1.o = st.o) : fin .tr st (.ex c ns ws env st1) = .ex c ns ws ⟨st1.l.take st.l.length, st.o⟩ := by
  unfold fin cut; dsimp only; rw [if_pos (by rw [ho, List.take_length])]
theorem fin_pushx {st st1 : Store} {c : Nat} {ns : List Str} {ws : List W} {env : Env} {x : Lo} (hl : st1.l.length = st.l.length) (ho : st1.o = st.o) : fin .tr st (.ex c ns ws env (st1.push x)) = .ex c ns ws st1 := by
  rw [fin_cutx (by rw [st_push_o]; exact ho), take_push hl ho]
/-! numbers as texts -/
theorem str_nat {n : Nat} : (PySem.Str.ofString (toString (n : Int))) = tx (TL.numL n) := SX.num_S n
end Mz

set_option Elab.async false
set_option linter.all false
set_option maxRecDepth 100000
set_option maxHeartbeats 4000000
namespace Mz
open PySem PySem.Spec PyProof.Rows L2
/-! ## 47. f-strings -/
def fmtOf (x : Sl) (st : Store) : Res Sl := match x with
  | .v (.str y) => if y.length ≤ big then .ok (.v (.str y)) st else .bad
  | .v (.int i) => if i.natAbs.log2 < 1920 then .ok (.v (.str (toString i))) st else .bad
  | _ => .bad
def mFmt (m : ME) : ME := fun env st => (m env st).bind fmtOf
def jsGo : List ME → Str → Mz.Env → Store → Res Sl
  | [], acc, _, st => .ok (.v (.str acc)) st
  | m :: ms, acc, env, st => (m env st).bind fun x st1 => match x with
    | .v (.str y) => if (acc ++ y).length ≤ big then jsGo ms (acc ++ y) env st1 else .bad
    | _ => .bad
def mJs (ms : List ME) : ME := fun env st => jsGo ms Str.empty env st
section
variable {X : Cx} {cl : Nat → Addr} {Wx : WX} {e : Expr} {m : ME} {pos : Pos}
theorem ie_fmt (he : IE X cl Wx e m) : IE X cl Wx (.FormattedValue e (-1) none pos) (mFmt m) :=
  pe_weak (pe_fmt he) fun σ H Q ⟨env, ρ, G, st, rel, er, p⟩ => ⟨env, ρ, G, st, rel, er, PostR.bind (R1 := Mz.SlR ⟨X.K, cl⟩) p fun x st1 ρ1 G1 H1 u f1 r1 s1 p1 => by
    unfold fmtOf at p1
    split at p1
    · rename_i y
      unfold Mz.SlR Rep at s1
      subst s1
      split at p1
      · rename_i hz
        exact .inl ⟨y, rfl, by rw [big_line]; exact hz, pg p1 r1 rep_str⟩
      · exact p1.elim
    · rename_i i
      unfold Mz.SlR Rep at s1
      subst s1
      split at p1
      · rename_i hz
        exact .inr ⟨i, rfl, hz, pg p1 r1 rep_str⟩
      · exact p1.elim
    · exact p1.elim⟩
abbrev IJ (X : Cx) (cl : Nat → Addr) (Wx : WX) (es : List Expr) (ms : List ME) : Prop := PJ X es (ms.map (tM ⟨X.K, cl⟩ Wx))
theorem ij_nil : IJ X cl Wx [] [] := .nil
theorem ij_cons {es : List Expr} {ms : List ME} (h : IE X cl Wx e m) (r : IJ X cl Wx es ms) : IJ X cl Wx (e :: es) (m :: ms) := .cons h r
theorem js_sound {σ : L2.St} : ∀ (ms : List ME) (acc : Str) (H : Hp) (Q : VK) (env : Mz.Env) (ρ : Mp) (G : Hp) (st : Store), Rel ⟨X.K, cl⟩ ρ G H st → EnvR ⟨X.K, cl⟩ ρ G env σ →
    PostR ⟨X.K, cl⟩ ρ G (Mz.SlR ⟨X.K, cl⟩) (jsGo ms acc env st) Q (fun c d H' => Wx c d σ H') → tJs (ms.map (tM ⟨X.K, cl⟩ Wx)) acc σ H fun out H1 => Q (.str out) H1
  | [], acc, H, Q, env, ρ, G, st, rel, er, p => pg p rel rep_str
  | m :: ms, acc, H, Q, env, ρ, G, st, rel, er, p => ⟨env, ρ, G, st, rel, er, PostR.bind (R1 := Mz.SlR ⟨X.K, cl⟩) p fun x st1 ρ1 G1 H1 u f1 r1 s1 p1 => by
    split at p1
    · rename_i y
      unfold Mz.SlR Rep at s1
      subst s1
      split at p1
      · rename_i hz
        exact ⟨y, rfl, by rw [big_line]; exact hz, js_sound ms (acc ++ y) H1 Q env ρ1 G1 st1 r1 (er.mono f1) p1⟩
      · exact p1.elim
    · exact p1.elim⟩
theorem ie_joined {v1 v2 : Expr} {rest : List Expr} {ms : List ME} (h : IJ X cl Wx (v1 :: v2 :: rest) ms) : IE X cl Wx (.JoinedStr (v1 :: v2 :: rest) pos) (mJs ms) :=
  pe_weak (pe_joined h) fun σ H Q ⟨env, ρ, G, st, rel, er, p⟩ => js_sound ms Str.empty H Q env ρ G st rel er p
theorem ie_joined1 (h : IE X cl Wx e m) : IE X cl Wx (.JoinedStr [e] pos) m := pe_weak (pe_joined1 h) fun σ H Q p => p
end
section
variable {env : Mz.Env} {st : Store} {m : ME} {ms : List ME} {acc y : Str} {i : Int} {a b : List Nat}
def kFmt (r : Res Sl) : Res Sl := r.bind fmtOf
theorem e_fmt : mFmt m env st = kFmt (m env st) := rfl
theorem k_fmtS (h : y.length ≤ big) : kFmt (.ok (.v (.str y)) st) = .ok (.v (.str y)) st := by show fmtOf (.v (.str y)) st = _; unfold fmtOf; dsimp only; rw [if_pos h]
theorem k_fmtI (h : i.natAbs.log2 < 1920) : kFmt (.ok (.v (.int i)) st) = .ok (.v (.str (toString i))) st := by show fmtOf (.v (.int i)) st = _; unfold fmtOf; dsimp only; rw [if_pos h]
theorem e_js : mJs ms env st = jsGo ms (tx []) env st := rfl
def kJs (ms : List ME) (acc : Str) (env : Mz.Env) (r : Res Sl) : Res Sl := r.bind fun x st1 => match x with
    | .v (.str y) => if (acc ++ y).length ≤ big then jsGo ms (acc ++ y) env st1 else .bad
    | _ => .bad
theorem js_nil : jsGo [] acc env st = .ok (.v (.str acc)) st := rfl
theorem js_cons : jsGo (m :: ms) acc env st = kJs ms acc env (m env st) := rfl
theorem k_js (h : a.length + b.length ≤ big) : kJs ms (tx a) env (.ok (.v (.str (tx b))) st) = jsGo ms (tx (a ++ b)) env st := by
  show (if (tx a ++ tx b).length ≤ big then jsGo ms (tx a ++ tx b) env st else .bad) = _
  rw [tx_app, tx_len, if_pos (by rw [List.length_append]; exact h)]
end
/-! ## 48. one sign in a text -/
def isStr : Sl → Bool
  | .v (.str _) => true
  | _ => false
def opInS (neg : Bool) : Op2
  | .v (.str s), .v (.str z), st => match s.cps.toList with
    | [c] => .ok (.v (.bl (if neg then !decide (c ∈ z.cps.toList) else decide (c ∈ z.cps.toList)))) st
    | _ => .bad
  | _, _, _ => .bad
def rInS (neg : Bool) : R2 := fun x y H Q => ∃ (c : Nat) (z : Str), x = .str ⟨#[c]⟩ ∧ y = .str z ∧ Q (.bl (if neg then !decide (c ∈ z.cps.toList) else decide (c ∈ z.cps.toList))) H
theorem s_inS {T : Tx} {neg : Bool} : OpS T (rInS neg) (opInS neg) := fun ρ G H st x y u v Q E r hx hy p => by
  unfold opInS at p
  split at p
  · rename_i q s z
    unfold SlR Rep at hx hy
    subst hx hy
    split at p
    · rename_i c hc
      refine ⟨c, z, ?_, rfl, pg p r (by unfold Rep; rfl)⟩
      have e := tx_of s
      rw [hc] at e
      rw [e]
    · exact p.elim
  · exact p.elim
theorem op_inS {X : Cx} : OpR X (compareOp .In) (rInS false) := fun pins s σ H x y v u Q I rx ry h => op_in_sign pins s σ H x y v u Q I rx ry h
theorem op_notInS {X : Cx} : OpR X (compareOp .NotIn) (rInS true) := fun pins s σ H x y v u Q I rx ry h => op_notIn_sign pins s σ H x y v u Q I rx ry h
abbrev opInX (neg : Bool) : Op2 := fun x y st => if isStr y = true then opInS neg x y st else opIn neg x y st
theorem o_inX {neg : Bool} {c : Nat} {z : List Nat} {st : Store} : opInX neg (.v (.str (tx [c]))) (.v (.str (tx z))) st = .ok (.v (.bl (if neg then !decide (c ∈ z) else decide (c ∈ z)))) st := rfl
theorem o_inXs {neg : Bool} {x y : Sl} {st : Store} (h : isStr y = false) : opInX neg x y st = opIn neg x y st := by unfold opInX; rw [if_neg (by rw [h]; decide)]
/-! ## 49. tuples of texts of the module -/
def GTs (K : PySem.W.Frag) (a : Addr) (ss : List Str) : Prop := ∃ (o : Obj) (its : Array Value) (n : Nat), K.lookup a = some o ∧ o.cls = .type "tuple" ∧ o.data = .seq its n ∧ its.size ≤ sizeLine ∧ Vals (ss.map V.str) its.toList
section
variable {X : Cx} {cl : Nat → Addr} {Wx : WX} {x : Str} {pos : Pos}
theorem ie_glT {a : Addr} {ss : List Str} {ws : List W} (hg : Gl X x) (hm : X.mg x = some (.ref a)) (h : GTs X.K a ss) (hw : ss.map W.str = ws) (hd : (x == ("__debug__" : Str)) = false := by decide) : IE X cl Wx (.Name x pos) (mC (.tup ws)) := by
  subst hw
  exact
  pe_weak (pe_glob (v := .ref a) hg hm rfl hd) fun σ H Q ⟨env, ρ, G, st, rel, er, p⟩ => p.give rel (by unfold Mz.SlR Rep; exact ⟨a, ss.map V.str, rfl, .inr h, reps_strs ss⟩)
theorem gts_of {K : PySem.W.Frag} {a : Addr} {ss : List Str} {ts : List Tok} {d : Option Addr} {n : Nat} {sl : Array (Option Value)} (h : K.lookup a = some ⟨.type "tuple", d, .seq (List.zipWith Value.str ss ts).toArray n, sl⟩) (hl : ss.length = ts.length) (hz : ss.length ≤ 1000) : GTs K a ss := by
  refine ⟨_, _, n, h, rfl, rfl, ?_, ?_⟩
  · rw [List.size_toArray, List.length_zipWith]
    have := sizeLine_eq
    omega
  · rw [List.toList_toArray]
    clear h hz
    induction ss generalizing ts with
    | nil => cases ts <;> exact .nil
    | cons s ss ih =>
      cases ts with
      | nil => cases hl
      | cons t ts => exact .cons ⟨t, rfl⟩ (ih (by simpa using hl))
end
end Mz

set_option Elab.async false
set_option linter.all false
set_option maxRecDepth 100000
set_option maxHeartbeats 4000000
namespace Mz
open PySem PySem.Spec PySem.Calls PyProof.Rows L2
/-! ## 50. own in -/
def inBk (neg : Bool) : Res Sl → Res Sl
  | .ok (.v (.bl b)) st1 => .ok (.v (.bl (if neg then !b else b))) st1
  | _ => .bad
def inOwn (neg : Bool) (c : Nat) (F : MF) : Op2 := fun x y st => if isCl c st y = true then inBk neg (F [y, x] st) else .bad
section
variable {X : Cx} {cl : Nat → Addr} {Wx : WX}
theorem opm_in {F : MF} {k c : Nat} {g : Addr} {fd : FuncData} {ps : List Str} (hs : PySem.W.findIn X.K (.ref (cl c)) "__contains__" = some (some (.ref g))) (hf : PySem.W.isFn X.K (.ref g) = true)
    (hF : FnOk X.prog X.w X.K X.mg X.base (L2.CX X.prog X.w) k g fd ps (spM ⟨X.K, cl⟩ 2 F)) (hr : Room k X.A) (hb : Binds X.K fd ps []) (neg : Bool) : OpM X cl Wx (compareOp (if neg then .NotIn else .In)) (inOwn neg c F) :=
  fun pins s σ H x y v u Q ρ G st sx sy I rx ry rel hx hy p => by
    unfold inOwn at p
    split at p
    · rename_i hi
      obtain ⟨a, dx, fs, rfl, hH⟩ := isCl_at rel hy hi
      cases ry
      obtain ⟨mA, J, _⟩ := ins_get I.hok hH
      obtain ⟨od, J, _⟩ := J.look
      obtain ⟨m, hFr⟩ := I.fr
      have sp : spM ⟨X.K, cl⟩ 2 F [.ref a, x] H (fun v H2 => ∃ b : Bool, v = .bl b ∧ Q (.bl (if neg then !b else b)) H2) (fun _ _ _ => False) := by
        refine ⟨ρ, G, st, [sy, sx], rel, ⟨_, _, rfl, hy, _, _, rfl, hx, rfl⟩, rfl, ?_⟩
        revert p
        cases F [sy, sx] st with
        | ok s1 st1 =>
          intro p ρ2 G2 H2 v f2 r2 hv
          unfold inBk at p
          split at p
          · rename_i b st2 e
            cases e
            unfold Mz.SlR Rep at hv
            subst hv
            exact ⟨b, rfl, p ρ2 G2 H2 _ f2 r2 (by unfold Mz.SlR Rep; rfl)⟩
          · exact p.elim
        | ex c ns ws st1 => exact fun p => p.elim
        | bad => exact fun p => p.elim
      have rv : Vals [V.ref a, x] [Value.ref a, v] := .cons rfl (.cons rx .nil)
      have hl : ([Value.ref a, v]).length = ps.length := by rw [← rv.length]; exact hF.len _ _ _ _ sp
      have bb := hb s [.ref a, v] I.kIn (by rw [List.append_nil]; exact hl)
      rw [List.append_nil] at bb
      have key : ∀ (R : Bool → Shared → Prop), (∀ (b : Bool) (s' : Shared) (H' : Hp), Inv X pins σ H' s' → Q (.bl (if neg then !b else b)) H' → R b s') →
          wpAny (model X.prog X.w) X.A (call (.ref g) [.ref a, v]) (fun r s' => wpAny (model X.prog X.w) X.A (truthy r) R X.xe s') X.xe s := fun R hR => by
        refine wpAny_call (codeAny_mono (hF.run X.A X.stack s H ⟨[.ref a, v], []⟩ _ _ _ _ hr I.env0 bb rv sp) fun r s' hq => ?_)
        cases r with
        | error e =>
          obtain ⟨_, _, _, _, _, hh⟩ := hq
          exact hh.2.2.2.2.2.2.2.elim
        | ok fl =>
          cases fl with
          | ret u =>
            obtain ⟨w, H', I3, rv3, b, rfl, q3⟩ := I.after hq
            cases rv3
            exact wpAny_truthy_bool (hR b s' H' I3 q3)
          | next => exact False.elim hq
          | brk => exact False.elim hq
          | cont => exact False.elim hq
      cases neg with
      | false => exact PySem.W.in_K hFr I.ok.mod.kin J hs hf (key _ fun b s' H' I' q => ⟨.bl b, H', I', rfl, q⟩)
      | true => exact PySem.W.notIn_K hFr I.ok.mod.kin J hs hf (key _ fun b s' H' I' q => ⟨.bl (!b), H', I', rfl, q⟩)
    · exact p.elim
end
theorem inOwn_1 {neg : Bool} {c : Nat} {F : MF} {x y : Sl} {st : Store} (h : isCl c st y = true) : inOwn neg c F x y st = inBk neg (F [y, x] st) := by unfold inOwn; rw [if_pos h]
theorem inBk_1 {neg b : Bool} {st : Store} : inBk neg (.ok (.v (.bl b)) st) = .ok (.v (.bl (if neg then !b else b))) st := rfl
/-! ## 51. a call of an own instance -/
section
variable {M : Model} {A : Around} {E : Value → Shared → Prop} {s : Shared} {env : PySem.Env} {pos : Pos} {x C : Addr} {first : List Value} {Q : Value → Shared → Prop}
theorem own_callWith {args : List (Bool × Sem Value)} {keywords : List (Option Str × Sem Value)} (hplain : (args.any (·.1) || keywords.any (·.1.isNone)) = false)
    (h : wpAny M A (evalArgs (.ref x) true args keywords) (fun a s₁ => (∃ ox od, ox.data = .plain ∧ PySem.W.InstAt s₁.heap x ox C od) ∧ wpAny M A (call (.ref x) (first ++ a.pos) a.kw) Q E s₁) E s) : wpAny M A (callWith pos (.ref x) first args keywords) Q E s := by
  unfold callWith
  refine wpAny_bind (wpAny_holding (wpAny_mono h (fun a s₁ h₁ => wpAny_bind (wpAny_standAt ?_)) fun _ _ y => y))
  obtain ⟨⟨ox, od, hd, I⟩, h2⟩ := h₁
  have L := PySem.W.kco_keeper (M := M) I hd
  simp only [hplain]
  refine wpAny_bind (L.here ?_)
  have tail : ∀ {t : Sem Value}, wpAny M A t Q E s₁ → wpAny M A (t >>= fun r => holding [r] point >>= fun _ => pure r) Q E s₁ :=
    fun ht => wpAny_bind (wpAny_mono ht (fun r s₂ hr => wpAny_bind (wpAny_holding (wpAny_point (wpAny_pure hr)))) fun _ _ y => y)
  exact tail (wpAny_operateT h2)
end
def mCallO (c : Nat) (F : MF) (i : Nat) (a : MA) : ME := fun env st => match env[i]? with
  | some (some s) => if isCl c st s = true then (a env st).bind fun xs st1 => if isCl c st1 s = true then F (s :: xs) st1 else .bad else .bad
  | _ => .bad
section
variable {X : Cx} {cl : Nat → Addr} {Wx : WX}
theorem ie_callO {F : MF} {k c i n : Nat} {g : Addr} {fd : FuncData} {ps : List Str} {x : Str} {e : Expr} {es : List Expr} {ma : MA} {p pos : Pos} (hs : PySem.W.findIn X.K (.ref (cl c)) "__call__" = some (some (.ref g))) (hf : PySem.W.isFn X.K (.ref g) = true) (hfn : PySem.W.fnIn X.K g = true)
    (hF : FnOk X.prog X.w X.K X.mg X.base (L2.CX X.prog X.w) k g fd ps (spM ⟨X.K, cl⟩ n F)) (ar : Ar F n) (tk : Takes X Wx) (hr : Room (k + 1) X.A) (hb : Binds X.K fd ps []) (ha : IA X cl Wx (e :: es) ma)
    (hN : X.N[i]? = some x := by rfl) (hv : Vis X.env.scope x := by first | exact Or.inl rfl | exact Or.inr (Or.inl rfl) | exact Or.inr (Or.inr rfl))
    (hd : (x == ("__debug__" : Str)) = false := by decide) (hcd : (x == ("__classdict__" : Str)) = false := by decide)
    (he : starEach (e :: es) X.env = (false, eval e X.env) :: starEach es X.env := by rfl) (hpl : (backTo pos (starEach es X.env)).any (·.1) = false := by rfl) :
    IE X cl Wx (.Call (.Name x p) (e :: es) [] pos) (mCallO c F i ma) := by
  refine ⟨fun pins s σ H Q I h => ?_⟩
  obtain ⟨env, ρ, G, st, rel, er, q⟩ := h
  unfold mCallO at q
  split at q
  · rename_i sl hsl
    obtain ⟨u, hu, hslu⟩ := er.2 i sl hsl
    refine wpAny_Call_Name_kw (thn ((pe_var (pos := p) hN hv hd hcd).run pins s σ H (fun v H1 => v = u ∧ H1 = H) I ⟨u, hu, rfl, rfl⟩) fun w s1 ⟨v, H1, I1, r1, q1⟩ => ?_)
    obtain ⟨rfl, rfl⟩ := q1
    split at q
    case isFalse => exact q.elim
    case isTrue hi0 =>
    obtain ⟨x0, dx0, fs0, e0, hH0⟩ := isCl_at rel hslu hi0
    subst e0
    cases r1
    have q' : tL ⟨X.K, cl⟩ Wx ma σ H1 fun vs H2 => ∃ ρ2 G2 st2 xs, Rel ⟨X.K, cl⟩ ρ2 G2 H2 st2 ∧ Mz.SlR ⟨X.K, cl⟩ ρ2 G2 sl (.ref x0) ∧ Mz.SlRs ⟨X.K, cl⟩ ρ2 G2 xs vs ∧ PostR ⟨X.K, cl⟩ ρ2 G2 (Mz.SlR ⟨X.K, cl⟩) (if isCl c st2 sl = true then F (sl :: xs) st2 else .bad) Q (fun c d H' => Wx c d σ H') :=
      ⟨env, ρ, G, st, rel, er, PostR.bind (R1 := SlRs ⟨X.K, cl⟩) q fun xs st1 ρ1 G1 H2 us f1 r1 s1 p1 => ⟨ρ1, G1, st1, xs, r1, hslu.mono f1, s1, p1⟩⟩
    have key := ha.run pos pins s1 σ H1 _ I1 q'
    rw [he] at key ⊢
    refine own_callWith (C := cl c) (first := []) (by show ((false || (backTo pos (starEach es X.env)).any (·.1)) || false) = false; rw [hpl]; rfl) (evalArgs_plain (thn key fun us s2 ⟨vs, H2, I2, rv, ρ2, G2, st2, xs, r2, h2, hxs, p2⟩ => ?_))
    split at p2
    case isFalse => exact p2.elim
    case isTrue hi2 =>
    obtain ⟨x1, dx, fs, e1, hH⟩ := isCl_at r2 h2 hi2
    cases e1
    obtain ⟨mA, J, _⟩ := ins_get I2.hok hH
    obtain ⟨od, J, _⟩ := J.look
    have hlen : (sl :: xs).length = n := by
      by_cases hh : (sl :: xs).length = n
      · exact hh
      · rw [ar _ st2 hh] at p2; exact p2.elim
    have sp : spM ⟨X.K, cl⟩ n F (.ref x0 :: vs) H2 Q (fun c d H' => Wx c d σ H') := ⟨ρ2, G2, st2, sl :: xs, r2, ⟨_, _, rfl, h2, hxs⟩, hlen, p2⟩
    have rv2 : Vals (V.ref x0 :: vs) (Value.ref x0 :: us) := .cons rfl rv
    have hl : (Value.ref x0 :: us).length = ps.length := by rw [← rv2.length]; exact hF.len _ _ _ _ sp
    have bb := hb s2 (.ref x0 :: us) I2.kIn (by rw [List.append_nil]; exact hl)
    rw [List.append_nil] at bb
    refine ⟨⟨_, od, rfl, J⟩, ?_⟩
    refine wpAny_call (PySem.W.kco_code (a := ⟨us, []⟩) I2.kIn J rfl hs hf hfn (codeAny_mono (hF.run X.A X.stack s2 H2 ⟨.ref x0 :: us, []⟩ _ _ Q _ (hr.mono (Nat.le_succ k)) I2.env0 bb rv2 sp) fun r s' hq => ?_))
    cases r with
    | error e => exact passAt tk σ pins _ _ e s' I2 hq
    | ok fl =>
      cases fl with
      | ret u => exact I2.after hq
      | next => exact False.elim hq
      | brk => exact False.elim hq
      | cont => exact False.elim hq
  · exact q.elim
end
def kCallO2 (c : Nat) (F : MF) (s : Sl) (r : Res (List Sl)) : Res Sl := r.bind fun xs st1 => if isCl c st1 s = true then F (s :: xs) st1 else .bad
def kCallO (c : Nat) (F : MF) (a : MA) (env : Mz.Env) (o : Option (Option Sl)) (st : Store) : Res Sl := match o with
  | some (some s) => if isCl c st s = true then kCallO2 c F s (a env st) else .bad
  | _ => .bad
theorem e_callO {c : Nat} {F : MF} {i : Nat} {a : MA} {env : Mz.Env} {st : Store} : mCallO c F i a env st = kCallO c F a env env[i]? st := rfl
theorem k_callO {c : Nat} {F : MF} {a : MA} {env : Mz.Env} {s : Sl} {st : Store} : kCallO c F a env (some (some s)) st = if isCl c st s = true then kCallO2 c F s (a env st) else .bad := rfl
theorem k_callO2 {c : Nat} {F : MF} {s : Sl} {xs : List Sl} {st : Store} : kCallO2 c F s (.ok xs st) = if isCl c st s = true then F (s :: xs) st else .bad := rfl
end Mz

set_option Elab.async false
set_option linter.all false
set_option maxRecDepth 100000
set_option maxHeartbeats 4000000
namespace Mz
open PySem PySem.Spec PySem.Calls PyProof.Rows L2
/-! ## 52. dicts by whole numbers and texts -/
def dLook : List Key → List W → Key → Option W
  | k' :: ks, w :: ws, k => if k' = k then some w else dLook ks ws k
  | _, _, _ => none
def dSet : List Key → List W → Key → W → List W
  | k' :: ks, w' :: ws, k, w => (if k' = k then w else w') :: dSet ks ws k w
  | _, _, _, _ => []
def keyOf : Sl → Option Key
  | .v (.int i) => some (.inl i)
  | .v (.str s) => some (.inr s)
  | _ => none
def dctOf (st : Store) : Sl → Option (List Key × List W)
  | .v (.dct ks ws) => some (ks, ws)
  | .l n => match st.l[n]? with
    | some (.dct ks ws) => some (ks, ws)
    | _ => none
  | _ => none
section
variable {T : Tx} {ρ : Mp} {G H : Hp} {st : Store}
theorem dlook_some : ∀ {ks : List Key} {ws : List W} {vs : List V} {k : Key} {w : W}, Reps T G ws vs → dLook ks ws k = some w → ∃ v, valV (ks.zip vs) k = some v ∧ Rep T G w v
  | [], ws, vs, k, w, _, h => by cases h
  | k' :: ks, [], vs, k, w, _, h => by cases h
  | k' :: ks, w' :: ws, vs, k, w, hr, h => by
    unfold Reps at hr
    obtain ⟨v, r, rfl, h1, h2⟩ := hr
    unfold dLook at h
    by_cases e : k' = k
    · rw [if_pos e] at h
      cases h
      exact ⟨v, by rw [List.zip_cons_cons, valV_pos e], h1⟩
    · rw [if_neg e] at h
      obtain ⟨u, hu, hr⟩ := dlook_some h2 h
      exact ⟨u, by rw [List.zip_cons_cons, valV_neg e]; exact hu, hr⟩
theorem dlook_none : ∀ {ks : List Key} {ws : List W} {vs : List V} {k : Key}, Reps T G ws vs → dLook ks ws k = none → valV (ks.zip vs) k = none
  | [], ws, vs, k, _, h => rfl
  | k' :: ks, [], vs, k, hr, h => by unfold Reps at hr; cases hr; rfl
  | k' :: ks, w' :: ws, vs, k, hr, h => by
    unfold Reps at hr
    obtain ⟨v, r, rfl, h1, h2⟩ := hr
    unfold dLook at h
    by_cases e : k' = k
    · rw [if_pos e] at h; cases h
    · rw [if_neg e] at h
      rw [List.zip_cons_cons, valV_neg e]; exact dlook_none h2 h
theorem dct_at (r : Rel T ρ G H st) {s : Sl} {u : V} {ks : List Key} {ws : List W} (hs : SlR T ρ G s u) (h : dctOf st s = some (ks, ws)) : ∃ a vs, u = .ref a ∧ H a = some (.dK (ks.zip vs)) ∧ ks.length = vs.length ∧ Reps T G ws vs := by
  cases s with
  | v w =>
    cases w with
    | dct k2 w2 => cases h; unfold SlR Rep at hs; obtain ⟨a, vs, h1, h2, h3, h4⟩ := hs; exact ⟨a, vs, h1, r.ext _ _ h2, h3, h4⟩
    | _ => cases h
  | l n =>
    obtain ⟨a, h1, h2⟩ := hs
    unfold dctOf at h
    dsimp only at h
    split at h
    · rename_i k2 w2 e
      cases h
      obtain ⟨_, o, ho, vs, rfl, h4, h5⟩ := r.la n a _ h1 e
      exact ⟨a, vs, h2, ho, h4, h5⟩
    · cases h
  | o n => cases h
theorem key_at {s : Sl} {u : V} {k : Key} (hs : SlR T ρ G s u) (h : keyOf s = some k) : u = kV k := by
  cases s with
  | v w =>
    cases w with
    | int i => cases h; unfold SlR Rep at hs; exact hs
    | str i => cases h; unfold SlR Rep at hs; exact hs
    | _ => cases h
  | l n => cases h
  | o n => cases h
theorem Rel.killD (r : Rel T ρ G H st) {n : Nat} {a : Addr} {ks : List Key} {ws : List W} (hn : ρ.l[n]? = some a) (hx0 : st.l[n]? = some (.dct ks ws)) :
    ∃ vs, ks.length = vs.length ∧ Fr ρ ρ G (upd G a (.dK (ks.zip vs))) ∧ Rel T ρ (upd G a (.dK (ks.zip vs))) H (st.setl n .dead) ∧ Reps T (upd G a (.dK (ks.zip vs))) ws vs := by
  obtain ⟨hG, o, ho, vs, rfl, hl, hr⟩ := r.la n a _ hn hx0
  replace hG := hG (fun z => by cases z)
  have f : Fr ρ ρ G (upd G a (.dK (ks.zip vs))) := ⟨(Fr.refl ρ G).le, updG_ex hG⟩
  refine ⟨vs, hl, f, ⟨fun b u e => ?_, ?_, r.lo, fun m b y hm hy => ?_, fun m b y hm hy => ?_, r.nl, r.no, r.tb, nt_upd r.nt (fun _ z => nomatch z)⟩, Reps.mono f.ex _ _ hr⟩
  · by_cases hb : b = a
    · subst hb; rw [upd_same] at e; cases e; exact ho
    · rw [upd_ne hb] at e; exact r.ext b u e
  · show ρ.l.length = (st.l.set n .dead).length
    rw [List.length_set]; exact r.ll
  · by_cases hmn : n = m
    · subst hmn
      rw [hn] at hm; cases hm
      have hy' : (st.l.set n Lo.dead)[n]? = some y := hy
      rw [List.getElem?_set_self (get_lt hx0)] at hy'; cases hy'
      exact ⟨fun z => absurd rfl z, _, ho, .inr ⟨_, rfl⟩⟩
    · have hb : b ≠ a := fun z => hmn (nodup_get r.nl hn (z ▸ hm))
      have hy' : (st.l.set n Lo.dead)[m]? = some y := hy
      rw [List.getElem?_set_ne hmn] at hy'
      obtain ⟨h1, o', h2, h3⟩ := r.la m b y hm hy'
      exact ⟨fun hd => by rw [upd_ne hb]; exact h1 hd, o', h2, h3.mono f.ex⟩
  · obtain ⟨h1, o', h2, h3⟩ := r.oa m b y hm hy
    have hb : b ≠ a := fun z => r.apart hn hm z.symm
    exact ⟨by rw [upd_ne hb]; exact h1, o', h2, h3.mono f⟩
end
/-! a display whose keys are written texts -/
def dispGo : List ME → Mz.Env → Store → Res (List W)
  | [], _, st => .ok [] st
  | m :: ms, env, st => (m env st).bind fun x st1 => match x with
    | .v w => (dispGo ms env st1).bind fun ws st2 => .ok (w :: ws) st2
    | _ => .bad
def dispEnd (n : Nat) (ks : List Str) (ws : List W) (st : Store) : Res Sl := match st.l[n]? with
  | some (.dct [] []) => .ok (.v (.dct (ks.map .inr) ws)) (st.setl n .dead)
  | _ => .bad
def mDisp (ks : List Str) (ms : List ME) : ME := fun env st => (dispGo ms env (st.push (.dct [] []))).bind (dispEnd st.l.length ks)
def opDx : Op2 := fun x y st => match dctOf st x, keyOf y with
  | some (ks, ws), some k => match dLook ks ws k with
    | some w => .ok (.v w) st
    | none => .bad
  | _, _ => .bad
/-- y in d -/
def opDin (neg : Bool) : Op2 := fun y x st => match dctOf st x, keyOf y with
  | some (ks, ws), some k => .ok (.v (.bl (if neg then !(dLook ks ws k).isSome else (dLook ks ws k).isSome))) st
  | _, _ => .bad
def mDNew : ME := fun _ st => .ok (.l st.l.length) (st.push (.dct [] []))
theorem mergeK_nodup : ∀ {more acc : List (Key × V)}, (∀ p ∈ more, ∀ q ∈ acc, q.1 ≠ p.1) → (more.map (·.1)).Nodup → mergeK acc more = acc ++ more
  | [], acc, _, _ => by show acc = _; rw [List.append_nil]
  | p :: more, acc, h, hn => by
    rw [List.map_cons, List.nodup_cons] at hn
    show mergeK (L2.putK acc p.1 p.2) more = _
    have e : L2.putK acc p.1 p.2 = acc ++ [(p.1, p.2)] := by
      unfold L2.putK
      rw [if_neg]
      rw [List.any_eq_true]
      rintro ⟨q, hq, hk⟩
      exact h p List.mem_cons_self q hq (of_decide_eq_true hk)
    rw [e, mergeK_nodup (more := more) (acc := acc ++ [(p.1, p.2)]) (fun q hq r hr => ?_) hn.2, List.append_assoc]
    · rfl
    · rcases List.mem_append.mp hr with z | z
      · exact h q (List.mem_cons_of_mem _ hq) r z
      · rw [List.mem_singleton.mp z]
        exact fun y => hn.1 (by rw [show p.1 = q.1 from y]; exact List.mem_map_of_mem hq)
section
variable {X : Cx} {cl : Nat → Addr} {Wx : WX} {a b : Expr} {ma mb : ME} {pos : Pos}
def trS (X : Cx) (cl : Nat → Addr) (Wx : WX) (ks : List Str) (ms : List ME) : List (TE × TE) := List.zipWith (fun k m => (tC (.str k), tM ⟨X.K, cl⟩ Wx m)) ks ms
theorem pps_nilS {p2 : Pos} : PPs X p2 [] [] (trS X cl Wx [] []) := pps_nil
theorem pps_consS {p2 q1 : Pos} {j1 : Nat} {k : Str} {e : Expr} {m : ME} {keys : List (Option Expr)} {values : List Expr} {ks : List Str} {ms : List ME} (he : IE X cl Wx e m) (h : PPs X p2 keys values (trS X cl Wx ks ms)) :
    PPs X p2 (some (.Constant (.str k) j1 q1) :: keys) (e :: values) (trS X cl Wx (k :: ks) (m :: ms)) := pps_cons pe_str he h
theorem pairs_S {σ : L2.St} {T : Tx} (hT : T = ⟨X.K, cl⟩) : ∀ {ks : List Str} {ms : List ME} (_ : ks.length = ms.length) (H : Hp) (Q : List (V × V) → Hp → Prop) (env : Mz.Env) (ρ : Mp) (G : Hp) (st : Store) (R : List W → Store → Res Sl) (Q2 : VK), Rel T ρ G H st → EnvR T ρ G env σ →
    PostR T ρ G (Mz.SlR T) ((dispGo ms env st).bind R) Q2 (fun c d H' => Wx c d σ H') →
    (∀ ws st2 ρ2 G2 H2 vs, Fr ρ ρ2 G G2 → Rel T ρ2 G2 H2 st2 → Reps T G2 ws vs → vs.length = ks.length → PostR T ρ2 G2 (Mz.SlR T) (R ws st2) Q2 (fun c d H' => Wx c d σ H') → Q ((ks.zip vs).map fun kv => (.str kv.1, kv.2)) H2) →
    tPairs (trS X cl Wx ks ms) σ H Q
  | [], [], _, H, Q, env, ρ, G, st, R, Q2, rel, er, p, k => k [] st ρ G H [] (Fr.refl _ _) rel Reps.nil rfl p
  | key :: ks, m :: ms, hl, H, Q, env, ρ, G, st, R, Q2, rel, er, p, k => by
    subst hT
    show tM ⟨X.K, cl⟩ Wx m σ H _
    refine ⟨env, ρ, G, st, rel, er, PostR.bind (R1 := Mz.SlR ⟨X.K, cl⟩) (R2 := Mz.SlR ⟨X.K, cl⟩) (Q := Q2) (k := fun x st1 => ((match x with | .v w => (dispGo ms env st1).bind fun ws st2 => .ok (w :: ws) st2 | _ => .bad : Res (List W))).bind R) ?_ fun x st1 ρ1 G1 H1 u f1 r1 s1 p1 => ?_⟩
    · have e : dispGo (m :: ms) env st = (m env st).bind fun x st1 => match x with
        | .v w => (dispGo ms env st1).bind fun ws st2 => .ok (w :: ws) st2
        | _ => .bad := rfl
      rw [e] at p
      revert p
      cases m env st with
      | ok x st1 => exact fun p => p
      | ex c ns ws st1 => exact fun p => p
      | bad => exact fun p => p
    · cases x with
      | v w =>
        have p1' : PostR ⟨X.K, cl⟩ ρ1 G1 (Mz.SlR ⟨X.K, cl⟩) ((dispGo ms env st1).bind fun ws st2 => R (w :: ws) st2) Q2 (fun c d H' => Wx c d σ H') := by
          revert p1
          show PostR _ _ _ _ (((dispGo ms env st1).bind fun ws st2 => Res.ok (w :: ws) st2).bind R) _ _ → _
          cases dispGo ms env st1 with
          | ok x st2 => exact fun p => p
          | ex c ns ws st2 => exact fun p => p
          | bad => exact fun p => p
        refine pairs_S rfl (by simpa using hl) H1 _ env ρ1 G1 st1 _ Q2 r1 (er.mono f1) p1' fun ws st2 ρ2 G2 H2 vs f2 r2 hr hvl p2 => ?_
        exact k (w :: ws) st2 ρ2 G2 H2 (u :: vs) (f1.trans f2) r2 (Reps.cons (s1.mono f2) hr) (by rw [List.length_cons, List.length_cons, hvl]) p2
      | l n => exact p1.elim
      | o n => exact p1.elim
theorem zipmap_key : ∀ (ks : List Str) (vs : List V), (ks.zip vs).map (fun kv => ((.str kv.1 : V), kv.2)) = (((ks.map Sum.inr : List Key)).zip vs).map (fun kv => (kV kv.1, kv.2))
  | [], _ => rfl
  | _ :: _, [] => rfl
  | k :: ks, v :: vs => by rw [List.zip_cons_cons, List.map_cons, List.map_cons, List.zip_cons_cons, List.map_cons, zipmap_key ks vs]; rfl
theorem ie_disp {keys : List (Option Expr)} {values : List Expr} {ks : List Str} {ms : List ME} (h : PPs X pos keys values (trS X cl Wx ks ms)) (hall : keys.all (·.isSome) = true) (hl : keys.length = values.length) (h0 : keys ≠ []) (h15 : keys.length ≤ 15) (hk : ks.length = ms.length) (hk15 : ks.length ≤ 15) (hn : ks.Nodup) :
    IE X cl Wx (.Dict keys values pos) (mDisp ks ms) :=
  pe_weak (pe_disp h hall hl h0 h15) fun σ H Q ⟨env, ρ, G, st, rel, er, q⟩ => fun p hp => by
    obtain ⟨f1, r1⟩ := rel.newL (o := .dK []) (x := .dct [] []) hp ⟨[], rfl, rfl, Reps.nil⟩
    refine pairs_S rfl hk _ _ env _ G _ (dispEnd st.l.length ks) Q r1 (er.mono f1) (PostR.mono f1 q) fun ws st2 ρ2 G2 H2 vs f2 r2 hr hvl p2 => ?_
    unfold dispEnd at p2
    split at p2
    · rename_i e2
      have hρ : ρ2.l[st.l.length]? = some p := f2.le.1 _ _ (by show (ρ.l ++ [p])[st.l.length]? = some p; rw [← rel.ll]; simp)
      obtain ⟨_, o, ho, vs0, ho2, hz0, hr0⟩ := r2.la _ _ _ hρ e2
      have hv0 : vs0 = [] := List.eq_nil_of_length_eq_zero hz0.symm
      subst hv0
      subst ho2
      have hnk : (((ks.map Sum.inr : List Key).zip vs).map (·.1)) = ks.map Sum.inr := by
        rw [List.map_fst_zip (by rw [List.length_map]; omega)]
      have hm : mergeK [] ((ks.map Sum.inr : List Key).zip vs) = (ks.map Sum.inr : List Key).zip vs := by
        rw [mergeK_nodup (fun _ _ q hq => by cases hq) (by rw [hnk]; exact nodup_map (fun a b e => Sum.inr.inj e) hn), List.nil_append]
      refine ⟨ho, (ks.map Sum.inr : List Key).zip vs, zipmap_key ks vs, by rw [List.length_zip, List.length_map]; omega, ?_⟩
      rw [hm]
      have r3 := r2.setl (x := .dct (ks.map .inr) ws) (o := .dK ((ks.map Sum.inr : List Key).zip vs)) hρ ⟨vs, rfl, by rw [List.length_map]; omega, hr⟩ e2 (fun z => by cases z)
      have hx3 : (st2.setl st.l.length (.dct (ks.map .inr) ws)).l[st.l.length]? = some (.dct (ks.map .inr) ws) := List.getElem?_set_self (get_lt e2)
      obtain ⟨vs3, hl3, f3, r4, hr4⟩ := r3.killD hρ hx3
      have e5 : (st2.setl st.l.length (.dct (ks.map .inr) ws)).setl st.l.length .dead = st2.setl st.l.length .dead := st_setl_setl
      rw [e5] at r4
      exact p2 _ _ _ _ f3 r4 (by unfold Mz.SlR Rep; exact ⟨p, vs3, rfl, upd_same, hl3, hr4⟩)
    · exact p2.elim
theorem ie_dx (hu : X.A.units + 1 < cLine) (ha : IE X cl Wx a ma) (hb : IE X cl Wx b mb) (hs : NoSl b) : IE X cl Wx (.Subscript a b pos) (mOp opDx ma mb) :=
  pe_weak (pe_dget hu ha hb hs) fun σ H Q ⟨env, ρ, G, st, rel, er, p⟩ => ⟨env, ρ, G, st, rel, er, PostR.bind (R1 := Mz.SlR ⟨X.K, cl⟩) p fun x st1 ρ1 G1 H1 u f1 r1 s1 p1 => ⟨env, ρ1, G1, st1, r1, er.mono f1, PostR.bind (R1 := Mz.SlR ⟨X.K, cl⟩) p1 fun y st2 ρ2 G2 H2 v f2 r2 s2 p2 => by
    unfold opDx at p2
    split at p2
    · rename_i ks ws k e1 e2
      split at p2
      · rename_i w hw
        obtain ⟨q, vs, rfl, hH, hl, hr⟩ := dct_at r2 (s1.mono f2) e1
        obtain rfl := key_at s2 e2
        obtain ⟨v, hv, rv⟩ := dlook_some hr hw
        exact ⟨q, v, rfl, .inl ⟨_, k, .inl hH, rfl, hv.symm⟩, pg p2 r2 rv⟩
      · exact p2.elim
    · exact p2.elim⟩⟩
theorem ie_din (neg : Bool) (hu : X.A.units + 1 < cLine) (ha : IE X cl Wx a ma) (hb : IE X cl Wx b mb) (hm : behindInMarks (if neg then .NotIn else .In) b = false := by rfl) : IE X cl Wx (.Compare a [if neg then .NotIn else .In] [b] pos) (mOp (opDin neg) ma mb) := by
  have key : ∀ (o : Option V) (k : Key) (ks : List Key) (ws : List W) (ρ2 : Mp) (G2 : Hp) (vs : List V), Reps ⟨X.K, cl⟩ G2 ws vs → ∃ o, o = valV (ks.zip vs) k ∧ o.isSome = (dLook ks ws k).isSome := fun _ k ks ws ρ2 G2 vs hr => by
    cases h : dLook ks ws k with
    | some w => obtain ⟨v, hv, _⟩ := dlook_some hr h; exact ⟨some v, hv.symm, rfl⟩
    | none => exact ⟨none, (dlook_none hr h).symm, rfl⟩
  cases neg with
  | false =>
    refine pe_weak (pe_cmp (pc_din hu ha hb) hm) fun σ H Q ⟨env, ρ, G, st, rel, er, p⟩ => ⟨env, ρ, G, st, rel, er, PostR.bind (R1 := Mz.SlR ⟨X.K, cl⟩) p fun x st1 ρ1 G1 H1 u f1 r1 s1 p1 => ⟨env, ρ1, G1, st1, r1, er.mono f1, PostR.bind (R1 := Mz.SlR ⟨X.K, cl⟩) p1 fun y st2 ρ2 G2 H2 v f2 r2 s2 p2 => ?_⟩⟩
    unfold opDin at p2
    split at p2
    · rename_i ks ws k e1 e2
      obtain ⟨q, vs, rfl, hH, hl, hr⟩ := dct_at r2 s2 e1
      obtain rfl := key_at (s1.mono f2) e2
      obtain ⟨o, ho, hs⟩ := key none k ks ws ρ2 G2 vs hr
      refine ⟨q, o, rfl, .inl ⟨_, k, .inl hH, rfl, ho⟩, ?_⟩
      rw [hs]
      exact pg p2 r2 (by unfold Rep; rfl)
    · exact p2.elim
  | true =>
    refine pe_weak (pe_cmp (pc_dnotin hu ha hb) hm) fun σ H Q ⟨env, ρ, G, st, rel, er, p⟩ => ⟨env, ρ, G, st, rel, er, PostR.bind (R1 := Mz.SlR ⟨X.K, cl⟩) p fun x st1 ρ1 G1 H1 u f1 r1 s1 p1 => ⟨env, ρ1, G1, st1, r1, er.mono f1, PostR.bind (R1 := Mz.SlR ⟨X.K, cl⟩) p1 fun y st2 ρ2 G2 H2 v f2 r2 s2 p2 => ?_⟩⟩
    unfold opDin at p2
    split at p2
    · rename_i ks ws k e1 e2
      obtain ⟨q, vs, rfl, hH, hl, hr⟩ := dct_at r2 s2 e1
      obtain rfl := key_at (s1.mono f2) e2
      obtain ⟨o, ho, hs⟩ := key none k ks ws ρ2 G2 vs hr
      refine ⟨q, o, rfl, .inl ⟨_, k, .inl hH, rfl, ho⟩, ?_⟩
      rw [hs]
      exact pg p2 r2 (by unfold Rep; rfl)
    · exact p2.elim
theorem ie_dnew : IE X cl Wx (.Dict [] [] pos) mDNew :=
  pe_weak pe_dnewK fun σ H Q ⟨env, ρ, G, st, rel, er, p⟩ => fun q hq => by
    obtain ⟨f1, r1⟩ := rel.newL (o := .dK []) (x := .dct [] []) hq ⟨[], rfl, rfl, Reps.nil⟩
    exact p _ _ _ _ f1 r1 ⟨q, by show (ρ.l ++ [q])[st.l.length]? = some q; rw [← rel.ll]; simp, rfl⟩
end
/-! small steps -/
section
variable {env : Mz.Env} {st : Store} {m : ME} {ms : List ME} {ks : List Str} {ws : List W} {w : W} {n : Nat}
def kDisp (n : Nat) (ks : List Str) (r : Res (List W)) : Res Sl := r.bind (dispEnd n ks)
def kDispW (w : W) (r : Res (List W)) : Res (List W) := r.bind fun ws st2 => .ok (w :: ws) st2
def kDisp1 (ms : List ME) (env : Mz.Env) (r : Res Sl) : Res (List W) := r.bind fun x st1 => match x with
    | .v w => (dispGo ms env st1).bind fun ws st2 => .ok (w :: ws) st2
    | _ => .bad
theorem e_disp : mDisp ks ms env st = kDisp st.l.length ks (dispGo ms env (st.push (.dct [] []))) := rfl
theorem disp_nil : dispGo [] env st = .ok [] st := rfl
theorem disp_cons : dispGo (m :: ms) env st = kDisp1 ms env (m env st) := rfl
theorem k_disp1 : kDisp1 ms env (.ok (.v w) st) = kDispW w (dispGo ms env st) := rfl
theorem k_dispW : kDispW w (.ok ws st) = .ok (w :: ws) st := rfl
theorem k_disp {s : Store} : kDisp s.l.length ks (.ok ws (s.push (.dct [] []))) = .ok (.v (.dct (ks.map .inr) ws)) (s.push .dead) := by
  show dispEnd s.l.length ks ws (s.push (.dct [] [])) = _
  unfold dispEnd
  rw [show (s.push (.dct [] [])).l[s.l.length]? = some (.dct [] []) from push_last]
  dsimp only
  rw [st_push_set]
theorem e_dnew : mDNew env st = .ok (.l st.l.length) (st.push (.dct [] [])) := rfl
end
end Mz

set_option Elab.async false
set_option linter.all false
set_option maxRecDepth 100000
set_option maxHeartbeats 4000000
namespace Mz
open PySem PySem.Spec PySem.Calls PyProof.Rows L2
/-! ## 53. bits of whole numbers -/
def opBAnd : Op2 := opI (fun _ _ => true) fun i j => .int (Builtin.bitAnd i j)
def opBOr : Op2 := opI (fun _ _ => true) fun i j => .int (Builtin.bitOr i j)
theorem s_band {T : Tx} : OpS T (rI0 fun i j => .int (Builtin.bitAnd i j)) opBAnd := ops_I0 fun _ _ _ => rep_int
theorem s_bor {T : Tx} : OpS T (rI0 fun i j => .int (Builtin.bitOr i j)) opBOr := ops_I0 fun _ _ _ => rep_int
theorem o_band {i j : Int} {st : Store} : opBAnd (.v (.int i)) (.v (.int j)) st = .ok (.v (.int (Builtin.bitAnd i j))) st := rfl
theorem o_bor {i j : Int} {st : Store} : opBOr (.v (.int i)) (.v (.int j)) st = .ok (.v (.int (Builtin.bitOr i j))) st := rfl
theorem bit_nat {a b : Nat} : Builtin.bitAnd (a : Int) (b : Int) = ((a &&& b : Nat) : Int) := by
  unfold Builtin.bitAnd
  rw [decide_eq_true (Int.natCast_nonneg a), decide_eq_true (Int.natCast_nonneg b)]
  rfl
end Mz

set_option Elab.async false
set_option linter.all false
set_option maxRecDepth 100000
set_option maxHeartbeats 4000000
namespace Mz
open PySem PySem.Spec PySem.Calls PyProof.Rows L2
/-! ## 54. xs.count(k): how often a whole number stands in a list of whole numbers -/
def cntOf (x : Sl) (ys : List Sl) (st : Store) : Res Sl := match ys with
  | [.v (.int k)] => match litems st x with
    | some xs => match intsOf xs with
      | some ns => .ok (.v (.int (ns.count k : Nat))) st
      | none => .bad
    | none => .bad
  | _ => .bad
def cnt1 (a : MA) (env : Env) (x : Sl) (st : Store) : Res Sl := match litems st x with
  | some _ => (a env st).bind fun ys st2 => cntOf x ys st2
  | none => .bad
def mCnt (o : ME) (a : MA) : ME := fun env st => (o env st).bind fun x st1 => cnt1 a env x st1
section
variable {X : Cx} {cl : Nat → Addr} {Wx : WX} {o e : Expr} {es : List Expr} {mo : ME} {ma : MA} {apos cpos : Pos}
theorem ie_cnt (ho : IE X cl Wx o mo) (ha : IA X cl Wx (e :: es) ma)
    (hbase : attributeBase o "count" X.env (eval o X.env) = eval o X.env := by rfl)
    (hfew : ((backTo cpos (starEach (e :: es) X.env)).all (fun x => !x.1) && (backToKw cpos (keywordEach [] X.env)).all (fun x => x.1.isSome)
      && decide ((e :: es).length + ([] : List Keyword).length + (if ([] : List Keyword).isEmpty then 0 else 1) < 30)) = true := by rfl)
    (hline : (apos.endLine == cpos.line) = true := by rfl) (he : starEach (e :: es) X.env = (false, eval e X.env) :: starEach es X.env := by rfl) (hplain : (backTo cpos (starEach es X.env)).any (·.1) = false := by rfl) :
    IE X cl Wx (.Call (.Attribute o "count" apos) (e :: es) [] cpos) (mCnt mo ma) :=
  pe_weak (pe_bm PySem.F.plainAttrs_list PySem.F.slot_list_count PySem.F.type_list_count mt_lcount ho ha hbase hfew hline he hplain) fun σ H Q ⟨env, ρ, G, st, rel, er, p⟩ => ⟨env, ρ, G, st, rel, er, PostR.bind (R1 := Mz.SlR ⟨X.K, cl⟩) p fun x st1 ρ1 G1 H1 u f1 r1 s1 p1 => by
    unfold cnt1 at p1
    split at p1
    · rename_i xs0 e0
      obtain ⟨a, vs, rfl, hq, _⟩ := litems_at r1 s1 e0
      refine ⟨.inl ⟨rfl, vs, hq⟩, env, ρ1, G1, st1, r1, er.mono f1, PostR.bind (R1 := SlRs ⟨X.K, cl⟩) p1 fun ys st2 ρ2 G2 H2 us f2 r2 s2 p2 => ?_⟩
      unfold cntOf at p2
      split at p2
      · rename_i k
        split at p2
        · rename_i xs e1
          obtain ⟨a', vs2, e2, hq2, hr2⟩ := litems_at r2 (SlR.mono f2 s1) e1
          cases e2
          split at p2
          · rename_i ns e3
            obtain ⟨u1, rfl, hu⟩ := slrs1 s2
            unfold Mz.SlR Rep at hu; subst hu
            rw [ints_rep e3 hr2] at hq2
            exact ⟨a, ns, k, rfl, rfl, hq2, pg p2 r2 rep_int⟩
          · exact p2.elim
        · exact p2.elim
      · exact p2.elim
    · exact p1.elim⟩
end
def kCnt (a : MA) (env : Env) (r : Res Sl) : Res Sl := r.bind fun x st1 => cnt1 a env x st1
theorem e_cnt {o : ME} {a : MA} {env : Env} {st : Store} : mCnt o a env st = kCnt a env (o env st) := rfl
def kCnt2 (x : Sl) (r : Res (List Sl)) : Res Sl := r.bind fun ys st2 => cntOf x ys st2
theorem k_cnt {a : MA} {env : Env} {xs : List W} {st : Store} : kCnt a env (.ok (.v (.lst xs)) st) = kCnt2 (.v (.lst xs)) (a env st) := rfl
theorem k_cnt2 {xs : List Int} {k : Int} {st : Store} : kCnt2 (.v (.lst (xs.map W.int))) (.ok [.v (.int k)] st) = .ok (.v (.int (xs.count k : Nat))) st := by
  unfold kCnt2 Res.bind cntOf
  dsimp only
  show (match intsOf (xs.map W.int) with | some ns => _ | none => _) = _
  have h : intsOf (xs.map W.int) = some xs := by
    have := intsOf_f (fun i : Int => i) xs
    rw [List.map_id'] at this
    exact this
  rw [h]
end Mz

set_option Elab.async false
set_option linter.all false
set_option maxRecDepth 100000
set_option maxHeartbeats 4000000
namespace Mz
open PySem PySem.Spec PySem.Calls PyProof.Rows L2
/-! ## 55. instances that are made and kept -/
open Classical in
noncomputable def keepR (st : Store) : Res Sl → Res Sl
  | .ok (.v .non) st2 => .ok (.o st.o.length) st2
  | .ex c ns ws st2 => if st2.o.take st.o.length = st.o then .ex c ns ws ⟨st2.l.take st.l.length, st.o⟩ else .bad
  | _ => .bad
noncomputable def mMakeK (c : Nat) (F : MF) (a : MA) : ME := fun env st => (a env st).bind fun xs st1 => keepR st1 (F (.o st1.o.length :: xs) (st1.pusho ⟨c, [], []⟩))
theorem keep_post {T : Tx} {ρ : Mp} {G H : Hp} {st : Store} {Q : VK} {E : XK} {F : MF} {xs : List Sl} {us : List V} {c : Nat} {x dx : Addr} (r : Rel T ρ G H st) (rs : SlRs T ρ G xs us) (hx : H x = none) (hd : H dx = none) (hn : dx ≠ x)
    (p : PostR T ρ G (Mz.SlR T) (keepR st (F (.o st.o.length :: xs) (st.pusho ⟨c, [], []⟩))) Q E) :
    ∃ ρ', Rel T ρ' G (upd (upd H dx (.own x)) x (.ins (T.cl c) dx [])) (st.pusho ⟨c, [], []⟩) ∧ SlRs T ρ' G (.o st.o.length :: xs) (.ref x :: us) ∧
      PostR T ρ' G (Mz.SlR T) (F (.o st.o.length :: xs) (st.pusho ⟨c, [], []⟩)) (fun v H2 => v = .non ∧ Q (.ref x) H2) E := by
  have r1 := r.junk (o := .own x) hd
  have hx1 : upd H dx (.own x) x = none := by rw [upd_ne (Ne.symm hn)]; exact hx
  obtain ⟨f, r2⟩ := r1.newO (dx := dx) (c := c) hx1
  have hxx : (ρ.o ++ [x])[st.o.length]? = some x := by rw [← r.lo]; simp
  refine ⟨⟨ρ.l, ρ.o ++ [x]⟩, r2, ⟨.ref x, us, rfl, ⟨x, hxx, rfl⟩, rs.mono f⟩, ?_⟩
  revert p
  cases F (.o st.o.length :: xs) (st.pusho ⟨c, [], []⟩) with
  | ok a st2 =>
    intro p ρ2 G2 H2 u f2 rel su
    unfold keepR at p
    split at p
    · rename_i st3 e
      cases e
      unfold Mz.SlR Rep at su
      refine ⟨su, ?_⟩
      have hx2 : ρ2.o[st.o.length]? = some x := f2.le.2 _ _ hxx
      exact p ρ2 G2 H2 (.ref x) (f.trans f2) rel ⟨x, hx2, rfl⟩
    · rename_i e; cases e
    · exact p.elim
  | ex c' ns ws st2 =>
    intro p ρ2 G2 H2 d f2 rel hd'
    unfold keepR at p
    dsimp only at p
    split at p
    · rename_i ho
      obtain ⟨ρ3, f3, r3, _⟩ := Rel.trunc r rel (f.trans f2) ho
      exact p ρ3 G2 H2 d f3 r3 hd'
    · exact p.elim
  | bad => exact fun p => p.elim
section
variable {X : Cx} {cl : Nat → Addr} {Wx : WX} {e o : Expr} {m mo : ME} {pos pos' p apos : Pos} {f x : Str}
theorem ie_makeK {F : MF} {k n c : Nat} {fI : Addr} {fd : FuncData} {ps : List Str} {e : Expr} {es : List Expr} {ra : MA} (M : Mk X.K (cl c) fI) (hF : FnOk X.prog X.w X.K X.mg X.base (L2.CX X.prog X.w) k fI fd ps (spM ⟨X.K, cl⟩ n F)) (hn : Ar F n) (tk : Takes X Wx) (hr : Room (k + 1) X.A) (hg : Gl X x) (hm : X.mg x = some (.ref (cl c))) (hb : Binds X.K fd ps [])
    (ha : IA X cl Wx (e :: es) ra) (hdb : (x == ("__debug__" : Str)) = false := by decide) (he : starEach (e :: es) X.env = (false, eval e X.env) :: starEach es X.env := by rfl) (hpl : (backTo pos (starEach es X.env)).any (·.1) = false := by rfl) :
    IE X cl Wx (.Call (.Name x p) (e :: es) [] pos) (mMakeK c F ra) := by
  refine ⟨fun pins s σ H Q I h => ?_⟩
  obtain ⟨env, ρ, G, st, rel, er, q⟩ := h
  refine wpAny_Call_Name_kw (ld_glob I hg hm ?_ hdb)
  have h1 : tL ⟨X.K, cl⟩ Wx ra σ H (fun us H1 => ∃ ρ1 G1 st1 xs, Rel ⟨X.K, cl⟩ ρ1 G1 H1 st1 ∧ SlRs ⟨X.K, cl⟩ ρ1 G1 xs us ∧ PostR ⟨X.K, cl⟩ ρ1 G1 (Mz.SlR ⟨X.K, cl⟩) (keepR st1 (F (.o st1.o.length :: xs) (st1.pusho ⟨c, [], []⟩))) Q (fun c d H' => Wx c d σ H')) :=
    ⟨env, ρ, G, st, rel, er, PostR.bind (R1 := SlRs ⟨X.K, cl⟩) q fun xs st1 ρ1 G1 H1 us f1 r1 s1 p1 => ⟨ρ1, G1, st1, xs, r1, s1, p1⟩⟩
  refine PySem.W.callWith_K (h₀ := X.base) I.ok.mod.kin M.kp (thn (ha.run pos pins s σ H _ I h1) ?_) he hpl
  rintro us s1 ⟨vs, H1, I1, rv, ρ1, G1, st1, xs, r1, s1', p1⟩
  refine ⟨I1.kIn, ?_⟩
  have hq : ∀ a dx, H1 a = none → H1 dx = none → dx ≠ a → spM ⟨X.K, cl⟩ n F (.ref a :: vs) (upd (upd H1 dx (.own a)) a (.ins (cl c) dx [])) (fun v H2 => v = .non ∧ Q (.ref a) H2) (fun c d H' => Wx c d σ H') := fun a dx h1 h2 h3 => by
    obtain ⟨ρ', k1, k2, k3⟩ := keep_post r1 s1' h1 h2 h3 p1
    refine ⟨ρ', G1, _, _, k1, k2, ?_, k3⟩
    by_cases hz : (Sl.o st1.o.length :: xs).length = n
    · exact hz
    · rw [hn _ _ hz] at k3; exact k3.elim
  have hq' := hq (s1.heap.objs.size + 1) s1.heap.objs.size (I1.hok.fresh (Nat.le_succ _)) (I1.hok.fresh (Nat.le_refl _)) (Nat.ne_of_lt (Nat.lt_succ_self _))
  have I2 := Inv.made (C := cl c) I1
  have r2 : Vals (V.ref (s1.heap.objs.size + 1) :: vs) (Value.ref (s1.heap.objs.size + 1) :: us) := .cons rfl rv
  have hl : (Value.ref (s1.heap.objs.size + 1) :: us).length = ps.length := by rw [← r2.length]; exact hF.len _ _ _ _ hq'
  have hbb := hb _ (Value.ref (s1.heap.objs.size + 1) :: us) I2.kIn (by rw [List.append_nil]; exact hl)
  rw [List.append_nil] at hbb
  refine wpAny_call (make_map (f := fI) I1.kIn M.makes M.init (beq_iff_eq.mp M.fn) (codeAny_mono (hF.run _ X.stack _ _ ⟨Value.ref (s1.heap.objs.size + 1) :: us, []⟩ _ _ _ _ (hr.make (cl c) us [])
    (I2.env0.make (cl c) us []) hbb r2 hq') fun r s' hq2 => ?_))
  cases r with
  | error e => exact passAt tk σ pins _ _ e s' I2 hq2
  | ok fl =>
    cases fl with
    | ret u =>
      obtain ⟨v, H', I3, rv', ev, q3⟩ := I2.after hq2
      subst ev
      exact ⟨rv', ⟨V.ref (s1.heap.objs.size + 1), H', I3, rfl, q3⟩⟩
    | next => exact False.elim hq2
    | brk => exact False.elim hq2
    | cont => exact False.elim hq2
end
noncomputable def kMakeK (c : Nat) (F : MF) (r : Res (List Sl)) : Res Sl := r.bind fun xs st1 => keepR st1 (F (.o st1.o.length :: xs) (st1.pusho ⟨c, [], []⟩))
theorem e_makeK {c : Nat} {F : MF} {a : MA} {env : Env} {st : Store} : mMakeK c F a env st = kMakeK c F (a env st) := rfl
theorem k_makeK {c : Nat} {F : MF} {xs : List Sl} {st : Store} : kMakeK c F (.ok xs st) = keepR st (F (.o st.o.length :: xs) (st.pusho ⟨c, [], []⟩)) := rfl
theorem keep_ok {st st2 : Store} : keepR st (.ok (.v .non) st2) = .ok (.o st.o.length) st2 := rfl
end Mz

set_option Elab.async false
set_option linter.all false
set_option maxRecDepth 100000
set_option maxHeartbeats 4000000
namespace Mz
open PySem PySem.Spec PySem.Calls PyProof.Rows L2
/-! ## 56. sorted of whole numbers -/
def sortI (ns : List Int) : List Int := ns.mergeSort fun a b => decide (a ≤ b)
theorem sortI_perm {ns : List Int} : (sortI ns).Perm ns := List.mergeSort_perm ..
theorem sortI_up {ns : List Int} : (sortI ns).Pairwise (· ≤ ·) := by
  have h := List.pairwise_mergeSort (le := fun a b : Int => decide (a ≤ b)) (fun a b c h1 h2 => by simp at h1 h2 ⊢; omega) (fun a b => by simp; omega) ns
  exact h.imp fun h => of_decide_eq_true h
theorem sortI_is {ns ms : List Int} (h : ms.Perm ns) (hp : ms.Pairwise (· ≤ ·)) : ms = sortI ns :=
  List.Perm.eq_of_pairwise (fun a b _ _ h1 h2 => Int.le_antisymm h1 h2) hp sortI_up (h.trans sortI_perm.symm)
/-- sorted(xs) of a list of whole numbers: a new list -/
def fSortI : MF
  | [x], st => match litems st x with
    | some xs => match intsOf xs with
      | some ns => .ok (.v (.lst ((sortI ns).map W.int))) st
      | none => .bad
    | none => .bad
  | _, _ => .bad
theorem s_sortI {T : Tx} : CaS T (rSortedI T.K) fSortI := fun ρ G H st xs us Q E r hs p => by
  unfold fSortI at p
  split at p
  · obtain ⟨u, rfl, hx⟩ := slrs1 hs
    split at p
    · rename_i ys e
      split at p
      · rename_i ns e2
        obtain ⟨a, vs, rfl, hq, hr⟩ := litems_at r hx e
        rw [ints_rep e2 hr] at hq
        refine ⟨a, ns, rfl, hq, fun ns' q hp up hn => ?_⟩
        rw [sortI_is hp up]
        obtain ⟨f, r2⟩ := r.newG (o := .lst ((sortI ns).map V.int)) hn
        exact p _ _ _ _ f r2 (by unfold SlR Rep; exact ⟨q, _, rfl, upd_same, reps_ints _⟩)
      · exact p.elim
    · exact p.elim
  · exact p.elim
theorem f_sortI {ns : List Int} {st : Store} : fSortI [.v (.lst (ns.map W.int))] st = .ok (.v (.lst ((sortI ns).map W.int))) st := by
  have h : intsOf (ns.map W.int) = some ns := by
    have := intsOf_f (fun i : Int => i) ns
    rw [List.map_id'] at this
    exact this
  show (match intsOf (ns.map W.int) with | some ns => _ | none => _) = _
  rw [h]
end Mz

set_option Elab.async false
set_option linter.all false
set_option maxRecDepth 100000
set_option maxHeartbeats 4000000
namespace Mz
open PySem PySem.Spec PySem.Calls PyProof.Rows L2
/-! ## 57. max(xs, default=d) of whole numbers -/
def rMaxDef (K : PySem.W.Frag) : List V → List V → Hp → VK → Prop := fun xs zs H Q => ∃ (a : Addr) (ns : List Int) (d : Int), xs = [V.ref a] ∧ zs = [V.int d] ∧ SqL K H a (ns.map V.int) ∧
  ∀ m : Int, (ns = [] → m = d) → (ns ≠ [] → m ∈ ns ∧ ∀ y ∈ ns, y ≤ m) → Q (.int m) H
theorem depth_ints : ∀ ns : List Int, PyData.depthAll (ns.map .int) = 0
  | [] => rfl
  | n :: ns => by
    show max (PyData.depth (.int n)) (PyData.depthAll (ns.map .int)) = 0
    rw [depth_ints ns]; rfl
theorem fold_max (n : Int) : ∀ ns : List Int, ns.foldl max n ∈ n :: ns ∧ ∀ y ∈ n :: ns, y ≤ ns.foldl max n := by
  intro ns
  induction ns generalizing n with
  | nil => exact ⟨by simp, fun y hy => by simp at hy; rw [hy]; exact Int.le_refl n⟩
  | cons x xs ih =>
    obtain ⟨h1, h2⟩ := ih (max n x)
    have hm : n ≤ max n x ∧ x ≤ max n x := by omega
    have h3 := h2 (max n x) List.mem_cons_self
    refine ⟨?_, fun y hy => ?_⟩
    · show xs.foldl max (max n x) ∈ _
      rcases List.mem_cons.mp h1 with e | e
      · rw [e]
        by_cases c : n ≤ x
        · rw [Int.max_eq_right c]; simp
        · rw [Int.max_eq_left (by omega)]; simp
      · exact List.mem_cons_of_mem _ (List.mem_cons_of_mem _ e)
    · show y ≤ xs.foldl max (max n x)
      rcases List.mem_cons.mp hy with rfl | hy
      · omega
      · rcases List.mem_cons.mp hy with rfl | hy
        · omega
        · exact h2 y (List.mem_cons_of_mem _ hy)
theorem cr_maxDef {X : Cx} (hc : X.calm = true) (hu : X.A.units + 64 < cLine) : CallRK X (.builtin "max") [Str.ofString "default"] (rMaxDef X.K) := by
  intro pins s σ H xs zs us ws Q I r rz h
  obtain ⟨a, ns, d, rfl, rfl, hs, q⟩ := h
  obtain ⟨its, rv, hl, _⟩ := I.list hs
  rw [Vals.ref1 r]
  obtain ⟨u, rfl, ru⟩ := rz.one
  obtain ⟨t, rfl⟩ := ru
  have hi := rv.ints
  refine PySem.W.max_list_default (I.ok.hd hc) hl.isList (IntsAre.reads _ hi) ⟨fun x hx y hy => ?_, fun x hx => ?_⟩ (by rw [depth_ints]; omega) (fun e h' tk hk => ?_) (fun y ys i v h' tk bs e _ rd hk => ?_)
  · obtain ⟨n, _, rfl⟩ := List.mem_map.mp hx
    obtain ⟨m, _, rfl⟩ := List.mem_map.mp hy
    rfl
  · obtain ⟨n, _, rfl⟩ := List.mem_map.mp hx
    exact fun z => by cases z
  · have hn : ns = [] := List.map_eq_nil_iff.mp e
    exact ⟨.int d, H, I.kept hk, ⟨_, rfl⟩, q d (fun _ => rfl) fun z => absurd hn z⟩
  · cases ns with
    | nil => cases e
    | cons n ns =>
      cases e
      rw [PySem.W.maxD_ints] at rd
      obtain ⟨f1, f2⟩ := fold_max n ns
      generalize ns.foldl max n = m at rd f1 f2
      cases rd
      exact ⟨.int _, H, I.kept hk, ⟨_, rfl⟩, q _ (fun z => by cases z) fun _ => ⟨f1, f2⟩⟩
/-- the M-form: max(list, default=d) -/
def maxDef (d : Int) : MF
  | [x], st => match litems st x with
    | some xs => match intsOf xs with
      | some ns => .ok (.v (.int (if ns = [] then d else maxOf ns))) st
      | none => .bad
    | none => .bad
  | _, _ => .bad
noncomputable def mMaxD (d : Int) (a : MA) : ME := fun env st => (a env st).bind fun xs st1 => maxDef d xs st1
section
variable {X : Cx} {cl : Nat → Addr} {Wx : WX} {e : Expr} {es : List Expr} {ma : MA} {x : Str} {p pos : Pos}
theorem ie_maxD {d : Int} {nm : Option Str} {kt : Nat} {kpos p3 : Pos} (hc : X.calm = true) (hu : X.A.units + 64 < cLine) (hg : Gl X x) (hm : X.mg x = none) (hv : bootBuiltins x = some (.builtin "max")) (ha : IA X cl Wx (e :: es) ma) (hk : PE X (.Constant (.int d) kt p3) fun σ H Q => Q (.int d) H) (hn : x ≠ "__name__" := by decide) (hdb : (x == ("__debug__" : Str)) = false := by decide)
    (he : backTo pos (starEach (e :: es) X.env) = (false, eval e X.env) :: backTo pos (starEach es X.env) := by rfl) (hpl : (backTo pos (starEach (e :: es) X.env)).any (·.1) = false := by rfl)
    (hall : (backToKw pos (keywordEach [⟨nm, .Constant (.int d) kt p3, kpos⟩] X.env)).all (·.1.isSome) = true := by rfl) (hnone : (backToKw pos (keywordEach [⟨nm, .Constant (.int d) kt p3, kpos⟩] X.env)).any (·.1.isNone) = false := by rfl) (hks : (backToKw pos (keywordEach [⟨nm, .Constant (.int d) kt p3, kpos⟩] X.env)).filterMap (·.1) = [Str.ofString "default"] := by rfl) :
    IE X cl Wx (.Call (.Name x p) (e :: es) [⟨nm, .Constant (.int d) kt p3, kpos⟩] pos) (mMaxD d ma) :=
  pe_weak (pe_callBK (cr_maxDef hc hu) hg hm hv ha (pk_cons hk pk_nil) hn hdb he hpl hall hnone hks) fun σ H Q ⟨env, ρ, G, st, rel, er, q⟩ => ⟨env, ρ, G, st, rel, er, PostR.bind (R1 := SlRs ⟨X.K, cl⟩) q fun xs st1 ρ1 G1 H1 us f1 r1 s1 p1 => by
    unfold maxDef at p1
    split at p1
    · obtain ⟨u, rfl, hx⟩ := slrs1 s1
      split at p1
      · rename_i ys e0
        split at p1
        · rename_i ns e2
          obtain ⟨a, vs, rfl, hq, hr⟩ := litems_at r1 hx e0
          rw [ints_rep e2 hr] at hq
          refine ⟨a, ns, d, rfl, rfl, hq, fun m h1 h2 => ?_⟩
          have em : (if ns = [] then d else maxOf ns) = m := by
            by_cases z : ns = []
            · rw [if_pos z, h1 z]
            · rw [if_neg z]; exact (maxOf_is (h2 z).1 (h2 z).2).symm
          rw [em] at p1
          exact pg p1 r1 rep_int
        · exact p1.elim
      · exact p1.elim
    · exact p1.elim⟩
end
noncomputable def kMaxD (d : Int) (r : Res (List Sl)) : Res Sl := r.bind fun xs st1 => maxDef d xs st1
theorem e_maxD {d : Int} {a : MA} {env : Env} {st : Store} : mMaxD d a env st = kMaxD d (a env st) := rfl
theorem k_maxD {d : Int} {ns : List Int} {st : Store} : kMaxD d (.ok [.v (.lst (ns.map W.int))] st) = .ok (.v (.int (if ns = [] then d else maxOf ns))) st := by
  have h : intsOf (ns.map W.int) = some ns := by
    have := intsOf_f (fun i : Int => i) ns
    rw [List.map_id'] at this
    exact this
  show (match intsOf (ns.map W.int) with | some ns => _ | none => _) = _
  rw [h]
end Mz

set_option Elab.async false
set_option linter.all false
set_option maxRecDepth 100000
set_option maxHeartbeats 4000000
namespace Mz
open PySem PySem.Spec PySem.Calls PyProof.Rows L2
open PySem.W (keyH_end KeepsBut KeyedOut AllAlike dataKind EachIs copyHeap copyHeap_at copyHeap_old sorted_of_sort keyedOut_each SortsAt dataLe hideAll hideAll_get hideAll_none of_hideAll)
/-! ## 58. sorted by a key whose calls keep a promise J -/
section
variable {prog : Program} {w : World} {A : Around} {E : Value → Shared → Prop} {s : Shared} {a kS : Addr} {vs : List Value} {e1 : Nat} {P : PySem.Fin → Shared → Prop} {kz : List PyData} {f : Value} {J : Nat → List Value → Shared → Prop}
theorem sortJ_rest (j0 : J 0 [] s) (nk : s.heap.get? kS = some (seqObj "list" #[] 0)) (na : s.heap.get? a = some (seqObj "list" #[] e1)) (hka : kS ≠ a)
    (hlen : kz.length = vs.length) (hZ : vs.length ≤ sizeLine) (hal : AllAlike kz) (hsk : PySem.W.Sortable kz) (hu : ∀ d, d ∈ kz → A.units + d.depth < cLine)
    (turn : ∀ (i : Nat) (v : Value) (ks : List Value) (s' : Shared) (ok oa : Obj), vs[i]? = some v → J i ks s' → s'.heap.get? kS = some ok → s'.heap.get? a = some oa → (∀ c, ok.data ≠ .cell c) → (∀ c, oa.data ≠ .cell c) →
      wpAny (model prog w) A (call f [v]) (fun u s2 => J (i + 1) (ks ++ [u]) s2 ∧ s2.heap.get? kS = some ok ∧ s2.heap.get? a = some oa) (fun _ _ => False) s')
    (stab : ∀ (i : Nat) (ks : List Value) (s' : Shared) (h' : Heap), J i ks s' → Heap.SameBut kS s'.heap h' → J i ks { s' with heap := h' })
    (reads : ∀ (ks : List Value) (s' : Shared), J vs.length ks s' → EachIs (fun v k => ∃ as, Reads s'.heap v k as) ks kz)
    (h : ∀ (ks : List Value) (s1 : Shared) (h' : Heap) (tk : Nat) (out : List Value) (c : Nat), J vs.length ks s1 → (∀ b o, b ≠ a → b ≠ kS → s1.heap.get? b = some o → h'.get? b = some o) → (∃ o, s1.heap.get? a = some o) → h'.get? a = some (seqObj "list" (List.toArray out) c) → KeyedOut false kz vs out → P (.done (.ret .none)) { s1 with heap := h', toks := tk }) :
    wpAny (model prog w) A (ksk_rest a f false vs.toArray e1 (.ref kS)) P E s := by
  unfold ksk_rest
  refine wpAny_bind (wpAny_rule ?_)
  rw [← Array.forIn_toList]; simp only [List.toList_toArray]
  refine wpAny_bind (ksk_fold (fun i s' => ∃ ks kA ep, J i ks s' ∧ kA.toList = ks ∧ kA.size = i ∧ s'.heap.get? kS = some (seqObj "list" kA ep) ∧ s'.heap.get? a = some (seqObj "list" #[] e1)) vs 0 s ⟨[], #[], 0, j0, rfl, rfl, nk, na⟩ ?st ?dn)
  case st =>
    rintro j x s' hx ⟨ks, kA, ep, hJ, hks, hsz, nk', na'⟩
    rw [Nat.zero_add] at hJ hsz ⊢
    have hj := (List.getElem?_eq_some_iff.mp hx).1
    refine wpAny_bind (wpAny_attempt (wpAny_mono (turn j x ks s' _ _ hx hJ nk' na' (fun c z => by cases z) (fun c z => by cases z)) (fun u s2 hu2 => ?_) fun _ _ hF => hF.elim))
    obtain ⟨hJ2, nk2, na2⟩ := hu2
    have sb := Heap.SameBut.update s2.heap kS (Obj.mapSeq (·.push u))
    obtain ⟨c2, hc2⟩ : ∃ c2, (s2.heap.update kS (Obj.mapSeq (·.push u))).get? kS = some (seqObj "list" (kA.push u) c2) := ⟨_, get?_update_seq nk2 (·.push u)⟩
    dsimp only
    refine wpAny_bind (listUpdate_at nk2 rfl ?_ (by omega) (by rw [Array.size_push]; omega))
    refine wpAny_pure ⟨rfl, ks ++ [u], kA.push u, c2, stab _ _ s2 _ hJ2 sb, by rw [← hks]; simp, by rw [Array.size_push, hsz], hc2, (sb.2 a hka.symm).trans na2⟩
  case dn =>
    rintro s' ⟨ks, kA, ep, hJ, hks, hsz, nk', na'⟩
    rw [Nat.zero_add] at hJ hsz
    subst hks
    have hr := reads _ _ hJ
    try dsimp only
    refine wpAny_bind (listItems_at nk' rfl ?_)
    have kp : KeepsBut a (hideAll s'.heap [kS]) s'.heap := fun b o _ z => of_hideAll _ z
    refine keyH_end (κ := dataKind s'.heap kz) (h₁ := hideAll s'.heap [kS]) kp (hideAll_none _ (List.mem_singleton.mpr rfl)) nk' na' hka (SortsAt.data (s := s') hr hal hsk hu) hsz hZ fun h3 tk3 c k3 n3 => ?_
    exact h _ s' h3 tk3 _ c hJ (fun b o n1 n2 z => k3 b o n1 (hideAll_get _ z fun m => n2 (List.mem_singleton.mp m))) ⟨_, na'⟩ n3 ⟨s'.heap, kA.toList, hal, rfl, hr⟩
/-- sorted(l, key=f) -/
theorem sortJ {l : Addr} {Q : Value → Shared → Prop} {fa : Addr} {β : Type} {bs : List β} {R : Value → β → Prop} (k : β → PyData) (hl : s.heap.IsList l vs.toArray) (hR : EachIs R vs bs) (hal : AllAlike (bs.map k)) (hsk : PySem.W.Sortable (bs.map k)) (hZ : vs.length ≤ sizeLine)
    (hu : ∀ d, d ∈ bs.map k → A.units + 2 + d.depth < cLine)
    (j0 : ∀ (h' : Heap) (tk : Nat), (∀ b o, s.heap.get? b = some o → h'.get? b = some o) → J 0 [] { s with heap := h', toks := tk })
    (turn : ∀ (i : Nat) (v : Value) (ks : List Value) (s' : Shared) (ok oa : Obj), vs[i]? = some v → J i ks s' → s'.heap.get? (s.heap.objs.size + 3) = some ok → s'.heap.get? (s.heap.objs.size + 1) = some oa → (∀ c, ok.data ≠ .cell c) → (∀ c, oa.data ≠ .cell c) →
      wpAny (model prog w) A.in1.in1 (call (.ref fa) [v]) (fun u s2 => J (i + 1) (ks ++ [u]) s2 ∧ s2.heap.get? (s.heap.objs.size + 3) = some ok ∧ s2.heap.get? (s.heap.objs.size + 1) = some oa) (fun _ _ => False) s')
    (stab : ∀ (i : Nat) (ks : List Value) (s' : Shared) (h' : Heap), J i ks s' → Heap.SameBut (s.heap.objs.size + 3) s'.heap h' → J i ks { s' with heap := h' })
    (reads : ∀ (ks : List Value) (s' : Shared), J vs.length ks s' → EachIs (fun v d => ∃ as, Reads s'.heap v d as) ks (bs.map k))
    (h : ∀ (ks : List Value) (s1 : Shared) (h' : Heap) (tk : Nat) (out : List Value) (c : Nat), J vs.length ks s1 → (∀ b o, b ≠ s.heap.objs.size + 1 → b ≠ s.heap.objs.size + 3 → s1.heap.get? b = some o → h'.get? b = some o) → (∃ o, s1.heap.get? (s.heap.objs.size + 1) = some o) → h'.get? (s.heap.objs.size + 1) = some (seqObj "list" (List.toArray out) c) →
      EachIs R out (bs.mergeSort (dataLe false k)) → Q (.ref (s.heap.objs.size + 1)) { s1 with heap := h', toks := tk }) :
    wpAny (model prog w) A (call (.builtin "sorted") [.ref l] [(Str.ofString "key", .ref fa)]) Q E s := by
  refine sorted_of_sort hl hZ (PyProof.Rows.ksk_s1 _ _) (fun _ => PyProof.Rows.ksk_l1 _ _) fun E' => ?_
  rw [PyProof.Rows.ksk_t1]
  have hat := copyHeap_at s.heap vs
  have hsz0 : (copyHeap s.heap vs).objs.size = s.heap.objs.size + 2 := by unfold copyHeap; rw [size_push', Heap.size_update, size_push']
  obtain ⟨ee, hee⟩ : ∃ ee, ((copyHeap s.heap vs).update (s.heap.objs.size + 1) (Obj.mapSeq fun _ => (#[] : Array Value))).get? (s.heap.objs.size + 1) = some (seqObj "list" #[] ee) := ⟨_, get?_update_seq hat fun _ => #[]⟩
  have hsz1 : (((copyHeap s.heap vs).update (s.heap.objs.size + 1) (Obj.mapSeq fun _ => (#[] : Array Value))).push (seqObj "tuple" vs.toArray 0)).objs.size = s.heap.objs.size + 3 := by rw [size_push', Heap.size_update, hsz0]
  unfold ksk_tree
  refine wpAny_bind (listItems_at hat rfl (wpAny_bind (listUpdate_at hat rfl ?_ (by rw [List.size_toArray]; exact hZ) (Nat.zero_le _))))
  refine wpAny_bind (seqEpoch_at hee rfl (wpAny_bind (wpAny_newTuple ?_ (by show vs.length ≤ _; exact hZ))))
  refine wpAny_bind (wpAny_newList (wpAny_holding ?_) (Nat.zero_le _))
  have hk3 : (((copyHeap s.heap vs).update (s.heap.objs.size + 1) (Obj.mapSeq fun _ => (#[] : Array Value))).push (seqObj "tuple" vs.toArray 0)).objs.size = s.heap.objs.size + 3 := hsz1
  show wpAny _ _ (ksk_rest (s.heap.objs.size + 1) (.ref fa) false vs.toArray _ (.ref (((copyHeap s.heap vs).update (s.heap.objs.size + 1) (Obj.mapSeq fun _ => (#[] : Array Value))).push (seqObj "tuple" vs.toArray 0)).objs.size)) _ _ _
  rw [hk3]
  refine sortJ_rest (J := J) (kz := bs.map k) ?_ ?_ (Heap.get?_push_of_some _ (Heap.get?_push_of_some _ hee)) (fun z => by have z' : (s.heap.objs.size + 3 : Nat) = s.heap.objs.size + 1 := z; omega) (by rw [List.length_map]; exact hR.length.symm) hZ hal hsk hu turn stab reads fun ks s1 h' tk out c hJ kp hx hD ko => ⟨rfl, h ks s1 h' tk out c hJ kp hx hD (keyedOut_each k ko hR)⟩
  · refine j0 _ s.toks fun b o z => ?_
    have hb : b ≠ s.heap.objs.size + 1 := Nat.ne_of_lt (Nat.lt_succ_of_lt (Heap.lt_size z))
    exact Heap.get?_push_of_some _ (Heap.get?_push_of_some _ ((Heap.get?_update_ne _ _ _ _ hb).trans (copyHeap_old z)))
  · show Heap.get? _ (s.heap.objs.size + 3) = _
    have this : ((((copyHeap s.heap vs).update (s.heap.objs.size + 1) (Obj.mapSeq fun _ => (#[] : Array Value))).push (seqObj "tuple" vs.toArray 0)).push (seqObj "list" #[] 0)).get? (((copyHeap s.heap vs).update (s.heap.objs.size + 1) (Obj.mapSeq fun _ => (#[] : Array Value))).push (seqObj "tuple" vs.toArray 0)).objs.size = some (seqObj "list" #[] 0) := Heap.get?_push_size _ rfl
    rw [hsz1] at this
    exact this
end
end Mz

set_option Elab.async false
set_option linter.all false
set_option maxRecDepth 100000
set_option maxHeartbeats 4000000
namespace Mz
open PySem PySem.Spec PySem.Calls PyProof.Rows L2 LamX
/-! ## 59. a lambda with one parameter -/
structure Lam1 (sc scope : Scope) (x : Str) : Prop where
  kd : scope.kind = .function
  noco : scope.isCoroutine = false
  nogen : scope.isGenerator = false
  par : scope.names.lookup x = some .local
  own : ∀ y ∈ scope.names, (y.2 = .local → y.1 = x) ∧ y.2 ≠ .cell
  cap : ∀ y ∈ scope.names, y.2 = .free → sc.names.lookup y.1 = some .cell ∨ sc.names.lookup y.1 = some .free
def lam1B (sc scope : Scope) (x : Str) : Bool :=
  (decide (scope.kind = .function) && !scope.isCoroutine && !scope.isGenerator && decide (scope.names.lookup x = some .local)) &&
    (scope.names.all (fun y => (!decide (y.2 = .local) || decide (y.1 = x)) && !decide (y.2 = .cell)) && scope.names.all (fun y => !decide (y.2 = .free) || (decide (sc.names.lookup y.1 = some .cell) || decide (sc.names.lookup y.1 = some .free))))
theorem lam1_by {sc scope : Scope} {x : Str} (h : lam1B sc scope x = true) : Lam1 sc scope x := by
  unfold lam1B at h
  simp only [Bool.and_eq_true, Bool.or_eq_true, Bool.not_eq_true', decide_eq_true_eq, decide_eq_false_iff_not, List.all_eq_true] at h
  obtain ⟨⟨⟨⟨a, b⟩, c⟩, d⟩, e, g⟩ := h
  refine ⟨a, b, c, d, fun y hy => ⟨fun z => ?_, (e y hy).2⟩, fun y hy z => ?_⟩
  · rcases (e y hy).1 with q | q
    · exact absurd z q
    · exact q
  · rcases g y hy with q | q
    · exact absurd z q
    · exact q
abbrev NoX : XK := fun _ _ _ => False
/-- the body's context, entered at s -/
def lamCx1 (X : Cx) (A : Around) (s : Shared) (H : Hp) (scope : Scope) (f c' : Addr) (x : Str) : Cx :=
  { lamCx X A X.stack s H NoX scope f c' with N := X.N ++ [x] }
section
variable {X : Cx} {pins : List (Addr × Obj)} {σ : L2.St} {H : Hp} {s : Shared} {scope : Scope} {x : Str} {f c' : Addr} {u : Value} {v : V}
theorem Lam1.hasC (L : Lam1 X.env.scope scope x) (ok : X.Ok) : ∀ y ∈ scope.names, y.2 = .free → ∃ c, X.env.cells.lookup y.1 = some c := fun y hy e =>
  (L.cap y hy e).elim (fun z => ok.has _ (.inl z)) fun z => ok.has _ (.inr z)
theorem lam1_start {A : Around} {h₁ : Heap} {tk : Nat} (I : Inv X pins σ H s) (L : Lam1 X.env.scope scope x) (hxN : ∀ (i : Nat) (v : V), X.N[i]? = some x → σ[i]? ≠ some (some v)) (e0 : Env0 X.prog X.w X.K X.mg X.base A X.stack s H) (hd : A.handled = none) (rv : RelV v u)
    (hns : h₁.Ns s.heap.objs.size fun y => [(x, u)].reverse.lookup y) (kp : ∀ b o, s.heap.get? b = some o → h₁.get? b = some o) : Inv (lamCx1 X A s H scope f c' x) [] (σ ++ [some v]) H { s with heap := h₁, toks := tk } := by
  have capt := L.hasC I.ok
  have down : ∀ {y c}, (cloFrom X.env.cells scope.names []).lookup y = some c → X.env.cells.lookup y = some c := fun {y c} e => by
    rcases cloFrom_mem (PySem.mem_of_lookup e) with hm | ⟨h1, h2⟩
    · exact nomatch hm
    obtain ⟨c1, hc⟩ := capt _ h1 rfl
    have hc' : X.env.cells.lookup y = some c1 := hc
    have e2 : c = c1 := by rw [h2, hc'] <;> rfl
    exact e2 ▸ hc'
  have upw : ∀ {y}, scope.names.lookup y = some .free → ∃ c, (cloFrom X.env.cells scope.names []).lookup y = some c := fun {y} hl =>
    mem_lookup (cloFrom_has (cells := X.env.cells) (acc := []) (show (y, NameKind.free) ∈ scope.names from PySem.mem_of_lookup hl))
  have cellUp : ∀ {c : Addr} {w : Option Value}, s.heap.IsCell c w → h₁.IsCell c w := fun {c w} ⟨o, ho, hd⟩ => ⟨o, kp _ _ ho, hd⟩
  have none0 : ∀ b : Addr, b ∈ (lamCx1 X A s H scope f c' x).ex → False := fun b z => nomatch (show b ∈ ([] : List Addr) from z)
  have nocell : ∀ {y}, scope.names.lookup y = some .cell → False := fun {y} hy => (L.own _ (PySem.mem_of_lookup hy)).2 rfl
  constructor
  case ok =>
    refine ⟨e0.mod, L.kd, rfl, rfl, Nat.le_refl _, fun y z c p q => I.ok.inj y z c (down p) (down q), fun y hy => ?_, fun y c z _ => (Bool.false_ne_true (show false = true from z)).elim, fun _ => hd, Around.frames_deeper e0.frames, .inr ⟨rfl, rfl⟩, fun b z => (none0 b z).elim, e0.bs, e0.bsz, fun b _ _ z => none0 b z, fun b z => (none0 b z).elim, e0.funs, e0.frf⟩
    rcases (show scope.names.lookup y = some .cell ∨ scope.names.lookup y = some .free from hy) with hy | hy
    · exact (nocell hy).elim
    · exact upw hy
  case os => rfl
  case bare => exact e0.bare
  case base => exact Un.kept kp
  case loc =>
    refine ⟨_, hns, fun i y v' e1 e2 e3 => ?_⟩
    have e1' : (X.N ++ [x])[i]? = some y := e1
    have e3' : Vis scope y := e3
    by_cases hi : i < X.N.length
    · rw [List.getElem?_append_left hi] at e1'
      rw [List.getElem?_append_left (by rw [I.len]; exact hi)] at e2
      have hyx : y ≠ x := fun z => hxN i v' (z ▸ e1') e2
      rcases e3' with k | k | k
      · exact absurd ((L.own _ (PySem.mem_of_lookup k)).1 rfl) hyx
      · exact (nocell k).elim
      · obtain ⟨m, hn, hl⟩ := I.loc
        have kk := L.cap _ (PySem.mem_of_lookup k) rfl
        obtain ⟨w', r, q⟩ := hl i y v' e1' e2 (kk.elim (fun k => .inr (.inl k)) fun k => .inr (.inr k))
        obtain ⟨c2, h2⟩ := upw k
        refine ⟨w', r, .inr ⟨.inr k, c2, h2, ?_⟩⟩
        rcases q with ⟨k', _⟩ | ⟨_, c3, e', z⟩
        · have k2 : X.env.scope.names.lookup y = some .local := k'
          rcases kk with k3 | k3 <;> (rw [show X.env.scope.names.lookup y = _ from k3] at k2; cases k2)
        · rw [down h2] at e'
          cases e'
          exact cellUp z
    · have hl := get_lt e1'
      rw [List.length_append, List.length_singleton] at hl
      have hi' : i = X.N.length := by omega
      subst hi'
      rw [List.getElem?_append_right (Nat.le_refl _), Nat.sub_self] at e1'
      rw [← I.len, List.getElem?_append_right (Nat.le_refl _), Nat.sub_self] at e2
      cases e1'
      cases e2
      exact ⟨u, rv, .inl ⟨L.par, by simp⟩⟩
  case cell => exact fun y c e => (I.cell y c (down e)).imp fun w' z => cellUp z
  case free => exact e0.hok.fresh (Nat.le_refl _)
  case freeC => exact fun y c e => I.freeC y c (down e)
  case pin => exact fun q hq => nomatch (show q ∈ ([] : List (Addr × Obj)) ++ [] from hq)
  case hok => exact e0.hok.kept kp
  case len =>
    show (σ ++ [some v]).length = (X.N ++ [x]).length
    rw [List.length_append, List.length_append, I.len]
    rfl
abbrev lamFn (X : Cx) (params : Arguments) (body : Expr) (scope : Scope) (pm : Value) (c' : Addr) (ctv : Value) : FuncData :=
  PySem.W.kla_fn "<lambda>" (X.env.qual ++ "<lambda>") params body scope (cloFrom X.env.cells scope.names []) pm (.ref c') ctv
abbrev lamObj (X : Cx) (params : Arguments) (body : Expr) (scope : Scope) (pm : Value) (c' : Addr) (ctv : Value) : Obj :=
  PySem.W.kla_obj "<lambda>" (X.env.qual ++ "<lambda>") params body scope (cloFrom X.env.cells scope.names []) pm c' ctv
/-- the lambda is called -/
theorem lam1_call {A : Around} {params : Arguments} {body : Expr} {pm ctv : Value} {k : Nat} {te : TE} {Q : VK} (I : Inv X pins σ H s) (L : Lam1 X.env.scope scope x) (hxN : ∀ (i : Nat) (v : V), X.N[i]? = some x → σ[i]? ≠ some (some v)) (e0 : Env0 X.prog X.w X.K X.mg X.base A X.stack s H) (hr : Room (k + 1) A)
    (hf : s.heap.get? f = some (lamObj X params body scope pm c' ctv)) (hc : H c' = some (CodeO c' (X.env.qual ++ "<lambda>"))) (rv : RelV v u) (hbind : bindArgs (lamFn X params body scope pm c' ctv) ⟨[u], []⟩ = pure [(x, u)])
    (hbody : Room k (A.deeper (lamEnv X scope s.heap.objs.size f c')) → PE (lamCx1 X A s H scope f c' x) body te) (ht : te (σ ++ [some v]) H Q) :
    codeAny (model X.prog X.w) A (.call (.ref f) ⟨[u], []⟩) (CR (L2.CX X.prog X.w) X.stack X.prog X.w H s Q NoX) s := by
  obtain ⟨⟨oc, vs, t, hoc, hdc, hvc⟩, _, _⟩ := I.hok c' _ hc
  refine PySem.W.kla_callFunE hr.depth hf rfl L.noco L.nogen rfl ⟨c', oc, vs, t, rfl, hoc, hdc, hvc⟩ ?_
  rw [hbind]
  refine wpAny_pure (wpAny_newFunctionEnv (fun y hy => (L.own y hy).2) (fun y hy => by rw [List.mem_singleton.mp hy]; exact L.par) (fun h₁ hns hsb => ⟨I.nolimit.fresh _ hsb, ?_⟩) L.kd)
  have kp : ∀ b o, s.heap.get? b = some o → h₁.get? b = some o := fun b o e => hsb.extBut b o (Nat.ne_of_lt (Heap.lt_size e)) (Heap.get?_push_of_some _ e)
  have J : Inv (lamCx1 X A s H scope f c' x) [] (σ ++ [some v]) H { s with heap := h₁, toks := s.toks + [(x, u)].length } := lam1_start I L hxN e0 hr.hd rv hns kp
  show codeAny _ _ (.expr body (lamEnv X scope s.heap.objs.size f c')) _ _
  refine PySem.W.kla_codeExpr (wpAny_mono ((hbody (hr.deeper _)).run [] _ _ H Q J ht) (fun w s' hq => ?_) fun e s' hq => hq)
  obtain ⟨w', H', J', rw', q⟩ := hq
  exact ⟨w', H', J'.os, J'.bare, J'.base, J'.hok, rw', q⟩
end
end Mz

set_option Elab.async false
set_option linter.all false
set_option maxRecDepth 100000
set_option maxHeartbeats 4000000
namespace Mz
open PySem PySem.Spec PySem.Calls PyProof.Rows L2 LamX
open PySem.W (AllAlike EachIs dataLe alike)
/-! ## 60. sorted(xs, key=lambda x: (.., x)) -/
/-- a key: (whole numbers in a tuple, a number) or (a number, a number) -/
def wKey : W → Option PyData
  | .tup [.tup xs, .int i] => (intsOf xs).map fun ns => .tuple [.tuple (ns.map .int), .int i]
  | .tup [.int a, .int i] => some (.tuple [.int a, .int i])
  | _ => none
def wKeys : List W → Option (List PyData)
  | [] => some []
  | w :: ws => match wKey w, wKeys ws with
    | some d, some ds => some (d :: ds)
    | _, _ => none
def keysOf (me : ME) (env : Mz.Env) : List W → Store → Res (List W)
  | [], st => .ok [] st
  | x :: xs, st => (me (env ++ [some (.v x)]) st).then fun y st1 => match y with
    | .v w => (keysOf me env xs st1).then fun ws st2 => .ok (w :: ws) st2
    | _ => .bad
def byK (ds : List PyData) (xs : List W) : List W := ((ds.zip xs).mergeSort (dataLe false Prod.fst)).map Prod.snd
open Classical in
noncomputable def sortFin (xs ws : List W) (st : Store) : Res Sl := match wKeys ws with
  | some ds => if AllAlike ds then .ok (.l st.l.length) (st.push (.lst (byK ds xs))) else .bad
  | none => .bad
noncomputable def sortGo (me : ME) (env : Mz.Env) (xs : List Sl) (st : Store) : Res Sl := match xs with
  | [s] => match litems st s with
    | some ys => (keysOf me env ys st).then fun ws st2 => sortFin ys ws st2
    | none => .bad
  | _ => .bad
noncomputable def mSortK (ma : MA) (me : ME) : ME := fun env st => (ma env st).bind fun xs st1 => sortGo me env xs st1
/-- the same, the slots vs (of the lambda's name) not told to the body -/
noncomputable def mSortKv (vs : List Nat) (ma : MA) (me : ME) : ME := fun env st => (ma env st).bind fun xs st1 => sortGo me (wipeE env vs) xs st1
section
variable {T : Tx} {ρ ρ' : Mp} {G G' H : Hp} {st : Store}
theorem EnvR.snoc {env : Mz.Env} {σ : L2.St} {s : Sl} {u : V} (h : EnvR T ρ G env σ) (r : Mz.SlR T ρ G s u) : EnvR T ρ G (env ++ [some s]) (σ ++ [some u]) := by
  refine ⟨by rw [List.length_append, List.length_append, h.1]; rfl, fun i s' e => ?_⟩
  rcases get_snoc e with e2 | ⟨rfl, e2⟩
  · obtain ⟨v, h1, h2⟩ := h.2 i s' e2
    exact ⟨v, by rw [List.getElem?_append_left (get_lt h1)]; exact h1, h2⟩
  · cases e2
    exact ⟨u, by rw [h.1]; simp, r⟩
theorem wKey_tup {w : W} {d : PyData} (h : wKey w = some d) : ∃ x r, d = .tuple (x :: r) := by
  unfold wKey at h
  split at h
  · obtain ⟨ns, _, rfl⟩ := Option.map_eq_some_iff.mp h
    exact ⟨_, _, rfl⟩
  · cases h; exact ⟨_, _, rfl⟩
  · cases h
theorem wKeys_len : ∀ {ws : List W} {ds : List PyData}, wKeys ws = some ds → ds.length = ws.length
  | [], ds, h => by cases h; rfl
  | w :: ws, ds, h => by
    unfold wKeys at h
    split at h
    · rename_i d ds' _ e2
      cases h
      rw [List.length_cons, List.length_cons, wKeys_len e2]
    · cases h
theorem wKeys_mem : ∀ {ws : List W} {ds : List PyData}, wKeys ws = some ds → ∀ d ∈ ds, ∃ w, wKey w = some d
  | [], ds, h, d, hd => by cases h; cases hd
  | w :: ws, ds, h, d, hd => by
    unfold wKeys at h
    split at h
    · rename_i d' ds' e1 e2
      cases h
      rcases List.mem_cons.mp hd with rfl | hd
      · exact ⟨w, e1⟩
      · exact wKeys_mem e2 d hd
    · cases h
theorem depthK_ints : ∀ ns : List Int, PyData.depthAll (ns.map PyData.int) ≤ 2
  | [] => by simp [PyData.depthAll]
  | n :: ns => by have := depthK_ints ns; simp only [List.map_cons, PyData.depthAll, PyData.depth]; omega
theorem wKey_depth {w : W} {d : PyData} (h : wKey w = some d) : d.depth ≤ 8 := by
  unfold wKey at h
  split at h
  · obtain ⟨ns, _, rfl⟩ := Option.map_eq_some_iff.mp h
    have := depthK_ints ns
    simp only [PyData.depthAll, PyData.depth]
    omega
  · cases h; simp only [PyData.depthAll, PyData.depth]; omega
  · cases h
theorem readsAll_ints {h : Heap} : ∀ {ns : List Int} {us : List Value}, Vals (ns.map V.int) us → PySem.ReadsAll h us (ns.map PyData.int) []
  | [], us, r => by cases r; exact .nil
  | n :: ns, us, r => by
    cases r with
    | cons r1 r2 =>
      obtain ⟨t, rfl⟩ := r1
      have := PySem.ReadsAll.cons (.int n t) (readsAll_ints (h := h) r2)
      simpa using this
end
section
variable {X : Cx} {cl : Nat → Addr} {Wx : WX} {pins : List (Addr × Obj)} {σ : L2.St} {ρ : Mp} {G H : Hp} {s : Shared} {st : Store}
theorem key_reads (I : Inv X pins σ H s) (rel : Rel ⟨X.K, cl⟩ ρ G H st) {w : W} {d : PyData} {l : V} {u : Value} (hk : wKey w = some d) (r : Rep ⟨X.K, cl⟩ G w l) (rv : RelV l u) : ∃ as, Reads s.heap u d as := by
  unfold wKey at hk
  split at hk
  · rename_i xs i
    obtain ⟨ns, e, rfl⟩ := Option.map_eq_some_iff.mp hk
    unfold Rep at r
    obtain ⟨a, vs, rfl, hs, r2⟩ := r
    unfold Reps at r2; obtain ⟨v1, q1, rfl, h1, r2⟩ := r2
    unfold Reps at r2; obtain ⟨v2, q2, rfl, h2, r2⟩ := r2
    unfold Reps at r2; subst r2
    unfold Rep at h1 h2
    subst h2
    obtain ⟨b, ws, rfl, hs2, r3⟩ := h1
    rw [ints_rep e r3] at hs2
    cases rv
    obtain ⟨its, rits, ⟨o, ho, hc, n, hd⟩, _⟩ := I.tuple (sqt_mono rel.ext hs)
    obtain ⟨its2, rits2, ⟨o2, ho2, hc2, n2, hd2⟩, _⟩ := I.tuple (sqt_mono rel.ext hs2)
    obtain ⟨u1, u2, rfl, e1, e2⟩ := vals2 rits
    obtain rfl : u1 = Value.ref b := e1
    obtain ⟨tt, rfl⟩ := e2
    exact ⟨_, .tuple ho hc hd (.cons (.tuple ho2 hc2 hd2 (readsAll_ints rits2)) (.cons (.int i tt) .nil))⟩
  · rename_i a i
    cases hk
    unfold Rep at r
    obtain ⟨p, vs, rfl, hs, r2⟩ := r
    unfold Reps at r2; obtain ⟨v1, q1, rfl, h1, r2⟩ := r2
    unfold Reps at r2; obtain ⟨v2, q2, rfl, h2, r2⟩ := r2
    unfold Reps at r2; subst r2
    unfold Rep at h1 h2
    subst h1; subst h2
    cases rv
    obtain ⟨its, rits, ⟨o, ho, hc, n, hd⟩, _⟩ := I.tuple (sqt_mono rel.ext hs)
    obtain ⟨u1, u2, rfl, e1, e2⟩ := vals2 rits
    obtain ⟨t1, rfl⟩ := e1
    obtain ⟨t2, rfl⟩ := e2
    exact ⟨_, .tuple ho hc hd (.cons (.int a t1) (.cons (.int i t2) .nil))⟩
  · cases hk
/-- keys that stand for values -/
inductive KeyR (T : Tx) (G : Hp) : List Value → List W → Prop
  | nil : KeyR T G [] []
  | cons {u : Value} {us : List Value} {w : W} {ws : List W} (h : ∃ l, RelV l u ∧ Rep T G w l) (t : KeyR T G us ws) : KeyR T G (u :: us) (w :: ws)
theorem KeyR.mono {T : Tx} {G G' : Hp} (e : ∀ a o, G a = some o → G' a = some o) : ∀ {us : List Value} {ws : List W}, KeyR T G us ws → KeyR T G' us ws
  | _, _, .nil => .nil
  | _, _, .cons ⟨l, h1, h2⟩ t => .cons ⟨l, h1, Rep.mono e _ _ h2⟩ (t.mono e)
theorem KeyR.snoc {T : Tx} {G : Hp} {u : Value} {w : W} (h : ∃ l, RelV l u ∧ Rep T G w l) : ∀ {us : List Value} {ws : List W}, KeyR T G us ws → KeyR T G (us ++ [u]) (ws ++ [w])
  | _, _, .nil => .cons h .nil
  | _, _, .cons h1 t => .cons h1 (t.snoc h)
theorem keys_read (I : Inv X pins σ H s) (rel : Rel ⟨X.K, cl⟩ ρ G H st) : ∀ {us : List Value} {ws : List W} {ds : List PyData}, KeyR ⟨X.K, cl⟩ G us ws → wKeys ws = some ds → EachIs (fun v k => ∃ as, Reads s.heap v k as) us ds
  | _, _, ds, .nil, e => by cases e; exact .nil
  | _, _, ds, .cons (w := w) (ws := ws) ⟨l, h1, h2⟩ t, e => by
    unfold wKeys at e
    split at e
    · rename_i d ds' e1 e2
      cases e
      exact .cons (key_reads I rel e1 h2 h1) (keys_read I rel t e2)
    · cases e
theorem wKeys_sortable {ws : List W} {ds : List PyData} (h : wKeys ws = some ds) : PySem.W.Sortable ds := .inl fun d hd => by
  obtain ⟨w, hw⟩ := wKeys_mem h d hd
  exact wKey_tup hw
/-- items that stand for values -/
theorem each_items {T : Tx} {G : Hp} : ∀ {ds : List PyData} {xs : List W} {vs : List V} {us : List Value}, ds.length = xs.length → Reps T G xs vs → Vals vs us → EachIs (fun (v : Value) (p : PyData × W) => ∃ l, RelV l v ∧ Rep T G p.2 l) us (ds.zip xs)
  | [], [], vs, us, _, r, rv => by unfold Reps at r; subst r; cases rv; exact .nil
  | d :: ds, x :: xs, vs, us, e, r, rv => by
    unfold Reps at r
    obtain ⟨v, q, rfl, h1, h2⟩ := r
    cases rv with
    | cons r1 r2 => exact .cons ⟨v, r1, h1⟩ (each_items (by simpa using e) h2 r2)
  | [], _ :: _, _, _, e, _, _ => by simp at e
  | _ :: _, [], _, _, e, _, _ => by simp at e
theorem items_each {T : Tx} {G : Hp} : ∀ {ps : List (PyData × W)} {us : List Value}, EachIs (fun (v : Value) (p : PyData × W) => ∃ l, RelV l v ∧ Rep T G p.2 l) us ps → ∃ vs, Vals vs us ∧ Reps T G (ps.map Prod.snd) vs
  | [], us, e => by cases e; exact ⟨[], .nil, Reps.nil⟩
  | p :: ps, us, e => by
    cases e with
    | cons h t =>
      obtain ⟨l, h1, h2⟩ := h
      obtain ⟨vs, h3, h4⟩ := items_each t
      exact ⟨l :: vs, .cons h1 h3, Reps.cons h2 h4⟩
/-! the tables -/
def tabL (cl : Nat → Addr) : List (Addr × Str) := [(cl 900, tbN 0), (cl 901, tbN 1)].filter fun p => p.1 != 0
theorem tabL_mem {p : Addr × Str} : p ∈ tabL cl ↔ ∃ j, j < 2 ∧ p = (cl (900 + j), tbN j) ∧ cl (900 + j) ≠ 0 := by
  unfold tabL
  rw [List.mem_filter]
  constructor
  · rintro ⟨h1, h2⟩
    have h2' : p.1 ≠ 0 := by simpa using h2
    rcases List.mem_cons.mp h1 with rfl | h1
    · exact ⟨0, by decide, rfl, h2'⟩
    · rcases List.mem_singleton.mp h1 with rfl
      exact ⟨1, by decide, rfl, h2'⟩
  · rintro ⟨j, hj, rfl, hn⟩
    refine ⟨?_, by simpa using hn⟩
    match j, hj with
    | 0, _ => exact List.mem_cons_self ..
    | 1, _ => exact List.mem_cons_of_mem _ (List.mem_cons_self ..)
theorem tbOk_tabs {K : PySem.W.Frag} : TbOk ⟨K, cl⟩ H ↔ Tabs (tabL cl) H := by
  constructor
  · intro t p hp
    obtain ⟨j, hj, rfl, hn⟩ := tabL_mem.mp hp
    exact (t j hj).resolve_left hn
  · intro t j hj
    by_cases hn : cl (900 + j) = 0
    · exact .inl hn
    · exact .inr (t (cl (900 + j), tbN j) (tabL_mem.mpr ⟨j, hj, rfl, hn⟩))
end
end Mz

set_option Elab.async false
set_option linter.all false
set_option maxRecDepth 100000
set_option maxHeartbeats 4000000
namespace Mz
open PySem PySem.Spec PySem.Calls PyProof.Rows L2 LamX
open PySem.W (AllAlike EachIs dataLe alike)
/-! ## 61. sorted(xs, key=lambda x: (.., x)): the rule -/
theorem then_ok {α β : Type} {r : Res α} {k : α → Store → Res β} {b : β} {st : Store} (h : r.then k = .ok b st) : ∃ a st1, r = .ok a st1 ∧ k a st1 = .ok b st := by
  cases r with
  | ok a st1 => exact ⟨a, st1, rfl, h⟩
  | ex c ns ws st1 => cases h
  | bad => cases h
theorem keysOf_cons {me : ME} {env : Mz.Env} {x : W} {xs : List W} {st st2 : Store} {ws : List W} (h : keysOf me env (x :: xs) st = .ok ws st2) :
    ∃ w st1 r, me (env ++ [some (.v x)]) st = .ok (.v w) st1 ∧ keysOf me env xs st1 = .ok r st2 ∧ ws = w :: r := by
  unfold keysOf at h
  obtain ⟨y, st1, e1, h⟩ := then_ok h
  split at h
  · obtain ⟨r, st3, e2, h⟩ := then_ok h
    cases h
    exact ⟨_, st1, r, e1, e2, rfl⟩
  · cases h
theorem keysOf_len {me : ME} {env : Mz.Env} : ∀ {xs : List W} {st st2 : Store} {ws : List W}, keysOf me env xs st = .ok ws st2 → ws.length = xs.length
  | [], st, st2, ws, h => by cases h; rfl
  | x :: xs, st, st2, ws, h => by
    obtain ⟨w, st1, r, _, e2, rfl⟩ := keysOf_cons h
    rw [List.length_cons, List.length_cons, keysOf_len e2]
section
variable {X : Cx} {cl : Nat → Addr} {Wx : WX} {pins : List (Addr × Obj)} {σ : L2.St} {ρ : Mp} {G H : Hp} {s : Shared} {st : Store}
theorem rel_tables {H1 : Hp} (r : Rel ⟨X.K, cl⟩ ρ G H st) (eN : ExtN H H1) (t : Tabs (tabL cl) H1) : Rel ⟨X.K, cl⟩ ρ G H1 st := by
  have low : ∀ {x : Lo} {o : HO}, LoR ⟨X.K, cl⟩ G x o → ∀ ps, o ≠ .tbl ps := fun {x o} h ps z => by
    subst z
    cases x with
    | lst xs => obtain ⟨vs, z, _⟩ := h; cases z
    | dct ks ws => obtain ⟨vs, z, _⟩ := h; cases z
    | dead => rcases h with ⟨vs, z⟩ | ⟨vs, z⟩ <;> cases z
  refine ⟨fun a o e => eN a o (r.ext a o e) fun ps z => r.nt a ps (z ▸ e), r.ll, r.lo, fun n a x hn hx => ?_, fun n a x hn hx => ?_, r.nl, r.no, tbOk_tabs.mpr t, r.nt⟩
  · obtain ⟨h1, o, h2, h3⟩ := r.la n a x hn hx
    exact ⟨h1, o, eN a o h2 (low h3), h3⟩
  · obtain ⟨h1, o, h2, h3⟩ := r.oa n a x hn hx
    refine ⟨h1, o, eN a o h2 fun ps z => ?_, h3⟩
    obtain ⟨dx, us, z2, _⟩ := h3
    subst z; cases z2
/-- the lambda's code object stays -/
theorem rel_code (r : Rel ⟨X.K, cl⟩ ρ G H st) {c : Addr} {q : Str} (hc : H c = some (CodeO c q)) : ∃ G', Fr ρ ρ G G' ∧ Rel ⟨X.K, cl⟩ ρ G' H st ∧ G' c = some (CodeO c q) := by
  cases e : G c with
  | some o =>
    have := r.ext c o e
    rw [hc] at this; cases this
    exact ⟨G, Fr.refl _ _, r, e⟩
  | none =>
    have h1 : ∀ (n : Nat) (a : Addr), ρ.l[n]? = some a → a ≠ c := fun n a hn z => by
      subst z
      obtain ⟨x, hx⟩ := r.lat' hn
      obtain ⟨_, o, ho, hr⟩ := r.la n a x hn hx
      exact fx_lo ho hr _ hc (.inr ⟨q, rfl⟩)
    have h2 : ∀ (n : Nat) (a : Addr), ρ.o[n]? = some a → a ≠ c := fun n a hn z => by
      subst z
      obtain ⟨x, hx⟩ := r.oat' hn
      obtain ⟨_, o, ho, hr⟩ := r.oa n a x hn hx
      exact fx_in ho hr _ hc (.inr ⟨q, rfl⟩)
    obtain ⟨f, r2⟩ := r.adopt (o := CodeO c q) e hc h1 h2 (fun ps z => codeO_ne ps z)
    exact ⟨_, f, r2, upd_same⟩
/-- what holds behind i calls -/
def KJ (X : Cx) (cl : Nat → Addr) (pins : List (Addr × Obj)) (σ : L2.St) (me : ME) (env : Mz.Env) (ys ws : List W) (st2 : Store) (ρ : Mp) (G : Hp) (a kS : Addr) (i : Nat) (ks : List Value) (s : Shared) : Prop :=
  ∃ ρ' G' H' st' r, Inv X pins σ H' s ∧ Fr ρ ρ' G G' ∧ Rel ⟨X.K, cl⟩ ρ' G' H' st' ∧ keysOf me env (ys.drop i) st' = .ok r st2 ∧ ws = ws.take i ++ r ∧ KeyR ⟨X.K, cl⟩ G' ks (ws.take i) ∧ H' kS = none ∧ H' a = none ∧ i ≤ ys.length
theorem tab_mem {j : Nat} {q : Str} (hj : j < 2) (hP : cl (900 + j) ≠ 0) (hq : q = tbN j) : (cl (900 + j), q) ∈ tabL cl := tabL_mem.mpr ⟨j, hj, by rw [hq], hP⟩
theorem tab_un {j : Nat} {q : Str} (hj : j < 2) (hd2 : cl 900 ≠ cl 901) (hq : q = tbN j) : ∀ p ∈ tabL cl, p.1 = cl (900 + j) → p.2 = q := fun p hp e1 => by
  obtain ⟨i, hi, hp2, _⟩ := tabL_mem.mp hp
  rw [hp2] at e1
  have e2 : cl (900 + i) = cl (900 + j) := e1
  have hij : i = j := by
    rcases (show i = 0 ∨ i = 1 by omega) with hi0 | hi0 <;> rcases (show j = 0 ∨ j = 1 by omega) with hj0 | hj0
    · omega
    · rw [hi0, hj0] at e2; exact absurd e2 hd2
    · rw [hi0, hj0] at e2; exact absurd e2.symm hd2
    · omega
  rw [hp2, hq, hij]
theorem ie_sortKv (ws0 : List Nat) {ma : MA} {me : ME} {k j : Nat} {c : Addr} {e : Expr} {params : Arguments} {body : Expr} {scope : Scope} {x : Str} {p pos lpos kpos : Pos}
    (TB : TabB X.base X.mg c (cl (900 + j))) (hcode : X.env.code = .ref c) (hj : j < 2) (hP : cl (900 + j) ≠ 0) (hd2 : cl 900 ≠ cl 901) (hq : X.env.qual ++ "<lambda>" = tbN j)
    (L : Lam1 X.env.scope scope x) (hxN : ∀ i : Nat, X.N[i]? = some x → i ∈ ws0) (hr : Room (k + 4) X.A) (hg : Gl X "sorted") (hm : X.mg "sorted" = none) (ha : IA X cl Wx [e] ma)
    (hbody : ∀ (s : Shared) (H : Hp) (f c' : Addr), Room k (lamCx1 X X.A.in1.in1 s H scope f c' x).A → IE (lamCx1 X X.A.in1.in1 s H scope f c' x) cl WF body me)
    (hdef : defaultsOf params X.env = ([], []) := by rfl)
    (hbind : ∀ (pm ctv u : Value) (c' : Addr), bindArgs (lamFn X params body scope pm c' ctv) ⟨[u], []⟩ = pure [(x, u)] := by intros; rfl)
    (he : backTo pos (starEach (e :: []) X.env) = (false, eval e X.env) :: backTo pos (starEach [] X.env) := by rfl) (hpl : (backTo pos (starEach (e :: []) X.env)).any (·.1) = false := by rfl) :
    IE X cl Wx (.Call (.Name "sorted" p) [e] [⟨some "key", .Lambda params body scope lpos, kpos⟩] pos) (mSortKv ws0 ma me) := by
  refine ⟨fun pins s σ H Q I h => ?_⟩
  obtain ⟨env, ρ, G, st, rel, er, q⟩ := h
  have h1 : tL ⟨X.K, cl⟩ Wx ma σ H fun vs H1 => ∃ ρ1 G1 st1 xs, Rel ⟨X.K, cl⟩ ρ1 G1 H1 st1 ∧ EnvR ⟨X.K, cl⟩ ρ1 G1 env σ ∧ Mz.SlRs ⟨X.K, cl⟩ ρ1 G1 xs vs ∧ PostR ⟨X.K, cl⟩ ρ1 G1 (Mz.SlR ⟨X.K, cl⟩) (sortGo me (wipeE env ws0) xs st1) Q (fun c d H' => Wx c d σ H') :=
    ⟨env, ρ, G, st, rel, er, PostR.bind (R1 := SlRs ⟨X.K, cl⟩) q fun xs st1 ρ1 G1 H2 us f1 r1 s1 p1 => ⟨ρ1, G1, st1, xs, r1, er.mono f1, s1, p1⟩⟩
  refine wpAny_Call_Name_kw (ld_blt (u := .builtin "sorted") I hg hm (by rfl) ?_ (by decide) (by decide))
  refine PyProof.Rows.callWith_kw (thn (ha.run pos pins s σ H _ I h1) fun us s1 ⟨vs, H1, I1, rv1, ρ1, G1, st1, xs, rel1, er1, hx1, p1⟩ => ?_) he hpl rfl rfl
  show wpAny _ _ (evalAll ((do let v ← eval (.Lambda params body scope lpos) X.env; standAt pos; pure v) :: (backToKw pos (keywordEach [] X.env)).map (·.2))) _ _ s1
  have hT1 : Tabs (tabL cl) H1 := tbOk_tabs.mp rel1.tb
  have hmT : (cl (900 + j), X.env.qual ++ "<lambda>") ∈ tabL cl := tab_mem hj hP hq
  have huT : ∀ p ∈ tabL cl, p.1 = cl (900 + j) → p.2 = X.env.qual ++ "<lambda>" := tab_un hj hd2 hq
  refine wpAny_evalAll_cons (wpAny_bind (lam_make2 I1 TB hcode hmT huT hT1 hdef (L.hasC I1.ok) fun f c' pm ctv H2 s2 I2 eN T2 hf hfn hfr hco => wpAny_bind (wpAny_standAt (wpAny_pure (wpAny_evalAll_nil ?_)))))
  have rel2' := rel_tables rel1 eN T2
  obtain ⟨G2, f2, rel2, hG2⟩ := rel_code rel2' hco
  have hx2 := hx1.mono f2
  have er2 := er1.mono f2
  have p2 := PostR.mono f2 p1
  clear rel1 rel2' hx1 er1 p1
  unfold sortGo at p2
  split at p2
  case h_2 => exact p2.elim
  rename_i sl
  split at p2
  case h_2 => exact p2.elim
  rename_i ys hys
  obtain ⟨l0, rfl, hsl⟩ := slrs1 hx2
  obtain ⟨l, vl, rfl, hq2, hreps⟩ := litems_at rel2 hsl hys
  rw [Vals.ref1 rv1]
  -- the keys
  cases hk : keysOf me (wipeE env ws0) ys st1 with
  | ex c ns ws st9 => rw [hk] at p2; exact p2.elim
  | bad => rw [hk] at p2; exact p2.elim
  | ok ws st2 =>
  rw [hk] at p2
  replace p2 : PostR ⟨X.K, cl⟩ ρ1 G2 (Mz.SlR ⟨X.K, cl⟩) (sortFin ys ws st2) Q (fun c d H' => Wx c d σ H') := p2
  unfold sortFin at p2
  split at p2
  case h_2 => exact p2.elim
  rename_i ds hds
  split at p2
  case isFalse => exact p2.elim
  rename_i hal
  obtain ⟨its, rits, hpl2, hz⟩ := I2.list hq2
  have hlw := keysOf_len hk
  have hld := wKeys_len hds
  have hlen : its.length = ys.length := by rw [← rits.length, ← hreps.length]
  have hmapk : (ds.zip ys).map Prod.fst = ds := by rw [List.map_fst_zip]; omega
  -- the function object stays as it is
  have f_lt : f < s2.heap.objs.size := Heap.lt_size hf
  have f_loc : f ≠ X.env.locals := fun z => by
    obtain ⟨m, ⟨o, es, ep, ho, hd, _⟩, _⟩ := I2.loc
    rw [← z, hf] at ho; cases ho; cases hd
  have f_fs : f ∉ X.fs := fun z => by
    rcases I2.ok.stk with e9 | ⟨e9, hfl⟩
    · rw [e9] at hfr; exact hfr z
    · rw [e9] at hfr
      refine hfr ?_
      unfold frs
      rw [List.filterMap_cons, hfl]
      exact List.mem_cons_of_mem _ z
  have I3 : Inv X ((f, lamObj X params body scope pm c' ctv) :: pins) σ H2 s2 := I2.pins_of fun p hp => by
    rcases List.mem_cons.mp hp with rfl | hp
    · exact ⟨hf, hfn, f_loc, f_fs, fun v z => by cases z⟩
    · exact I2.pin p (List.mem_append_right _ hp)
  have oldpin : ∀ p ∈ X.pn ++ ((f, lamObj X params body scope pm c' ctv) :: pins), p.1 < s2.heap.objs.size := fun p hp => Heap.lt_size (I3.pin p hp).1
  have oldcell : ∀ y c, X.env.cells.lookup y = some c → c < s2.heap.objs.size := fun y c e9 => by
    obtain ⟨v, o, ho, _⟩ := I3.cell y c e9
    exact Heap.lt_size ho
  have nloc : ∀ b, s2.heap.objs.size ≤ b → b ≠ X.env.locals := fun b hb z => by have := I3.lt; rw [← z] at this; exact Nat.lt_irrefl _ (Nat.lt_of_lt_of_le this hb)
  have big3 : s2.heap.objs.size ≤ s2.heap.objs.size + 3 := Nat.le_add_right _ _
  have big1 : s2.heap.objs.size ≤ s2.heap.objs.size + 1 := Nat.le_add_right _ _
  refine sortJ (J := KJ X cl ((f, lamObj X params body scope pm c' ctv) :: pins) σ me (wipeE env ws0) ys ws st2 ρ1 G2 (s2.heap.objs.size + 1) (s2.heap.objs.size + 3)) (bs := ds.zip ys) (vs := its) (R := fun v p => ∃ l, RelV l v ∧ Rep ⟨X.K, cl⟩ G2 p.2 l) Prod.fst hpl2.isList
    (each_items (by omega) hreps rits) (by rw [hmapk]; exact hal) (by rw [hmapk]; exact wKeys_sortable hds) (by rw [hlen, ← hlen, ← rits.length]; exact hz) (fun d hd => ?_) (fun h' tk kp => ?_) (fun i v ks s' ok oa hv hJ hok hoa nok noa => ?_) (fun i ks s' h' hJ sb => ?_) (fun ks s' hJ => ?_)
    (fun ks s9 h' tk out c hJ kp hex hD hE => ?_)
  · rw [hmapk] at hd
    obtain ⟨w, hw⟩ := wKeys_mem hds d hd
    have := wKey_depth hw
    have := hr.units
    omega
  · exact ⟨ρ1, G2, H2, st1, ws, I3.kept kp, Fr.refl _ _, rel2, by rw [List.drop_zero]; exact hk, by rw [List.take_zero]; rfl, by rw [List.take_zero]; exact .nil, I3.hok.fresh big3, I3.hok.fresh big1, Nat.zero_le _⟩
  · -- one call
    obtain ⟨ρ', G', H', st', r, I4, f4, rel4, hk4, hw4, hkr, n3, n1, hi⟩ := hJ
    have hil : i < ys.length := by have := get_lt hv; omega
    rw [drop_at hil] at hk4
    obtain ⟨w, st5, r5, e5, e6, rfl⟩ := keysOf_cons hk4
    have Ip : Inv X ((s2.heap.objs.size + 3, ok) :: (s2.heap.objs.size + 1, oa) :: (f, lamObj X params body scope pm c' ctv) :: pins) σ H' s' := I4.pins_of fun p hp => by
      rcases List.mem_cons.mp hp with rfl | hp
      · exact ⟨hok, n3, nloc _ big3, I3.nofs big3, nok⟩
      · rcases List.mem_cons.mp hp with rfl | hp
        · exact ⟨hoa, n1, nloc _ big1, I3.nofs big1, noa⟩
        · exact I4.pin p (List.mem_append_right _ hp)
    have hf4 := (Ip.pin (f, lamObj X params body scope pm c' ctv) (List.mem_append_right _ (by simp))).1
    have hc4 : H' c' = some (CodeO c' (X.env.qual ++ "<lambda>")) := rel4.ext _ _ (f4.ex _ _ hG2)
    obtain ⟨u0, hu0, ru0⟩ : ∃ l, RelV l v ∧ Rep ⟨X.K, cl⟩ G2 ys[i] l := by
      have hv2 : vl[i]? = some (vl[i]'(by rw [← hreps.length]; exact hil)) := List.getElem?_eq_getElem _
      obtain ⟨y', hy', ry⟩ := Reps.get hreps hv2
      rw [List.getElem?_eq_getElem hil] at hy'
      cases hy'
      obtain ⟨u', hu', ru'⟩ := rits.get hv2
      rw [hv] at hu'; cases hu'
      exact ⟨_, ru', ry⟩
    have hxN2 : ∀ (i : Nat) (v : V), X.N[i]? = some x → (wipe σ ws0)[i]? ≠ some (some v) := fun j v hj z => (wipe_some z).2 (hxN j hj)
    have Iw : Inv X ((s2.heap.objs.size + 3, ok) :: (s2.heap.objs.size + 1, oa) :: (f, lamObj X params body scope pm c' ctv) :: pins) (wipe σ ws0) H' s' := Ip.weak (wipe_length σ ws0) fun j v z => (wipe_some z).1
    have er4 : EnvR ⟨X.K, cl⟩ ρ' G' (wipeE env ws0 ++ [some (.v ys[i])]) (wipe σ ws0 ++ [some u0]) := EnvR.snoc ((er2.mono f4).wipe ws0) (show Mz.SlR ⟨X.K, cl⟩ ρ' G' (.v ys[i]) u0 from Rep.mono f4.ex _ _ ru0)
    have hr2 : Room (k + 1) X.A.in1.in1 := by
      have h3 : Room (k + 3) X.A := hr.mono (by omega)
      exact (Room.in1 (Room.in1 h3))
    have e0 : Env0 X.prog X.w X.K X.mg X.base X.A.in1.in1 X.stack s' H' := ⟨Ip.env0.frames, Ip.env0.mod, Ip.env0.bs, Ip.env0.bsz, Ip.env0.funs, Ip.env0.frf, Ip.env0.hok, Ip.env0.bare⟩
    have hte : tM ⟨X.K, cl⟩ WF me (wipe σ ws0 ++ [some u0]) H' (fun u H6 => ∃ ρ6 G6, Fr ρ' ρ6 G' G6 ∧ Rel ⟨X.K, cl⟩ ρ6 G6 H6 st5 ∧ Rep ⟨X.K, cl⟩ G6 w u) := ⟨_, ρ', G', st', rel4, er4, by rw [e5]; exact fun ρ6 G6 H6 u f6 r6 su => ⟨ρ6, G6, f6, r6, su⟩⟩
    refine wpAny_call (codeAny_mono (lam1_call (f := f) (c' := c') (Q := fun u H6 => ∃ ρ6 G6, Fr ρ' ρ6 G' G6 ∧ Rel ⟨X.K, cl⟩ ρ6 G6 H6 st5 ∧ Rep ⟨X.K, cl⟩ G6 w u) Iw L hxN2 e0 hr2 hf4 hc4 hu0 (hbind _ _ _ _) (fun hr3 => hbody s' H' f c' hr3)
      hte) fun rr s6 hq6 => ?_)
    cases rr with
    | error e =>
      obtain ⟨_, _, _, _, _, hh⟩ := hq6
      exact hh.2.2.2.2.2.2.2.elim
    | ok fl =>
      cases fl with
      | next => exact False.elim hq6
      | brk => exact False.elim hq6
      | cont => exact False.elim hq6
      | ret u =>
        obtain ⟨w6, H6, I6, rw6, ρ6, G6, f6, r6, su⟩ := Ip.after hq6
        have hp3 := I6.pin (s2.heap.objs.size + 3, ok) (List.mem_append_right _ (by simp))
        have hp1 := I6.pin (s2.heap.objs.size + 1, oa) (List.mem_append_right _ (by simp))
        have hti : ws.take (i + 1) = ws.take i ++ [w] := by
          have hlt : (ws.take i).length = i := by rw [List.length_take]; omega
          have hget : ws[i]? = some w := by rw [hw4, List.getElem?_append_right (by omega), hlt, Nat.sub_self]; rfl
          rw [List.take_add_one, hget]; rfl
        refine ⟨⟨ρ6, G6, H6, st5, r5, I6.pins_of fun p hp => I6.pin p (List.mem_append_right _ (List.mem_cons_of_mem _ (List.mem_cons_of_mem _ hp))), f4.trans f6, r6, e6, ?_, ?_, hp3.2.1, hp1.2.1, hil⟩, hp3.1, hp1.1⟩
        · rw [hti, List.append_assoc]; exact hw4
        · rw [hti]; exact (hkr.mono f6.ex).snoc ⟨w6, rw6, su⟩
  · -- the keys' list is written
    obtain ⟨ρ', G', H', st', r, I4, f4, rel4, hk4, hw4, hkr, n3, n1, hi⟩ := hJ
    refine ⟨ρ', G', H', st', r, ?_, f4, rel4, hk4, hw4, hkr, n3, n1, hi⟩
    exact I4.turned (it := s2.heap.objs.size + 3) (t' := s'.toks) (fun b o nb z => (sb.2 b nb).trans z) n3 (nloc _ big3) (.inr (Nat.le_trans I3.sz big3)) (fun y c e9 z => by have := oldcell y c e9; rw [z] at this; exact Nat.lt_irrefl _ (Nat.lt_of_lt_of_le this big3)) (fun p hp z => by have := oldpin p hp; rw [z] at this; exact Nat.lt_irrefl _ (Nat.lt_of_lt_of_le this big3))
  · obtain ⟨ρ', G', H', st', r, I4, f4, rel4, hk4, hw4, hkr, n3, n1, hi⟩ := hJ
    rw [hmapk]
    rw [hlen, List.take_of_length_le (by omega)] at hkr
    exact keys_read I4 rel4 hkr hds
  · -- the new list
    obtain ⟨ρ', G', H', st', r, I4, f4, rel4, hk4, hw4, hkr, n3, n1, hi⟩ := hJ
    rw [hlen, List.drop_length] at hk4
    cases hk4
    obtain ⟨vs', rvs', reps'⟩ := items_each hE
    have reps2 := Reps.mono f4.ex _ _ reps'
    obtain ⟨f5, rel5⟩ := rel4.newL (p := s2.heap.objs.size + 1) (o := .lst vs') (x := .lst (byK ds ys)) n1 ⟨vs', rfl, reps2⟩
    have nch : ∀ b : Addr, b ∉ [s2.heap.objs.size + 1, s2.heap.objs.size + 3] → b ≠ s2.heap.objs.size + 1 ∧ b ≠ s2.heap.objs.size + 3 := fun b hb => ⟨fun z => hb (by simp [z]), fun z => hb (by simp [z])⟩
    have trk : ∀ b u, H' b = some u → b ≠ s2.heap.objs.size + 1 ∧ b ≠ s2.heap.objs.size + 3 := fun b u e9 => ⟨(fun z => by rw [z, n1] at e9; cases e9), (fun z => by rw [z, n3] at e9; cases e9)⟩
    have hlv : vs'.length ≤ sizeLine := by
      have e9 : vs'.length = (byK ds ys).length := (reps'.length).symm
      rw [e9]
      unfold byK
      rw [List.length_map, List.length_mergeSort, List.length_zip, ← hlen, ← rits.length] at *
      omega
    have I5 : Inv X ((f, lamObj X params body scope pm c' ctv) :: pins) σ (upd H' (s2.heap.objs.size + 1) (.lst vs')) { s9 with heap := h', gens := s9.gens, drawn := s9.drawn, toks := tk } := by
      refine I4.step (ch := [s2.heap.objs.size + 1, s2.heap.objs.size + 3]) (fun b hb => ?_) (fun b o _ _ hb e9 _ => kp b o (nch b hb).1 (nch b hb).2 e9) (fun b o _ _ hb e9 _ => ⟨o.slots, kp b o (nch b hb).1 (nch b hb).2 e9⟩) (fun b o hb _ n9 => by rw [upd_ne (nch b hb).1]; exact n9) (fun b o hb e9 => ⟨o, kp b o (nch b hb).1 (nch b hb).2 e9⟩)
        (fun b xs e9 => by rw [upd_ne (trk b _ e9).1]; exact e9) (fun b o u e9 => by rw [upd_ne (trk b _ e9).1]; exact e9) (fun b ps e9 => ⟨#[], by rw [upd_ne (trk b _ e9).1, e9]; simp⟩) (fun m hn => ?_) (fun b u e9 => ?_) I4.bare
      · have hb2 : s2.heap.objs.size ≤ b := by
          rcases List.mem_cons.mp hb with rfl | hb
          · exact big1
          · rcases List.mem_singleton.mp hb with rfl; exact big3
        exact ⟨.inr (Nat.le_trans I3.sz hb2), nloc b hb2, (fun y c e9 z => by have := oldcell y c e9; rw [z] at this; exact Nat.lt_irrefl _ (Nat.lt_of_lt_of_le this hb2)), (fun p hp z => by have := oldpin p hp; rw [z] at this; exact Nat.lt_irrefl _ (Nat.lt_of_lt_of_le this hb2))⟩
      · obtain ⟨o, es, ep, ho, r9⟩ := hn
        exact ⟨o, es, ep, kp _ o (nloc _ big1).symm (nloc _ big3).symm ho, r9⟩
      · by_cases hb : b = s2.heap.objs.size + 1
        · subst hb
          rw [upd_same] at e9; cases e9
          exact ⟨hlv, out, c, rvs', hD⟩
        · rw [upd_ne hb] at e9
          refine (I4.hok b u e9).stay (fun d v hd9 q9 => ?_) (fun d q9 => by rw [upd_ne (trk d _ q9).1]; exact q9) fun d xs9 q9 => by rw [upd_ne (trk d _ q9).1]; exact q9
          rcases hd9 with z | z
          · subst z; exact kp d v (trk d _ e9).1 (trk d _ e9).2 q9
          · exact kp d v (trk d _ z).1 (trk d _ z).2 q9
    have hn9 : (ρ'.l ++ [s2.heap.objs.size + 1])[st2.l.length]? = some (s2.heap.objs.size + 1) := by rw [← rel4.ll]; simp
    exact ⟨.ref (s2.heap.objs.size + 1), _, I5.pins_of fun p hp => I5.pin p (List.mem_append_right _ (List.mem_cons_of_mem _ hp)), rfl, p2 _ _ _ _ (f4.trans f5) rel5 ⟨_, hn9, rfl⟩⟩
theorem ie_sortK {ma : MA} {me : ME} {k j : Nat} {c : Addr} {e : Expr} {params : Arguments} {body : Expr} {scope : Scope} {x : Str} {p pos lpos kpos : Pos}
    (TB : TabB X.base X.mg c (cl (900 + j))) (hcode : X.env.code = .ref c) (hj : j < 2) (hP : cl (900 + j) ≠ 0) (hd2 : cl 900 ≠ cl 901) (hq : X.env.qual ++ "<lambda>" = tbN j)
    (L : Lam1 X.env.scope scope x) (hxN : x ∉ X.N) (hr : Room (k + 4) X.A) (hg : Gl X "sorted") (hm : X.mg "sorted" = none) (ha : IA X cl Wx [e] ma)
    (hbody : ∀ (s : Shared) (H : Hp) (f c' : Addr), Room k (lamCx1 X X.A.in1.in1 s H scope f c' x).A → IE (lamCx1 X X.A.in1.in1 s H scope f c' x) cl WF body me)
    (hdef : defaultsOf params X.env = ([], []) := by rfl)
    (hbind : ∀ (pm ctv u : Value) (c' : Addr), bindArgs (lamFn X params body scope pm c' ctv) ⟨[u], []⟩ = pure [(x, u)] := by intros; rfl)
    (he : backTo pos (starEach (e :: []) X.env) = (false, eval e X.env) :: backTo pos (starEach [] X.env) := by rfl) (hpl : (backTo pos (starEach (e :: []) X.env)).any (·.1) = false := by rfl) :
    IE X cl Wx (.Call (.Name "sorted" p) [e] [⟨some "key", .Lambda params body scope lpos, kpos⟩] pos) (mSortK ma me) :=
  ie_sortKv [] TB hcode hj hP hd2 hq L (fun i hi => absurd (List.mem_of_getElem? hi) hxN) hr hg hm ha hbody hdef hbind he hpl
end
end Mz

set_option Elab.async false
set_option linter.all false
set_option maxRecDepth 100000
set_option maxHeartbeats 4000000
namespace Mz
open PySem PySem.Spec PySem.Calls PyProof.Rows L2 LamX
open PySem.W (AllAlike)
/-! ## 62. a def that makes a lambda; the law's end with tables; sorted that is changed -/
structure FunC (K : PySem.W.Frag) (x qual : Str) (st : Stmt) (f : Addr) (fd : FuncData) (c : Addr) : Prop where
  ex : ∃ (oc : Value) (od : Option Addr) (kV doc pm : Value) (an : Option Addr) (ct : Value) (osl : Array (Option Value)),
    fd = PySem.W.fnOf x qual (defArgs st) (defBody st) (defScope st) .none kV doc pm an (.ref c) ct ∧ K.lookup f = some ⟨oc, od, .func fd, osl⟩ ∧ PySem.W.codeIn K (.ref c) qual = true
abbrev fdOf {K : PySem.W.Frag} {x qual : Str} {st : Stmt} {f : Addr} {fd : FuncData} (_ : L2.Fun K x qual st f fd) : FuncData := fd
section
variable {P : Program} {w : World} {K : PySem.W.Frag} {mg : Str → Option Value} {base : Heap} {cl : Nat → Addr}
theorem funC_mk {x qual : Str} {st : Stmt} {f c : Addr} {oc : Value} {od an : Option Addr} {osl : Array (Option Value)} {kV doc pm ct : Value} (l : K.lookup f = some ⟨oc, od, .func (PySem.W.fnOf x qual (defArgs st) (defBody st) (defScope st) .none kV doc pm an (.ref c) ct), osl⟩)
    (h : PySem.W.codeIn K (.ref c) qual = true) : FunC K x qual st f (PySem.W.fnOf x qual (defArgs st) (defBody st) (defScope st) .none kV doc pm an (.ref c) ct) c := ⟨oc, od, kV, doc, pm, an, ct, osl, rfl, l, h⟩
theorem fun_okC {x qual : Str} {s : Stmt} {f c : Addr} {fd : FuncData} {N ps : List Str} {k np nl : Nat} {md : Md} {mb : MS} (F : FunC K x qual s f fd c) (S : FnScope N ps (defScope s)) (hp : ps.length = np) (hl : N.length = nl)
    (hb : ∀ (A : Around) (outer : List PySem.Env) (st : Shared) (H : Hp) (E : XK), Room k (A.deeper (envOfC qual (defScope s) st.heap.objs.size f (.ref c))) →
      ISs (cxOf (L2.CX P w) P w K mg base N qual (defScope s) f (.ref c) A outer st H E) cl (fun c d _ H' => E c d H') (defBody s) mb) : FnOk P w K mg base (L2.CX P w) (k + 1) f fd ps (spM ⟨K, cl⟩ np (mFn np nl md mb)) := by
  obtain ⟨oc, od, kV, doc, pm, an, ct, osl, rfl, lk, hcd⟩ := F.ex
  refine fn_of lk hcd S (fun vs H Q E ⟨ρ, G, st, args, rel, sr, ha, p⟩ => by rw [← sr.length, ha, hp]) fun A outer s0 H vs Q E hr ⟨ρ, G, st, args, rel, sr, ha, p⟩ => ?_
  refine ⟨_, hb A outer s0 H E hr, args.map some ++ List.replicate (nl - np) none, ρ, G, st, rel, ?_, ?_⟩
  · rw [← hl]; exact env_start sr ha
  · unfold mFn at p
    rw [if_pos ha] at p
    exact fin_post rel p
/-- the law's promise, its makers' tables empty at the start -/
def spLawT (K : PySem.W.Frag) (cs : List (Addr × Addr)) : Sp := fun vs H Q _ => ∃ (a : Addr) (ns : List Int), vs = [.ref a] ∧ SqL K H a (ns.map V.int) ∧ ns.length ≤ 63 ∧ (∀ p ∈ cs, H p.2 = some (.tbl #[])) ∧ ∀ H', Q (.bl true) H'
theorem law_impT {F : MF} {cs : List (Addr × Addr)} (h9 : ∀ j, j < 2 → cl (900 + j) = 0 ∨ ∃ c, (c, cl (900 + j)) ∈ cs) (ht : ∀ ns : List Int, ns.length ≤ 63 → ∃ st', F [.v (.ro (ns.map W.int))] emp = .ok (.v (.bl true)) st') : ∀ vs H Q E, spLawT K cs vs H Q E → spM ⟨K, cl⟩ 1 F vs H Q E := fun vs H Q E ⟨a, ns, e, hs, hl, hT, q⟩ => by
  subst e
  obtain ⟨st', h⟩ := ht ns hl
  refine ⟨⟨[], []⟩, noTb H, emp, [.v (.ro (ns.map W.int))], ⟨noTb_ext, rfl, rfl, fun n a x h => ?_, fun n a x h => ?_, List.nodup_nil, List.nodup_nil, fun j hj => ?_, noTb_nt⟩, ⟨_, _, rfl, ?_, rfl⟩, rfl, ?_⟩
  · simp at h
  · simp at h
  · rcases h9 j hj with z | ⟨c, z⟩
    · exact .inl z
    · exact .inr (TabS.nil (hT _ z))
  · unfold Mz.SlR Rep
    exact ⟨a, _, rfl, noTb_sql hs, reps_ints ns⟩
  · rw [h]
    intro ρ' G' H' u f r hu
    unfold Mz.SlR Rep at hu
    subst hu
    exact q H'
theorem walkT {l : PySem.W.OpenLaw} {q : Program} {loose : List Str} {XP : (Str → Option Value) → Heap → Prop} {YP : World → Heap → Prop} {d : DefRec} {K : Params → PySem.W.Frag} {k : Nat} {x : Str} (hn : l.most = some 63) (hdf : d.params.defaults = []) (hr : Room k callerA)
    (hY : ∀ (w : World) (h : Heap), YP w h → (K w.params).In h)
    (F : ∀ (w : World) (mg : Str → Option Value) (fa : Addr) (h : Heap), YP w h → (K w.params).In h → h.Ns mainGlobals mg → mg d.name = some (.ref fa) →
      ∃ (fd : FuncData) (cs : List (Addr × Addr)), (∀ p ∈ cs, h.get? p.2 = some { cls := .none, data := .fields #[] }) ∧ (∀ p ∈ cs, (K w.params).lookup p.2 = none) ∧ (∀ p ∈ cs, PySem.W.CodeHd h p.1 p.2) ∧ (∀ (s : Shared) (u : Value), BindsTo s fd ⟨[u], []⟩ [(x, u)]) ∧
        ∀ base : Heap, (K w.params).In base → base.Ns mainGlobals mg → (∀ p ∈ cs, TabB base mg p.1 p.2) → FnOk l.prog w (K w.params) mg base (L2.CX l.prog w) k fa fd [x] (spLawT (K w.params) cs)) :
    PySem.W.WalkO q loose XP YP l.row.toRowW d [] (fun f vs => PySem.call f vs) :=
  walk_ofTs (n := 63) (k := k) (x := x) (CX := fun w => L2.CX l.prog w) hn (by decide) hdf hr hY (fun w mg fa h Y KX G hm => by
    obtain ⟨fd, cs, h1, h2, h3, h4, h5⟩ := F w mg fa h Y KX G hm
    exact ⟨fd, cs, spLawT (K w.params) cs, h1, h2, h3, h4, fun H a ns hl _ hT hS => ⟨a, ns, rfl, hS, hl, hT, fun _ => rfl⟩, h5⟩) fun _ _ _ _ _ z => noCX z
end
/-- sorted(xs) of a list of whole numbers: a new list that may be changed -/
def fSortIM : MF
  | [x], st => match litems st x with
    | some xs => match intsOf xs with
      | some ns => .ok (.l st.l.length) (st.push (.lst ((sortI ns).map W.int)))
      | none => .bad
    | none => .bad
  | _, _ => .bad
theorem s_sortIM {T : Tx} : CaS T (rSortedI T.K) fSortIM := fun ρ G H st xs us Q E r hs p => by
  unfold fSortIM at p
  split at p
  · obtain ⟨u, rfl, hx⟩ := slrs1 hs
    split at p
    · rename_i ys e
      split at p
      · rename_i ns e2
        obtain ⟨a, vs, rfl, hq, hr⟩ := litems_at r hx e
        rw [ints_rep e2 hr] at hq
        refine ⟨a, ns, rfl, hq, fun ns' q hp up hn => ?_⟩
        rw [sortI_is hp up]
        obtain ⟨f, r2⟩ := r.newL (o := .lst ((sortI ns).map V.int)) (x := .lst ((sortI ns).map W.int)) hn ⟨_, rfl, reps_ints _⟩
        have hn9 : (ρ.l ++ [q])[st.l.length]? = some q := by rw [← r.ll]; simp
        exact p _ _ _ _ f r2 ⟨q, hn9, rfl⟩
      · exact p.elim
    · exact p.elim
  · exact p.elim
/-! small steps -/
theorem intsOf_ints {ns : List Int} : intsOf (ns.map W.int) = some ns := by
  have := intsOf_f (fun i : Int => i) ns
  rw [List.map_id'] at this
  exact this
theorem f_sortIM {ns : List Int} {x : Sl} {st : Store} (h : litems st x = some (ns.map W.int)) : fSortIM [x] st = .ok (.l st.l.length) (st.push (.lst ((sortI ns).map W.int))) := by
  unfold fSortIM; dsimp only; rw [h]; dsimp only; rw [intsOf_ints]
theorem f_sortIv {ns : List Int} {x : Sl} {st : Store} (h : litems st x = some (ns.map W.int)) : fSortI [x] st = .ok (.v (.lst ((sortI ns).map W.int))) st := by
  unfold fSortI; dsimp only; rw [h]; dsimp only; rw [intsOf_ints]
theorem keysOf_map {me : ME} {env : Mz.Env} {st : Store} {f : W → W} : ∀ {ys : List W}, (∀ x ∈ ys, me (env ++ [some (.v x)]) st = .ok (.v (f x)) st) → keysOf me env ys st = .ok (ys.map f) st
  | [], _ => rfl
  | y :: ys, h => by
    unfold keysOf
    rw [h y (List.mem_cons_self ..)]
    show (keysOf me env ys st).then _ = _
    rw [keysOf_map fun x hx => h x (List.mem_cons_of_mem _ hx)]
    rfl
theorem e_sortK {ma : MA} {me : ME} {env : Mz.Env} {st st1 : Store} {s : Sl} {ys ws : List W} {ds : List PyData} (h : ma env st = .ok [s] st1) (hl : litems st1 s = some ys) (hk : keysOf me env ys st1 = .ok ws st1) (hd : wKeys ws = some ds) (ha : AllAlike ds) :
    mSortK ma me env st = .ok (.l st1.l.length) (st1.push (.lst (byK ds ys))) := by
  unfold mSortK
  rw [h]
  show sortGo me env [s] st1 = _
  unfold sortGo
  dsimp only
  rw [hl]
  dsimp only
  rw [hk]
  show sortFin ys ws st1 = _
  unfold sortFin
  rw [hd]
  dsimp only
  rw [if_pos ha]
end Mz

set_option Elab.async false
set_option linter.all false
set_option maxRecDepth 100000
set_option maxHeartbeats 4000000
namespace Mz
open PySem PySem.Spec PySem.Calls PyProof.Rows L2
/-! ## 63. list(range(..)) -/
def rgI (a b : Int) : List Int := (List.range (b - a).toNat).map fun i => a + (i : Nat)
theorem rgV_ints {a b : Int} : rgV a b = (rgI a b).map V.int := by unfold rgV rgI; rw [List.map_map]; rfl
def lrgGo (mu : Bool) (a b : Int) (st : Store) : Res Sl := if 0 ≤ a ∧ b ≤ 16777216 ∧ a ≤ 16777216 ∧ 0 ≤ b then (if mu = true then .ok (.l st.l.length) (st.push (.lst ((rgI a b).map W.int))) else .ok (.v (.lst ((rgI a b).map W.int))) st) else .bad
def mLRg1 (mu : Bool) (m : ME) : ME := fun env st => (m env st).bind fun x st1 => match x with
  | .v (.int n) => lrgGo mu 0 n st1
  | _ => .bad
def lrgB (mu : Bool) (a : Int) (x : Sl) (st : Store) : Res Sl := match x with
  | .v (.int b) => lrgGo mu a b st
  | _ => .bad
def mLRg2 (mu : Bool) (m m2 : ME) : ME := fun env st => (m env st).bind fun x st1 => match x with
  | .v (.int a) => (m2 env st1).bind (lrgB mu a)
  | _ => .bad
section
variable {X : Cx} {cl : Nat → Addr} {Wx : WX}
theorem lrg_post {ρ : Mp} {G H : Hp} {st : Store} {mu : Bool} {a b : Int} {Q : VK} {E : XK} (r : Rel ⟨X.K, cl⟩ ρ G H st) (p : PostR ⟨X.K, cl⟩ ρ G (Mz.SlR ⟨X.K, cl⟩) (lrgGo mu a b st) Q E) : RgOk a b ∧ ∀ q, H q = none → Q (.ref q) (upd H q (.lst (rgV a b))) := by
  unfold lrgGo at p
  split at p
  case isFalse => exact p.elim
  rename_i hc
  refine ⟨RgOk.of_le hc.1 hc.2.1 hc.2.2.1 hc.2.2.2, fun q hq => ?_⟩
  rw [rgV_ints]
  split at p
  · obtain ⟨f, r2⟩ := r.newL (o := .lst ((rgI a b).map V.int)) (x := .lst ((rgI a b).map W.int)) hq ⟨_, rfl, reps_ints _⟩
    have hn9 : (ρ.l ++ [q])[st.l.length]? = some q := by rw [← r.ll]; simp
    exact p _ _ _ _ f r2 ⟨q, hn9, rfl⟩
  · obtain ⟨f, r2⟩ := r.newG (o := .lst ((rgI a b).map V.int)) hq
    exact p _ _ _ _ f r2 (by unfold Mz.SlR Rep; exact ⟨q, _, rfl, upd_same, reps_ints _⟩)
theorem ie_lrg1 (mu : Bool) {e : Expr} {m : ME} {p1 p2 pos ps : Pos} (hc : X.calm = true) (hl : Gl X "list") (hml : X.mg "list" = none) (hg : Gl X "range") (hmr : X.mg "range" = none) (he : IE X cl Wx e m)
    (na : starEach [e] X.env = (false, eval e X.env) :: starEach [] X.env := by rfl) (nb : starEach [.Call (.Name "range" p2) [e] [] ps] X.env = (false, eval (.Call (.Name "range" p2) [e] [] ps) X.env) :: starEach [] X.env := by rfl) :
    IE X cl Wx (.Call (.Name "list" p1) [.Call (.Name "range" p2) [e] [] ps] [] pos) (mLRg1 mu m) :=
  pe_weak (pe_listRg hc hl hml (prg_1 hg hmr he na) nb) fun σ H Q ⟨env, ρ, G, st, rel, er, p⟩ => by
    refine ⟨env, ρ, G, st, rel, er, PostR.bind (R1 := Mz.SlR ⟨X.K, cl⟩) p fun x st1 ρ1 G1 H1 u f1 r1 s1 p1 => ?_⟩
    split at p1
    · rename_i n
      unfold Mz.SlR Rep at s1
      subst s1
      exact ⟨n, rfl, lrg_post r1 p1⟩
    · exact p1.elim
theorem ie_lrg2 (mu : Bool) {e e2 : Expr} {m m2 : ME} {p1 p2 pos ps : Pos} (hc : X.calm = true) (hl : Gl X "list") (hml : X.mg "list" = none) (hg : Gl X "range") (hmr : X.mg "range" = none) (he : IE X cl Wx e m) (he2 : IE X cl Wx e2 m2)
    (na : starEach [e, e2] X.env = (false, eval e X.env) :: starEach [e2] X.env := by rfl) (nb : starEach [.Call (.Name "range" p2) [e, e2] [] ps] X.env = (false, eval (.Call (.Name "range" p2) [e, e2] [] ps) X.env) :: starEach [] X.env := by rfl) (nc : starEach [e2] X.env = (false, eval e2 X.env) :: starEach [] X.env := by rfl) (nd : (backTo ps (starEach [e2] X.env)).any (·.1) = false := by rfl) :
    IE X cl Wx (.Call (.Name "list" p1) [.Call (.Name "range" p2) [e, e2] [] ps] [] pos) (mLRg2 mu m m2) :=
  pe_weak (pe_listRg hc hl hml (prg_2 hg hmr he he2 na nc nd) nb) fun σ H Q ⟨env, ρ, G, st, rel, er, p⟩ => by
    refine ⟨env, ρ, G, st, rel, er, PostR.bind (R1 := Mz.SlR ⟨X.K, cl⟩) p fun x st1 ρ1 G1 H1 u f1 r1 s1 p1 => ?_⟩
    split at p1
    · rename_i a
      unfold Mz.SlR Rep at s1
      subst s1
      refine ⟨env, ρ1, G1, st1, r1, er.mono f1, PostR.bind (R1 := Mz.SlR ⟨X.K, cl⟩) p1 fun y st2 ρ2 G2 H2 v f2 r2 s2 p2 => ?_⟩
      unfold lrgB at p2
      split at p2
      · rename_i b
        unfold Mz.SlR Rep at s2
        subst s2
        exact ⟨a, b, rfl, rfl, lrg_post r2 p2⟩
      · exact p2.elim
    · exact p1.elim
end
/-! small steps -/
def kLRg1 (mu : Bool) (r : Res Sl) : Res Sl := r.bind fun x st1 => match x with
  | .v (.int n) => lrgGo mu 0 n st1
  | _ => .bad
theorem e_lrg1 {mu : Bool} {m : ME} {env : Mz.Env} {st : Store} : mLRg1 mu m env st = kLRg1 mu (m env st) := rfl
theorem k_lrg1 {mu : Bool} {n : Int} {st : Store} : kLRg1 mu (.ok (.v (.int n)) st) = lrgGo mu 0 n st := rfl
def kLRg2 (mu : Bool) (m2 : ME) (env : Mz.Env) (r : Res Sl) : Res Sl := r.bind fun x st1 => match x with
  | .v (.int a) => (m2 env st1).bind (lrgB mu a)
  | _ => .bad
def kLRgB (mu : Bool) (a : Int) (r : Res Sl) : Res Sl := r.bind (lrgB mu a)
theorem e_lrg2 {mu : Bool} {m m2 : ME} {env : Mz.Env} {st : Store} : mLRg2 mu m m2 env st = kLRg2 mu m2 env (m env st) := rfl
theorem k_lrg2 {mu : Bool} {m2 : ME} {env : Mz.Env} {a : Int} {st : Store} : kLRg2 mu m2 env (.ok (.v (.int a)) st) = kLRgB mu a (m2 env st) := rfl
theorem k_lrgB {mu : Bool} {a b : Int} {st : Store} : kLRgB mu a (.ok (.v (.int b)) st) = lrgGo mu a b st := rfl
theorem lrg_v {a b : Int} {st : Store} (h1 : 0 ≤ a) (h2 : b ≤ 16777216) (h3 : a ≤ 16777216) (h4 : 0 ≤ b) : lrgGo false a b st = .ok (.v (.lst ((rgI a b).map W.int))) st := by
  unfold lrgGo; rw [if_pos ⟨h1, h2, h3, h4⟩, if_neg (by decide)]
theorem lrg_l {a b : Int} {st : Store} (h1 : 0 ≤ a) (h2 : b ≤ 16777216) (h3 : a ≤ 16777216) (h4 : 0 ≤ b) : lrgGo true a b st = .ok (.l st.l.length) (st.push (.lst ((rgI a b).map W.int))) := by
  unfold lrgGo; rw [if_pos ⟨h1, h2, h3, h4⟩, if_pos rfl]
theorem rgI_nat (n : Nat) : rgI 0 (n : Int) = (List.range n).map fun i => ((i : Nat) : Int) := by
  unfold rgI
  have e : (((n : Int) - 0)).toNat = n := by omega
  rw [e]
  exact List.map_congr_left fun i _ => by omega
end Mz

set_option Elab.async false
set_option linter.all false
set_option maxRecDepth 100000
set_option maxHeartbeats 4000000
namespace Mz
open PySem L2
open PySem.W (AllAlike dataLe alike keyToks keyToksAll)
/-! ## 64. an order by keys: rows of numbers of one length, then the place -/
def ahd : List Int → List Int → Bool
  | a :: as, b :: bs => if a = b then ahd as bs else decide (a < b)
  | _, _ => false
theorem ahd_irr : ∀ a : List Int, ahd a a = false
  | [] => rfl
  | a :: as => by unfold ahd; rw [if_pos rfl]; exact ahd_irr as
theorem ahd_trans : ∀ {a b c : List Int}, a.length = b.length → b.length = c.length → ahd a b = true → ahd b c = true → ahd a c = true
  | a :: as, b :: bs, c :: cs, h1, h2, p, q => by
    unfold ahd at p q ⊢
    have h1' : as.length = bs.length := by simpa using h1
    have h2' : bs.length = cs.length := by simpa using h2
    by_cases e : a = b
    · rw [if_pos e] at p; subst e
      by_cases e2 : a = c
      · rw [if_pos e2] at q ⊢; exact ahd_trans h1' h2' p q
      · rw [if_neg e2] at q ⊢; exact q
    · rw [if_neg e] at p
      have p' := of_decide_eq_true p
      by_cases e2 : b = c
      · subst e2; rw [if_neg e]; exact p
      · rw [if_neg e2] at q
        have q' := of_decide_eq_true q
        rw [if_neg (by omega)]; exact decide_eq_true (by omega)
  | [], _, _, _, _, p, _ => by simp [ahd] at p
  | _ :: _, [], _, h, _, _, _ => by simp at h
  | _ :: _, _ :: _, [], _, h, _, _ => by simp at h
theorem ahd_tot : ∀ {a b : List Int}, a.length = b.length → ahd a b = true ∨ a = b ∨ ahd b a = true
  | [], [], _ => .inr (.inl rfl)
  | a :: as, b :: bs, h => by
    unfold ahd
    by_cases e : a = b
    · subst e
      rw [if_pos rfl, if_pos rfl]
      rcases ahd_tot (a := as) (b := bs) (by simpa using h) with z | z | z
      · exact .inl z
      · exact .inr (.inl (by rw [z]))
      · exact .inr (.inr z)
    · rw [if_neg e, if_neg (Ne.symm e)]
      rcases (show a < b ∨ b < a by omega) with z | z
      · exact .inl (decide_eq_true z)
      · exact .inr (.inr (decide_eq_true z))
  | [], _ :: _, h => by simp at h
  | _ :: _, [], h => by simp at h
def leK (ks : Nat → List Int) (i j : Nat) : Bool := ahd (ks i) (ks j) || (decide (ks i = ks j) && decide (i ≤ j))
def ordK (ks : Nat → List Int) (n : Nat) : List Nat := (List.range n).mergeSort (leK ks)
section
variable {ks : Nat → List Int} {m n : Nat}
theorem leK_iff {i j : Nat} : leK ks i j = true ↔ ahd (ks i) (ks j) = true ∨ (ks i = ks j ∧ i ≤ j) := by
  unfold leK; simp
theorem leK_trans (hm : ∀ i, (ks i).length = m) (a b c : Nat) (h1 : leK ks a b = true) (h2 : leK ks b c = true) : leK ks a c = true := by
  rw [leK_iff] at *
  rcases h1 with h1 | ⟨e1, l1⟩ <;> rcases h2 with h2 | ⟨e2, l2⟩
  · exact .inl (ahd_trans (by rw [hm, hm]) (by rw [hm, hm]) h1 h2)
  · rw [← e2]; exact .inl h1
  · rw [e1]; exact .inl h2
  · exact .inr ⟨e1.trans e2, by omega⟩
theorem leK_total (hm : ∀ i, (ks i).length = m) (a b : Nat) : (leK ks a b || leK ks b a) = true := by
  rw [Bool.or_eq_true, leK_iff, leK_iff]
  rcases ahd_tot (a := ks a) (b := ks b) (by rw [hm, hm]) with z | z | z
  · exact .inl (.inl z)
  · rcases (show a ≤ b ∨ b ≤ a by omega) with w | w
    · exact .inl (.inr ⟨z, w⟩)
    · exact .inr (.inr ⟨z.symm, w⟩)
  · exact .inr (.inl z)
theorem leK_anti (hm : ∀ i, (ks i).length = m) {a b : Nat} (h1 : leK ks a b = true) (h2 : leK ks b a = true) : a = b := by
  rw [leK_iff] at *
  rcases h1 with h1 | ⟨e1, l1⟩ <;> rcases h2 with h2 | ⟨e2, l2⟩
  · have := ahd_trans (by rw [hm, hm]) (by rw [hm, hm]) h1 h2
    rw [ahd_irr] at this; cases this
  · rw [e2, ahd_irr] at h1; cases h1
  · rw [e1, ahd_irr] at h2; cases h2
  · omega
theorem ordK_perm : (ordK ks n).Perm (List.range n) := List.mergeSort_perm ..
theorem ordK_up (hm : ∀ i, (ks i).length = m) : (ordK ks n).Pairwise fun a b => leK ks a b = true :=
  List.pairwise_mergeSort (fun a b c => leK_trans hm a b c) (fun a b => leK_total hm a b) _
theorem ordK_is (hm : ∀ i, (ks i).length = m) {xs : List Nat} (h : xs.Perm (List.range n)) (hp : xs.Pairwise fun a b => leK ks a b = true) : xs = ordK ks n :=
  List.Perm.eq_of_pairwise (fun a b _ _ h1 h2 => leK_anti hm h1 h2) hp (ordK_up hm) (h.trans ordK_perm.symm)
theorem ordK_len : (ordK ks n).length = n := by rw [ordK_perm.length_eq, List.length_range]
theorem ordK_mem {i : Nat} : i ∈ ordK ks n ↔ i < n := by rw [ordK_perm.mem_iff, List.mem_range]
theorem ordK_nodup : (ordK ks n).Nodup := ordK_perm.nodup_iff.mpr List.nodup_range
end
/-! the keys as data -/
def keyD (ks : Nat → List Int) (i : Nat) : PyData := .tuple [.tuple ((ks i).map PyData.int), .int (i : Int)]
def keyV (ks : Nat → List Int) (i : Nat) : W := .tup [.tup ((ks i).map W.int), .int (i : Int)]
section
variable {ks : Nat → List Int} {m n : Nat}
theorem wKey_keyV {i : Nat} : wKey (keyV ks i) = some (keyD ks i) := by
  show (intsOf ((ks i).map W.int)).map _ = _
  rw [intsOf_ints]; rfl
theorem wKeys_keyV : ∀ l : List Nat, wKeys (l.map (keyV ks)) = some (l.map (keyD ks))
  | [] => rfl
  | i :: l => by
    rw [List.map_cons, List.map_cons]
    unfold wKeys
    rw [wKey_keyV, wKeys_keyV l]
theorem alike_ints : ∀ (a b : List Int), PySem.W.alikeAll (a.map PyData.int) (b.map PyData.int) = true
  | [], _ => by simp [PySem.W.alikeAll]
  | _ :: _, [] => by simp [PySem.W.alikeAll]
  | a :: as, b :: bs => by simp [PySem.W.alikeAll, alike, alike_ints as bs]
theorem keyD_alike {l : List Nat} : AllAlike (l.map (keyD ks)) := fun d hd d' hd' => by
  obtain ⟨i, _, rfl⟩ := List.mem_map.mp hd
  obtain ⟨j, _, rfl⟩ := List.mem_map.mp hd'
  unfold keyD
  simp [alike, PySem.W.alikeAll, alike_ints]
theorem lex_ints : ∀ (a b : List Int) (l r : List (Int ⊕ List Nat)), a.length = b.length →
    PyProof.Rows.lexLt PyProof.Rows.itemOrd (keyToksAll (a.map PyData.int) ++ l) (keyToksAll (b.map PyData.int) ++ r) = (ahd a b || (decide (a = b) && PyProof.Rows.lexLt PyProof.Rows.itemOrd l r))
  | [], [], l, r, _ => by simp [keyToksAll, PyProof.Rows.lexLt, PyProof.Rows.itemLt, ahd]
  | a :: as, b :: bs, l, r, h => by
    have ih := lex_ints as bs l r (by simpa using h)
    rw [List.map_cons, List.map_cons]
    simp only [keyToksAll, keyToks, List.cons_append, List.nil_append]
    unfold ahd
    by_cases e : a = b
    · subst e
      simp only [PyProof.Rows.lexLt, PyProof.Rows.itemLt]
      simp [ih]
    · simp only [PyProof.Rows.lexLt, PyProof.Rows.itemLt]
      rw [if_neg e]
      rcases (show a < b ∨ b < a by omega) with z | z
      · have z2 : ¬ b < a := by omega
        simp [z, z2, e]
      · have z2 : ¬ a < b := by omega
        simp [z, z2, e]
  | [], _ :: _, _, _, h => by simp at h
  | _ :: _, [], _, _, h => by simp at h
theorem dataLe_keyD (hm : ∀ i, (ks i).length = m) {i j : Nat} {x y : W} : dataLe false (Prod.fst : PyData × W → PyData) (keyD ks i, x) (keyD ks j, y) = leK ks i j := by
  show (!PyProof.Rows.lexLt PyProof.Rows.itemOrd (keyToks (keyD ks j)) (keyToks (keyD ks i))) = _
  unfold keyD
  have e : ∀ k : Nat, keyToks (.tuple [.tuple ((ks k).map PyData.int), .int (k : Int)]) = Sum.inl 1 :: (keyToksAll ((ks k).map PyData.int) ++ [Sum.inl 1, Sum.inl (k : Int), Sum.inl 0]) := fun k => by simp [keyToks, keyToksAll]
  rw [e, e]
  have e2 : PyProof.Rows.lexLt PyProof.Rows.itemOrd (Sum.inl 1 :: (keyToksAll ((ks j).map PyData.int) ++ [Sum.inl 1, Sum.inl (j : Int), Sum.inl 0])) (Sum.inl 1 :: (keyToksAll ((ks i).map PyData.int) ++ [Sum.inl 1, Sum.inl (i : Int), Sum.inl 0])) =
      PyProof.Rows.lexLt PyProof.Rows.itemOrd (keyToksAll ((ks j).map PyData.int) ++ [Sum.inl 1, Sum.inl (j : Int), Sum.inl 0]) (keyToksAll ((ks i).map PyData.int) ++ [Sum.inl 1, Sum.inl (i : Int), Sum.inl 0]) := by
    simp [PyProof.Rows.lexLt, PyProof.Rows.itemLt]
  rw [e2, lex_ints _ _ _ _ (by rw [hm, hm])]
  have e3 : PyProof.Rows.lexLt PyProof.Rows.itemOrd [Sum.inl 1, Sum.inl (j : Int), Sum.inl 0] [Sum.inl 1, Sum.inl (i : Int), Sum.inl 0] = decide (j < i) := by
    simp only [PyProof.Rows.lexLt, PyProof.Rows.itemLt]
    by_cases z : j < i
    · simp [z]
    · simp [z]
  rw [e3]
  rw [Bool.eq_iff_iff, leK_iff]
  simp only [Bool.not_eq_true', Bool.or_eq_false_iff, Bool.and_eq_false_iff, decide_eq_false_iff_not]
  constructor
  · rintro ⟨h1, h2⟩
    rcases ahd_tot (a := ks i) (b := ks j) (by rw [hm, hm]) with z | z | z
    · exact .inl z
    · refine .inr ⟨z, ?_⟩
      rcases h2 with h2 | h2
      · exact absurd z.symm h2
      · omega
    · rw [h1] at z; cases z
  · rintro (z | ⟨z, w⟩)
    · refine ⟨?_, .inl fun e => ?_⟩
      · cases q : ahd (ks j) (ks i) with
        | false => rfl
        | true => have := ahd_trans (by rw [hm, hm]) (by rw [hm, hm]) z q; rw [ahd_irr] at this; cases this
      · rw [e, ahd_irr] at z; cases z
    · exact ⟨by rw [z]; exact ahd_irr _, .inr (by omega)⟩
theorem byK_ord (hm : ∀ i, (ks i).length = m) : byK ((List.range n).map (keyD ks)) ((List.range n).map fun i => W.int ((i : Nat) : Int)) = (ordK ks n).map fun i => W.int ((i : Nat) : Int) := by
  unfold byK ordK
  have e : ((List.range n).map (keyD ks)).zip ((List.range n).map fun i => W.int ((i : Nat) : Int)) = (List.range n).map fun i => (keyD ks i, W.int ((i : Nat) : Int)) := by
    rw [List.zip_map']
  rw [e, ← List.map_mergeSort (r := leK ks) (fun a _ b _ => (dataLe_keyD hm).symm), List.map_map]
  rfl
end
end Mz

set_option Elab.async false
set_option linter.all false
set_option maxRecDepth 100000
set_option maxHeartbeats 4000000
namespace Mz
open PySem PySem.Spec PySem.Calls PyProof.Rows L2
/-! ## 65. len of {x for x in xs}, whole numbers -/
/-- how many numbers stand behind pre that stand there for the first time -/
def ndc : List Int → List Int → Nat
  | _, [] => 0
  | pre, k :: r => (if k ∈ pre then 0 else 1) + ndc (pre ++ [k]) r
theorem ndc_cons {pre r : List Int} {k : Int} : ndc pre (k :: r) = (if k ∈ pre then 0 else 1) + ndc (pre ++ [k]) r := rfl
def lenSC (s : Sl) (st : Store) : Res Sl := match items st s with
  | some xs => match intsOf xs with
    | some ns => if ns.length ≤ 4000 then .ok (.v (.int (ndc [] ns))) st else .bad
    | none => .bad
  | none => .bad
def mLenSC (m : ME) : ME := fun env st => (m env st).bind lenSC
section
variable {X : Cx} {pins : List (Addr × Obj)} {σ : L2.St} {H : Hp} {s : Shared}
theorem fresh_turn {s1 : Shared} {h' : Heap} {tk : Nat} (I0 : Inv X pins σ H s) {b : Addr} (hb : s.heap.objs.size ≤ b) (I1 : Inv X pins σ H s1) (k : ∀ c o, c ≠ b → s1.heap.get? c = some o → h'.get? c = some o) : Inv X pins σ H { s1 with heap := h', toks := tk } := by
  refine I1.turned (it := b) k (I0.hok.fresh hb) (fun z => ?_) (.inr (Nat.le_trans I0.sz hb)) (fun y c e z => ?_) (fun p hp z => ?_)
  · have := I0.lt
    rw [← z] at this
    exact Nat.lt_irrefl _ (Nat.lt_of_lt_of_le this hb)
  · obtain ⟨v, o, ho, _⟩ := I0.cell y c e
    have := Heap.lt_size ho
    rw [z] at this
    exact Nat.lt_irrefl _ (Nat.lt_of_lt_of_le this hb)
  · have := Heap.lt_size (I0.pin p hp).1
    rw [z] at this
    exact Nat.lt_irrefl _ (Nat.lt_of_lt_of_le this hb)
theorem ints_get : ∀ {us : List Value} {ns : List Int} {i : Nat} {u : Value}, IntsAre us ns → us[i]? = some u → ∃ t, ∃ hi : i < ns.length, u = .int ns[i] t
  | _, _, 0, u, .cons n t r, e => by simp at e; exact ⟨t, by simp, e.symm⟩
  | _, _, i + 1, u, .cons n t r, e => by
    obtain ⟨t', hi, h⟩ := ints_get (i := i) r (by simpa using e)
    exact ⟨t', by simpa using hi, by simpa using h⟩
  | _, _, _, _, .nil, e => by simp at e
theorem sc_go {its : Array Value} {ns : List Int} {scope : Scope} {cls : List (Str × Addr)} {x : Str} {p1 p2 : Pos} {l : Addr} {oI : Obj} {St : Nat → Heap → Prop} {Q : Value → Shared → Prop} (I0 : Inv X pins σ H s) (hits : IntsAre its.toList ns) (hb : ns.length + 1 < scanBound)
    (hkind : scope.kind = .function) (hx : scope.names.lookup x = some .local) (hd : (x == ("__debug__" : Str)) = false) (hl : l < s.heap.objs.size)
    (W : Walks X.prog X.w X.A s.heap.objs.size [s.heap.objs.size, l] [s.heap.objs.size] its.size (fun i v => its[i]? = some v) St)
    (hgo2 : ∀ i v (s1 : Shared) (Q : Unit → Shared → Prop) (E : Value → Shared → Prop), St i s1.heap → Q () s1 → wpAny (model X.prog X.w) X.A (letOwnedTupleGo (.Name x p1) (.ref s.heap.objs.size) v) Q E s1)
    (hst : St 0 (s.heap.push oI)) (fin : ∀ D (s' : Shared), Inv X pins σ H s' → SetR X.w s'.heap D (fun k => decide (k ∈ ns)) (ndc [] ns) → Q (.ref D) s') :
    ScGoes X.prog X.w X.A X.xe X.env scope cls (.Name x p1) [] (.Name x p2) none Q (.ref s.heap.objs.size) { s with heap := s.heap.push oI } := by
  have hn : its.size = ns.length := by rw [← hits.length, Array.length_toList]
  refine ⟨_, _, _, _, _, _, rfl, Goes.ofWalks W hgo2, hst, fun D C s₃ hB hD0 => ?_⟩
  obtain ⟨⟨h₃, tk₃, rfl⟩, old, nD, nC, hDC, hnm⟩ := hB
  have psz : (s.heap.push oI).objs.size = s.heap.objs.size + 1 := Heap.size_push ..
  have nD' : s.heap.objs.size + 1 ≤ D := by rw [← psz]; exact nD
  have nC' : s.heap.objs.size + 1 ≤ C := by rw [← psz]; exact nC
  have sD : s.heap.objs.size ≤ D := Nat.le_trans (Nat.le_succ _) nD'
  have sC : s.heap.objs.size ≤ C := Nat.le_trans (Nat.le_succ _) nC'
  have lD : l ≠ D := Nat.ne_of_lt (Nat.lt_of_lt_of_le hl sD)
  have lC : l ≠ C := Nat.ne_of_lt (Nat.lt_of_lt_of_le hl sC)
  have iD : s.heap.objs.size ≠ D := Nat.ne_of_lt nD'
  have iC : s.heap.objs.size ≠ C := Nat.ne_of_lt nC'
  have I3 : Inv X pins σ H { s with heap := h₃, toks := tk₃ } := I0.kept fun b o e => old b o (Heap.get?_push_of_some _ e)
  have R3 : SetR X.w h₃ D (fun k => decide (k ∈ ns.take 0)) 0 := ⟨_, #[], 0, _, hD0, ⟨rfl, rfl, rfl⟩, rfl, (fun e he => by simp at he), (by simp), (fun k => by simp), (by decide), (by rfl), rfl, List.Pairwise.nil, by
    show _ ∨ (!X.w.params.followText "set-order") = true
    cases X.w.params.followText "set-order"
    · exact .inr rfl
    · exact .inl rfl⟩
  have kinds : (compEnvC scope cls C X.env).kindOf x = some .local := lookup_relabel_local hx
  have hp : ((compEnvC scope cls C X.env).scope.kind == .class || ((compEnvC scope cls C X.env).scope.kind == .module && (compEnvC scope cls C X.env).locals != (compEnvC scope cls C X.env).globals)) = false := by
    show (scope.kind == .class || (scope.kind == .module && _)) = false
    rw [hkind]; rfl
  refine ⟨fun i s1 => ∃ n m, Inv X pins σ H s1 ∧ SetR X.w s1.heap D (fun k => decide (k ∈ ns.take i)) n ∧ s1.heap.Ns C m ∧ n + ndc (ns.take i) (ns.drop i) = ndc [] ns ∧ n ≤ i, ⟨0, _, I3, R3, hnm, by simp, Nat.le_refl _⟩, ?_, ?_, ?_⟩
  · rintro i s1 h' tk ⟨n, m, I1, R1, N1, e1, z1⟩ hk _
    have off : ∀ b : Addr, b ≠ s.heap.objs.size → b ∉ [s.heap.objs.size] := fun b hb hm => hb (List.mem_singleton.mp hm)
    exact ⟨n, m, fresh_turn I0 (Nat.le_refl _) I1 fun c o hc e => hk c o (off c hc) e, R1.at fun o e => hk D o (off D iD.symm) e, N1.at' fun o e => hk C o (off C iC.symm) e, e1, z1⟩
  · rintro i v s1 hi hv hSt ⟨n, m, I1, R1, N1, e1, z1⟩
    have hv' : its.toList[i]? = some v := by simpa using hv
    obtain ⟨t, hin, rfl⟩ := ints_get hits hv'
    refine wpAny_assign_Name (wpAny_storeName_local kinds N1 (fun h4 n4 s4 => wpAny_tests_nil ?_) hp)
    show wpAny _ _ (eval (.Name x p2) _) _ _ _
    rw [eval_Name _ _ _ hd]
    refine wpAny_bind (wpAny_standAt (wpAny_loadName_local hkind kinds n4 (v := .int ns[i] t) (by simp) ?_))
    have R4 : SetR X.w h4 D (fun k => decide (k ∈ ns.take i)) n := R1.at fun o e => (s4.2 D hDC).trans e
    refine setR_add (s := { s1 with heap := h4, toks := s1.toks + 1 }) R4 (by omega) fun h5 s5 R5 => ?_
    have I4 : Inv X pins σ H { s1 with heap := h4, toks := s1.toks + 1 } := fresh_turn I0 sC I1 fun c o hc e => (s4.2 c hc).trans e
    have I5 : Inv X pins σ H { s1 with heap := h5, toks := s1.toks + 1 + 1 } := fresh_turn (s1 := { s1 with heap := h4, toks := s1.toks + 1 }) I0 sD I4 fun c o hc e => (s5.2 c hc).trans e
    have ht : ns.take (i + 1) = ns.take i ++ [ns[i]] := by rw [List.take_add_one, List.getElem?_eq_getElem hin]; rfl
    have hdr : ns.drop i = ns[i] :: ns.drop (i + 1) := List.drop_eq_getElem_cons hin
    refine ⟨⟨_, _, I5, R5.congr fun k => ?_, n4.at' fun o e => (s5.2 C hDC.symm).trans e, ?_, ?_⟩, W.frame _ _ _ hSt fun b hb o e => ?_⟩
    · rw [ht, Bool.eq_iff_iff]
      simp only [List.mem_append, List.mem_singleton, Bool.or_eq_true, decide_eq_true_eq]
    · rw [ht, ← e1, hdr, ndc_cons]
      by_cases z : ns[i] ∈ ns.take i
      · rw [if_pos (decide_eq_true z), if_pos z]; omega
      · rw [if_neg (by simpa using z), if_neg z]; omega
    · split <;> omega
    · have hbC : b ≠ C ∧ b ≠ D := by
        rcases List.mem_cons.mp hb with rfl | hb
        · exact ⟨iC, iD⟩
        · rcases List.mem_singleton.mp hb with rfl
          exact ⟨lC, lD⟩
      exact (s5.2 b hbC.2).trans ((s4.2 b hbC.1).trans e)
  · rintro s1 ⟨n, m, I1, R1, N1, e1, z1⟩
    refine ⟨m, N1, fun h' sb => ?_⟩
    rw [hn, List.drop_length] at e1
    rw [hn, List.take_length] at R1
    have e2 : n = ndc [] ns := by have : ndc ns [] = 0 := by simp [ndc]
                                  rw [List.take_length, this] at e1; omega
    subst e2
    exact fin D _ (fresh_turn I0 sC I1 fun c o hc e => (sb.2 c hc).trans e) (R1.at fun o e => (sb.2 D hDC).trans e)
theorem scan_4096 : scanBound = 4096 := rfl
theorem len_setR {D : Addr} {S : Int → Bool} {n : Nat} {Q : Value → Shared → Prop} {A : Around} {E : Value → Shared → Prop} {P : Program} {w : World} (R : SetR w s.heap D S n) (h : ∀ tk tk', Q (.int (n : Int) tk) { s with toks := tk' }) : wpAny (model P w) A (call (.builtin "len") [.ref D]) Q E s := by
  obtain ⟨o, es, ep, t, ho, hex, hd, _, _, _, hb, hf, hn, _⟩ := R
  subst hn
  have := scan_4096
  exact call_len_set ho hex hd hf (by omega) (h _ _)
variable {cl : Nat → Addr} {Wx : WX}
theorem ie_lenSC {x : Str} {e : Expr} {m : ME} {scope : Scope} {p p1 p2 sp pos : Pos} (hc : X.calm = true) (hg : Gl X "len") (hm : X.mg "len" = none) (he : IE X cl Wx e m) (hkind : scope.kind = .function) (hcell : ∀ y ∈ scope.names, y.2 ≠ .cell ∧ y.2 ≠ .free) (huniq : ∀ y ∈ scope.names, y.2 = .local → scope.names.lookup y.1 = some .local)
    (hx : scope.names.lookup x = some .local) (hd : (x == ("__debug__" : Str)) = false := by decide) (hs : ∀ v, foldedSetIterable e X.env v = pure v := by intro _; rfl)
    (na : starEach [.SetComp (.Name x p2) [⟨.Name x p1, e, [], 0⟩] scope sp] X.env = (false, eval (.SetComp (.Name x p2) [⟨.Name x p1, e, [], 0⟩] scope sp) X.env) :: starEach [] X.env := by rfl) :
    IE X cl Wx (.Call (.Name "len" p) [.SetComp (.Name x p2) [⟨.Name x p1, e, [], 0⟩] scope sp] [] pos) (mLenSC m) := by
  refine ⟨fun pins s σ H Q I h => ?_⟩
  obtain ⟨env, ρ, G, st, rel, er, q⟩ := h
  have h1 : tM ⟨X.K, cl⟩ Wx m σ H fun v H1 => ∃ ρ1 G1 st1 sl, Rel ⟨X.K, cl⟩ ρ1 G1 H1 st1 ∧ Mz.SlR ⟨X.K, cl⟩ ρ1 G1 sl v ∧ PostR ⟨X.K, cl⟩ ρ1 G1 (Mz.SlR ⟨X.K, cl⟩) (lenSC sl st1) Q (fun c d H' => Wx c d σ H') :=
    ⟨env, ρ, G, st, rel, er, PostR.bind (R1 := Mz.SlR ⟨X.K, cl⟩) q fun sl st1 ρ1 G1 H2 u f1 r1 s1 p1 => ⟨ρ1, G1, st1, sl, r1, s1, p1⟩⟩
  refine Call_ (ld_blt I hg hm boot_len ?_)
  refine PyProof.Rows.callWith_builtin1 (PyProof.Rows.args_cons ?_ na) rfl rfl
  refine SetComp_goes (closure_ok fun y hy z => absurd z (hcell y hy).2) (fun y hy => (hcell y hy).1) hkind huniq (thn (he.run pins s σ H _ I h1) fun v s1 ⟨vv, H1, I1, r1, ρ1, G1, st1, sl, rel1, hsl, p1⟩ => ?_) hs
  unfold lenSC at p1
  split at p1
  case h_2 => exact p1.elim
  rename_i xs hxs
  split at p1
  case h_2 => exact p1.elim
  rename_i ns hns
  split at p1
  case isFalse => exact p1.elim
  rename_i hz
  obtain ⟨l, vs, rfl, hq, hr⟩ := items_at rel1 hsl hxs
  rw [ints_rep hns hr] at hq
  cases r1
  have hb : ns.length + 1 < scanBound := by have := scan_4096; omega
  have fin : ∀ D (s' : Shared), Inv X pins σ H1 s' → SetR X.w s'.heap D (fun k => decide (k ∈ ns)) (ndc [] ns) → wpAny (model X.prog X.w) X.A (spliced (backTo pos (starEach [] X.env))) (fun us s₂ => wpAny (model X.prog X.w) X.A (call (.builtin "len") (.ref D :: us)) (EP X pins σ Q) X.xe s₂) X.xe s' := fun D s' I' R' => by
    refine PyProof.Rows.args_nil ?_
    exact len_setR R' fun tk tk' => ⟨.int (ndc [] ns), H1, I'.tok tk', ⟨tk, rfl⟩, p1 _ _ _ _ (Fr.refl _ _) rel1 (by unfold Mz.SlR Rep; rfl)⟩
  rcases hq with hq | hq
  · obtain ⟨its, rits, pl, hz2⟩ := I1.list hq
    have hi := rits.ints
    have hll : l < s1.heap.objs.size := by obtain ⟨o, _, ho, _⟩ := pl; exact Heap.lt_size ho
    refine wpAny_pyIter_list pl.isList ?_
    exact sc_go (its := its.toArray) (ns := ns) I1 (by simpa using hi) hb hkind hx hd hll (Walks.list (I1.ok.hd hc) _ l (Nat.ne_of_lt hll) _) (fun i v s2 Q2 E2 st2 q2 => letGo_listiter st2.1 q2) ⟨⟨_, Heap.get?_push_size _ rfl, rfl, rfl⟩, pl.isList.push _⟩ fin
  · obtain ⟨its, rits, pl, hz2⟩ := I1.tuple hq
    have hi := rits.ints
    have hll : l < s1.heap.objs.size := by obtain ⟨o, ho, _⟩ := pl; exact Heap.lt_size ho
    refine wpAny_pyIter_tuple pl ?_
    exact sc_go (its := its.toArray) (ns := ns) I1 (by simpa using hi) hb hkind hx hd hll (Walks.tuple (I1.ok.hd hc) _ l (Nat.ne_of_lt hll) _) (fun i v s2 Q2 E2 st2 q2 => letGo_tupleiter st2.1 q2) ⟨⟨_, Heap.get?_push_size _ rfl, rfl, rfl⟩, (let ⟨o, z, r⟩ := pl; ⟨o, Heap.get?_push_of_some _ z, r⟩)⟩ fin
end
/-! small steps -/
def kLenSC (r : Res Sl) : Res Sl := r.bind lenSC
theorem e_lenSC {m : ME} {env : Mz.Env} {st : Store} : mLenSC m env st = kLenSC (m env st) := rfl
theorem k_lenSC {ns : List Int} {s : Sl} {st : Store} (h : items st s = some (ns.map W.int)) (hz : ns.length ≤ 4000) : kLenSC (.ok s st) = .ok (.v (.int (ndc [] ns))) st := by
  show lenSC s st = _
  unfold lenSC; rw [h]; dsimp only; rw [intsOf_ints]; dsimp only; rw [if_pos hz]
theorem ndc_le : ∀ (r pre : List Int), ndc pre r ≤ r.length
  | [], _ => Nat.le_refl _
  | k :: r, pre => by have := ndc_le r (pre ++ [k]); rw [ndc_cons, List.length_cons]; split <;> omega
theorem ndc_eq : ∀ (r pre : List Int), ndc pre r = r.length ↔ r.Nodup ∧ ∀ k ∈ r, k ∉ pre
  | [], _ => by simp [ndc]
  | k :: r, pre => by
    have ih := ndc_eq r (pre ++ [k])
    have le := ndc_le r (pre ++ [k])
    rw [ndc_cons, List.length_cons, List.nodup_cons]
    by_cases z : k ∈ pre
    · rw [if_pos z]
      constructor
      · intro h; omega
      · intro h; exact absurd z (h.2 k (List.mem_cons_self ..))
    · rw [if_neg z]
      constructor
      · intro h
        obtain ⟨h1, h2⟩ := ih.mp (by omega)
        exact ⟨⟨fun m => h2 k m (by simp), h1⟩, fun j hj => by
          rcases List.mem_cons.mp hj with rfl | hj
          · exact z
          · exact fun m => h2 j hj (by simp [m])⟩
      · rintro ⟨⟨h1, h2⟩, h3⟩
        have := ih.mpr ⟨h2, fun j hj m => by
          rcases List.mem_append.mp m with m | m
          · exact h3 j (List.mem_cons_of_mem _ hj) m
          · rw [List.mem_singleton.mp m] at hj; exact h1 hj⟩
        omega
end Mz

set_option Elab.async false
set_option linter.all false
set_option maxRecDepth 100000
set_option maxHeartbeats 4000000
namespace Mz
open PySem PySem.Spec PySem.Calls PyProof.Rows L2
/-! ## 66. own []= -/
def setOwn (c : Nat) (F : MF) (env : Mz.Env) (x k y : Sl) (st : Store) : SR := if isCl c st x = true then (match F [x, k, y] st with
  | .ok _ st4 => .nx env st4
  | _ => .bad) else .bad
def mSetIO (c : Nat) (F : MF) (o i e : ME) : MS := fun env st => ofR env (e env st) fun y st1 => ofR env (o env st1) fun x st2 => ofR env (i env st2) fun k st3 => setOwn c F env x k y st3
def rSetOwn (K : PySem.W.Frag) (cl : Nat → Addr) (c : Nat) (F : MF) : V → V → V → Hp → (Hp → Prop) → Prop := fun o i v H Q => ∃ ρ G st x k y r st4, Rel ⟨K, cl⟩ ρ G H st ∧ Mz.SlR ⟨K, cl⟩ ρ G x o ∧ Mz.SlR ⟨K, cl⟩ ρ G k i ∧ Mz.SlR ⟨K, cl⟩ ρ G y v ∧ isCl c st x = true ∧ F [x, k, y] st = .ok r st4 ∧
  ∀ ρ' G' H', Fr ρ ρ' G G' → Rel ⟨K, cl⟩ ρ' G' H' st4 → Q H'
section
variable {X : Cx} {cl : Nat → Addr} {Wx : WX} {pos : Pos} {e o i : Expr} {me mo mi : ME}
theorem set_own {F : MF} {k c : Nat} {g : Addr} {fd : FuncData} {ps : List Str} (hq : PySem.W.noSeq X.K (cl c) = true) (hs : PySem.W.findIn X.K (.ref (cl c)) "__setitem__" = some (some (.ref g))) (hf : PySem.W.isFn X.K (.ref g) = true)
    (hF : FnOk X.prog X.w X.K X.mg X.base (L2.CX X.prog X.w) k g fd ps (spM ⟨X.K, cl⟩ 3 F)) (hr : Room k X.A) (hb : Binds X.K fd ps []) : PSet X (rSetOwn X.K cl c F) := by
  intro pins s σ H o i v ov iv u Q I ro ri rv h
  obtain ⟨ρ, G, st, x, kk, y, r0, st4, rel, hx, hk, hy, hi, e4, q⟩ := h
  obtain ⟨a, dx, fs, rfl, hH⟩ := isCl_at rel hx hi
  cases ro
  obtain ⟨mA, J, _⟩ := ins_get I.hok hH
  obtain ⟨od, J, _⟩ := J.look
  obtain ⟨m, hFr⟩ := I.fr
  have sp : spM ⟨X.K, cl⟩ 3 F [.ref a, i, v] H (fun _ H' => Q H') (fun _ _ _ => False) := ⟨ρ, G, st, [x, kk, y], rel, ⟨_, _, rfl, hx, _, _, rfl, hk, _, _, rfl, hy, rfl⟩, rfl, by rw [e4]; exact fun ρ' G' H' _ f r _ => q ρ' G' H' f r⟩
  have rv3 : Vals [V.ref a, i, v] [Value.ref a, iv, u] := .cons rfl (.cons ri (.cons rv .nil))
  have hl : ([Value.ref a, iv, u]).length = ps.length := by rw [← rv3.length]; exact hF.len _ _ _ _ sp
  have bb := hb s [.ref a, iv, u] I.kIn (by rw [List.append_nil]; exact hl)
  rw [List.append_nil] at bb
  refine PySem.W.ksp_setItem hFr I.ok.mod.kin J hq hs hf ?_
  refine wpAny_call (codeAny_mono (hF.run X.A X.stack s H ⟨[.ref a, iv, u], []⟩ _ _ _ _ hr I.env0 bb rv3 sp) fun r s' hq' => ?_)
  cases r with
  | error e =>
    obtain ⟨_, _, _, _, _, hh⟩ := hq'
    exact hh.2.2.2.2.2.2.2.elim
  | ok fl =>
    cases fl with
    | ret u2 =>
      obtain ⟨_, H', I', _, q'⟩ := I.after hq'
      exact ⟨H', I', q'⟩
    | next => exact False.elim hq'
    | brk => exact False.elim hq'
    | cont => exact False.elim hq'
theorem is_setIO {c : Nat} {F : MF} {p2 : Pos} (he : IE X cl Wx e me) (ho : IE X cl Wx o mo) (hi : IE X cl Wx i mi) (hg : PG X (.Subscript o i p2) (gSub (tM ⟨X.K, cl⟩ Wx mo) (tM ⟨X.K, cl⟩ Wx mi) (rSetOwn X.K cl c F))) (hs : swapsWithSole [.Subscript o i p2] e pos.line X.env = pure false := by rfl) (hw : swappedStores [.Subscript o i p2] e X.env = pure none := by rfl)
    (h1 : List.map (fun x => x.snd) (assignEach [.Subscript o i p2] X.env) = [assign (.Subscript o i p2) X.env] := by rfl) : IS X cl Wx (.Assign [.Subscript o i p2] e pos) (mSetIO c F mo mi me) :=
  ps_weak (ps_asg he hg hs hw (h1 := h1)) fun D σ H ⟨env, ρ, G, st, r, er, p⟩ => ⟨env, ρ, G, st, r, er, PostS.ofR (R := Mz.SlR ⟨X.K, cl⟩) er p fun y st1 ρ1 G1 H1 u f1 r1 s1 p1 =>
    ⟨env, ρ1, G1, st1, r1, er.mono f1, PostS.ofR (R := Mz.SlR ⟨X.K, cl⟩) (er.mono f1) p1 fun x st2 ρ2 G2 H2 v f2 r2 s2 p2 =>
      ⟨env, ρ2, G2, st2, r2, (er.mono f1).mono f2, PostS.ofR (R := Mz.SlR ⟨X.K, cl⟩) ((er.mono f1).mono f2) p2 fun k st3 ρ3 G3 H3 z f3 r3 s3 p3 => by
        unfold setOwn at p3
        split at p3
        case isFalse => exact p3.elim
        rename_i hc
        split at p3
        · rename_i w st4 e4
          exact ⟨ρ3, G3, st3, x, k, y, w, st4, r3, s2.mono f3, s3, (s1.mono f2).mono f3, hc, e4, fun ρ' G' H' f r' => p3 ρ' G' H' _ f r' ((((er.mono f1).mono f2).mono f3).mono f)⟩
        · exact p3.elim⟩⟩⟩
end
/-! small steps -/
def kSetO1 (c : Nat) (F : MF) (o i : ME) (env : Mz.Env) (r : Res Sl) : SR := ofR env r fun y st1 => ofR env (o env st1) fun x st2 => ofR env (i env st2) fun k st3 => setOwn c F env x k y st3
def kSetO2 (c : Nat) (F : MF) (i : ME) (env : Mz.Env) (y : Sl) (r : Res Sl) : SR := ofR env r fun x st2 => ofR env (i env st2) fun k st3 => setOwn c F env x k y st3
def kSetO3 (c : Nat) (F : MF) (env : Mz.Env) (y x : Sl) (r : Res Sl) : SR := ofR env r fun k st3 => setOwn c F env x k y st3
def kSetO4 (env : Mz.Env) (r : Res Sl) : SR := match r with
  | .ok _ st4 => .nx env st4
  | _ => .bad
theorem e_setIO {c : Nat} {F : MF} {o i e : ME} {env : Mz.Env} {st : Store} : mSetIO c F o i e env st = kSetO1 c F o i env (e env st) := rfl
theorem k_setO1 {c : Nat} {F : MF} {o i : ME} {env : Mz.Env} {y : Sl} {st : Store} : kSetO1 c F o i env (.ok y st) = kSetO2 c F i env y (o env st) := rfl
theorem k_setO2 {c : Nat} {F : MF} {i : ME} {env : Mz.Env} {y x : Sl} {st : Store} : kSetO2 c F i env y (.ok x st) = kSetO3 c F env y x (i env st) := rfl
theorem k_setO3 {c : Nat} {F : MF} {env : Mz.Env} {y x k : Sl} {st : Store} (h : isCl c st x = true) : kSetO3 c F env y x (.ok k st) = kSetO4 env (F [x, k, y] st) := by
  show setOwn c F env x k y st = _
  unfold setOwn; rw [if_pos h]; rfl
theorem k_setO4 {env : Mz.Env} {r : Sl} {st : Store} : kSetO4 env (.ok r st) = .nx env st := rfl
/-! a lambda whose name stands among the def's -/
theorem only_at {N : List Str} {x : Str} {vs : List Nat} (h : (N.zipIdx.all fun p => decide (p.1 ≠ x) || decide (p.2 ∈ vs)) = true) : ∀ i : Nat, N[i]? = some x → i ∈ vs := fun i e => by
  have hm : (x, i) ∈ N.zipIdx := by rw [List.mem_zipIdx_iff_getElem?]; exact e
  have := List.all_eq_true.mp h _ hm
  simpa using this
theorem e_sortKv {vs : List Nat} {ma : MA} {me : ME} {env : Mz.Env} {st st1 : Store} {s : Sl} {ys ws : List W} {ds : List PyData} (h : ma env st = .ok [s] st1) (hl : litems st1 s = some ys) (hk : keysOf me (wipeE env vs) ys st1 = .ok ws st1) (hd : wKeys ws = some ds) (ha : PySem.W.AllAlike ds) :
    mSortKv vs ma me env st = .ok (.l st1.l.length) (st1.push (.lst (byK ds ys))) := by
  unfold mSortKv
  rw [h]
  show sortGo me (wipeE env vs) [s] st1 = _
  unfold sortGo
  dsimp only
  rw [hl]
  dsimp only
  rw [hk]
  show sortFin ys ws st1 = _
  unfold sortFin
  rw [hd]
  dsimp only
  rw [if_pos ha]
end Mz

set_option Elab.async false
set_option linter.all false
set_option maxRecDepth 100000
set_option maxHeartbeats 4000000
/-! ## 54. sorted of whole numbers: a list or a tuple -/
namespace SrtO
open PySem PyProof.Rows Srt
section
variable {prog : Program} {w : World} {A : Around} {E : Value → Shared → Prop} {s : Shared}
theorem collect_tup {l : Addr} {vs : List Value} {Q : List Value → Shared → Prop} (hl : s.heap.IsTuple l vs.toArray)
    (h : Q vs { s with heap := (s.heap.push (seqObj "list" #[] 0)).update s.heap.objs.size (Obj.mapSeq (· ++ vs.toArray)) }) (hsz : vs.length ≤ sizeLine) :
    wpAny (model prog w) A (collect (.ref l)) Q E s := by
  obtain ⟨o, ho, hc, n, hd⟩ := id hl
  unfold collect
  refine wpAny_bind (wpAny_runValue (codeAny_builtin entry_proto_collect' ?_))
  show wpAny _ _ (do again (.builtin "list.__iadd__" ⟨[← newList [], .ref l], []⟩)) _ _ s
  refine wpAny_bind (wpAny_newList (wpAny_pure ⟨Code.quiet_builtin _ (by decide +kernel), codeAny_builtin entry_list_iadd' ?_⟩))
  show wpAny _ _ (Builtin.List.listExtendWith (.ref s.heap.objs.size) (.ref l) (.ref s.heap.objs.size)) _ _ { s with heap := s.heap.push (seqObj "list" #[] 0) }
  unfold Builtin.List.listExtendWith
  have ho' : (s.heap.push (seqObj "list" #[] 0)).get? l = some o := Heap.get?_push_of_some _ ho
  refine wpAny_bind (wpAny_typeOf (T := "tuple") ⟨o, ho', hc⟩ ?_)
  have ht : (Value.type "tuple" == Value.type "tuple") = true := by rfl
  rw [if_pos (by rw [ht]; simp)]
  refine wpAny_bind (listItems_at ho' hd ?_)
  refine wpAny_bind (listItems_at (xs := #[]) (n := 0) (Heap.get?_push_size _ rfl) rfl ?_)
  rw [if_neg (by simp)]
  refine wpAny_bind (listUpdate_at (xs := #[]) (n := 0) (Heap.get?_push_size _ rfl) rfl ?_ (Nat.zero_le _) (by show (#[] ++ vs.toArray).size ≤ sizeLine + 1; simp only [Array.size_append, List.size_toArray, List.length_nil]; omega))
  refine wpAny_pure ?_
  show wpAny (model prog w) A (do
      let o ← load s.heap.objs.size
      match o.data with
      | .seq xs _ => pure xs.toList
      | _ => unsupported "internal:collect") Q E { s with heap := (s.heap.push (seqObj "list" #[] 0)).update s.heap.objs.size (Obj.mapSeq (· ++ vs.toArray)) }
  refine wpAny_bind (wpAny_load (get?_update_seq (Heap.get?_push_size _ rfl) _) ?_)
  show wpAny _ _ (pure ((#[] : Array Value) ++ vs.toArray).toList) Q E _
  rw [show ((#[] : Array Value) ++ vs.toArray).toList = vs by simp]
  exact wpAny_pure h
theorem sorted_ordT {l : Addr} {vs : List Value} {ltv : Value → Value → Bool} {Q : Value → Shared → Prop} (O : Swo ltv) (hl : s.heap.IsTuple l vs.toArray) (hz : vs.length ≤ sizeLine)
    (hS : 2 ≤ vs.length → ∀ (h₁ : Heap) (a : Addr), h₁.get? a = some (seqObj "list" vs.toArray 0) → (∀ b o, s.heap.get? b = some o → b ≠ a ∧ h₁.get? b = some o) → SortableO prog w A.in1.in1 { s with heap := h₁ } a vs ltv)
    (h : ∀ out : List Value, Srtd ltv out → Stb ltv out vs → Q (.ref (s.heap.objs.size + 1)) { s with heap := sortedAll s.heap vs out.toArray }) :
    wpAny (model prog w) A (call (.builtin "sorted") [.ref l]) Q E s := by
  refine Calls.call_function_entry kind_sorted plain_sorted entry_sorted (args_sorted1 _) ?_
  unfold Builtin.«sorted»
  refine wpAny_bind (m := checkCount "sorted" 1 1 _) (wpAny_pure ?_)
  refine wpAny_bind (collect_tup hl ?_ hz)
  refine wpAny_bind (wpAny_newList ?_ hz)
  have hsz : ((s.heap.push (seqObj "list" #[] 0)).update s.heap.objs.size (Obj.mapSeq (· ++ vs.toArray))).objs.size = s.heap.objs.size + 1 := by
    rw [Heap.size_update, size_push']
  have hoL : (((s.heap.push (seqObj "list" #[] 0)).update s.heap.objs.size (Obj.mapSeq (· ++ vs.toArray))).push (seqObj "list" vs.toArray 0)).get? (s.heap.objs.size + 1) = some (seqObj "list" vs.toArray 0) := by
    rw [← hsz]; exact Heap.get?_push_size _ rfl
  have keep : ∀ b o, s.heap.get? b = some o → b ≠ s.heap.objs.size + 1 ∧ (((s.heap.push (seqObj "list" #[] 0)).update s.heap.objs.size (Obj.mapSeq (· ++ vs.toArray))).push (seqObj "list" vs.toArray 0)).get? b = some o := fun b o q => by
    have hlt : b < s.heap.objs.size := Heap.lt_size q
    refine ⟨Nat.ne_of_lt (Nat.lt_succ_of_lt hlt), Heap.get?_push_of_some _ ?_⟩
    rw [Heap.get?_update_ne _ _ _ _ (Nat.ne_of_lt hlt)]
    exact Heap.get?_push_of_some _ q
  show wpAny _ _ _ _ _ { s with heap := ((s.heap.push (seqObj "list" #[] 0)).update s.heap.objs.size (Obj.mapSeq (· ++ vs.toArray))).push (seqObj "list" vs.toArray 0) }
  rw [hsz]
  refine wpAny_bind (wpAny_holding (wpAny_call_entry slot_list_sort ⟨_, hoL, rfl⟩ entry_list_sort (list_sort_ord O hoL hz (fun h2 => hS h2 _ _ hoL keep) fun out hs hb => ⟨_, rfl, ?_⟩) (args_list_sort _)))
  exact wpAny_pure ⟨_, rfl, h out hs hb⟩
end
end SrtO
namespace Mz
open PySem L2 PySem.Spec PyProof.Rows
def rSortedA (K : PySem.W.Frag) : List V → Hp → VK → Prop := fun vs H Q => ∃ (b : Bool) (a : Addr) (ns : List Int), vs = [V.ref a] ∧ SqA K H b a (ns.map V.int) ∧
  ∀ (ns' : List Int) (p : Addr), ns'.Perm ns → ns'.Pairwise (· ≤ ·) → H p = none → Q (.ref p) (upd H p (.lst (ns'.map V.int)))
theorem cr_sortedA {X : Cx} : CallR X (.builtin "sorted") (rSortedA X.K) := by
  intro pins s σ H vs us Q I r h
  obtain ⟨b, a, ns, rfl, hs, q⟩ := h
  cases b with
  | false => exact cr_sortedI pins s σ H _ us Q I r ⟨a, ns, rfl, hs, q⟩
  | true =>
    obtain ⟨its, rv, hl, hz⟩ := I.tuple hs
    rw [Vals.ref1 r]
    have hi := rv.ints
    refine SrtO.sorted_ordT SrtO.swo_int hl (by rw [← rv.length]; exact hz) (fun h2 h₁ a' _ _ => SrtO.ints_sortable hi h2) fun out h1 h2 => ?_
    obtain ⟨k1, k2, k3⟩ := SrtO.ints_out hi h1 h2
    obtain ⟨ep, he'⟩ := PyProof.Rows.sortedAll_at s.heap its out.toArray
    have hlen : ((out.map SrtO.iv).map V.int).length ≤ sizeLine := by
      rw [List.length_map, k2.length_eq]
      rw [List.length_map] at hz
      exact hz
    exact ⟨.ref _, upd H (s.heap.objs.size + 1) (.lst ((out.map SrtO.iv).map V.int)), I.laid (t' := s.toks) (fun _ _ => PyProof.Rows.sortedAll_old) (Nat.le_succ _) ⟨hlen, out, ep, vals_of_ints k1, he'⟩, rfl, q _ _ k2 k3 (I.hok.fresh (Nat.le_succ _))⟩
/-- sorted(xs) of a list or a tuple of whole numbers: a new list -/
def fSortA : MF
  | [x], st => match items st x with
    | some xs => match intsOf xs with
      | some ns => .ok (.v (.lst ((sortI ns).map W.int))) st
      | none => .bad
    | none => .bad
  | _, _ => .bad
def fSortAM : MF
  | [x], st => match items st x with
    | some xs => match intsOf xs with
      | some ns => .ok (.l st.l.length) (st.push (.lst ((sortI ns).map W.int)))
      | none => .bad
    | none => .bad
  | _, _ => .bad
theorem s_sortA {T : Tx} : CaS T (rSortedA T.K) fSortA := fun ρ G H st xs us Q E r hs p => by
  unfold fSortA at p
  split at p
  · obtain ⟨u, rfl, hx⟩ := slrs1 hs
    split at p
    · rename_i ys e
      split at p
      · rename_i ns e2
        obtain ⟨a, vs, rfl, hq, hr⟩ := items_kind r hx e
        rw [ints_rep e2 hr] at hq
        refine ⟨_, a, ns, rfl, hq, fun ns' q hp up hn => ?_⟩
        rw [sortI_is hp up]
        obtain ⟨f, r2⟩ := r.newG (o := .lst ((sortI ns).map V.int)) hn
        exact p _ _ _ _ f r2 (by unfold SlR Rep; exact ⟨q, _, rfl, upd_same, reps_ints _⟩)
      · exact p.elim
    · exact p.elim
  · exact p.elim
theorem s_sortAM {T : Tx} : CaS T (rSortedA T.K) fSortAM := fun ρ G H st xs us Q E r hs p => by
  unfold fSortAM at p
  split at p
  · obtain ⟨u, rfl, hx⟩ := slrs1 hs
    split at p
    · rename_i ys e
      split at p
      · rename_i ns e2
        obtain ⟨a, vs, rfl, hq, hr⟩ := items_kind r hx e
        rw [ints_rep e2 hr] at hq
        refine ⟨_, a, ns, rfl, hq, fun ns' q hp up hn => ?_⟩
        rw [sortI_is hp up]
        obtain ⟨f, r2⟩ := r.newL (o := .lst ((sortI ns).map V.int)) (x := .lst ((sortI ns).map W.int)) hn ⟨_, rfl, reps_ints _⟩
        have hn9 : (ρ.l ++ [q])[st.l.length]? = some q := by rw [← r.ll]; simp
        exact p _ _ _ _ f r2 ⟨q, hn9, rfl⟩
      · exact p.elim
    · exact p.elim
  · exact p.elim
theorem f_sortA {ns : List Int} {x : Sl} {st : Store} (h : items st x = some (ns.map W.int)) : fSortA [x] st = .ok (.v (.lst ((sortI ns).map W.int))) st := by
  unfold fSortA; dsimp only; rw [h]; dsimp only; rw [intsOf_ints]
theorem f_sortAM {ns : List Int} {x : Sl} {st : Store} (h : items st x = some (ns.map W.int)) : fSortAM [x] st = .ok (.l st.l.length) (st.push (.lst ((sortI ns).map W.int))) := by
  unfold fSortAM; dsimp only; rw [h]; dsimp only; rw [intsOf_ints]
end Mz

set_option Elab.async false
set_option linter.all false
set_option maxRecDepth 100000
set_option maxHeartbeats 4000000
/-! ## 55. xs.pop() and xs += ys -/
namespace Mz
open PySem L2 PySem.Spec PyProof.Rows PyProof.V
def ipL (K : PySem.W.Frag) : TIp := fun x y H Q => ∃ l b xs zs, x = .ref l ∧ y = .ref b ∧ H l = some (.lst xs) ∧ SqL K H b zs ∧ xs.length + zs.length ≤ sizeLine ∧ Q (.ref l) (upd H l (.lst (xs ++ zs)))
section
variable {X : Cx}
theorem ip_addL : PIp X .Add (ipL X.K) := by
  intro pins s σ H x y v u Q I rx ry h
  obtain ⟨l, b, xs, zs, rfl, rfl, hH, hB, hz, q⟩ := h
  cases rx
  cases ry
  obtain ⟨z, its, n, r, hl, e⟩ := I.lstM hH
  obtain ⟨its2, r2, hl2, hz2⟩ := I.list hB
  have hl2' := r2.length
  obtain ⟨o2, e2, hc2, n2, hd2⟩ := hl2.isList
  have hsz : its.toArray.size + its2.toArray.size ≤ sizeLine := by rw [List.size_toArray, List.size_toArray]; omega
  refine iadd_road ⟨_, e, rfl⟩ ⟨_, e2, hc2⟩ (wpAny_call_entry PySem.F.slot_list_iadd ⟨_, e, rfl⟩ PySem.F.entry_list_iadd ?_ (PySem.F.args_list_iadd_2 _ _))
  show wpAny _ _ (Builtin.List.listExtendWith (.ref l) (.ref b) (.ref l)) _ _ s
  unfold Builtin.List.listExtendWith
  refine wpAny_bind (wpAny_typeOf (T := "list") ⟨o2, e2, hc2⟩ ?_)
  have ht : (Value.type "list" == Value.type "list") = true := by rfl
  rw [if_pos (by rw [ht]; simp)]
  refine wpAny_bind (listItems_at e2 hd2 ?_)
  refine wpAny_bind (listItems_at (xs := its.toArray) (n := n) e rfl ?_)
  rw [if_neg (by rw [notLongL hsz, Bool.and_false]; exact Bool.false_ne_true)]
  refine wpAny_bind (listUpdate_at (xs := its.toArray) (n := n) e rfl ?_ (by rw [List.size_toArray]; omega) (by show (its.toArray ++ its2.toArray).size ≤ sizeLine + 1; rw [Array.size_append]; omega))
  refine wpAny_pure ⟨_, rfl, .ref l, _, I.lset (its' := its ++ its2) (t' := s.toks) hH e (by simp) (r.append r2) ?_, rfl, q⟩
  rw [List.length_append]
  omega
end
/-- name += list -/
def mAugL (i : Nat) (e : ME) : MS := fun env st => match env[i]? with
  | some (some (.l n)) => ofR env (e env st) fun x st1 => match st1.lget n, litems st1 x with
    | some xs, some zs => if xs.length + zs.length ≤ big then .nx (env.set i (some (.l n))) (st1.setl n (.lst (xs ++ zs))) else .bad
    | _, _ => .bad
  | _ => .bad
section
variable {X : Cx} {cl : Nat → Addr} {Wx : WX} {pos : Pos}
theorem is_augL (i : Nat) {x : Str} {e : Expr} {me : ME} {pos' : Pos} (hN : X.N.Nodup) (he : IE X cl Wx e me) (hi : X.N[i]? = some x := by rfl) (hx : Loc X.env.scope x := by first | exact Or.inl rfl | exact Or.inr rfl)
    (hf : X.fn x = true ∨ X.env.scope.names.lookup x = some .local := by first | exact .inl rfl | exact .inr rfl | assumption) : IS X cl Wx (.AugAssign (.Name x pos') .Add e pos) (mAugL i me) :=
  ps_weak (ps_aug hN hi hx he ip_addL hf) fun D σ H ⟨env, ρ, G, st, r, er, p⟩ => by
    unfold mAugL at p
    split at p
    · rename_i n ha
      obtain ⟨u, h1, h2⟩ := er.2 i _ ha
      refine ⟨_, h1, env, ρ, G, st, r, er, PostS.ofR (R := Mz.SlR ⟨X.K, cl⟩) er p fun x st1 ρ1 G1 H1 v f1 r1 s1 p1 => ?_⟩
      split at p1
      · rename_i xs zs ex ez
        split at p1
        · rename_i hz
          have h3 : Mz.SlR ⟨X.K, cl⟩ ρ1 G1 (.l n) u := SlR.mono f1 h2
          obtain ⟨a, vs, ha1, rfl, hH, hr⟩ := lst_at r1 h3 ex
          obtain ⟨b, ws, rfl, hq, hs⟩ := litems_at r1 s1 ez
          refine ⟨a, b, vs, ws, rfl, rfl, hH, hq, by rw [← hr.length, ← hs.length]; exact hz, ?_⟩
          exact PostS.nx p1 (r1.setl ha1 ⟨_, rfl, hr.append hs⟩ (Store.lget_of ex) (fun z => by cases z)) ((er.mono f1).set i h3)
        · exact p1.elim
      · exact p1.elim
    · exact p.elim
end
/-! xs.pop() -/
def lmPop (xs : List W) : Option (W × List W) := match xs[xs.length - 1]? with
  | some w => some (w, xs.dropLast)
  | none => none
def mPop (o : ME) : ME := fun env st => (o env st).bind fun x st1 => match x with
  | .l n => match st1.lget n with
    | some xs => match lmPop xs with
      | some (w, zs) => .ok (.v w) (st1.setl n (.lst zs))
      | none => .bad
    | none => .bad
  | _ => .bad
theorem reps_dropLast {T : Tx} {G : Hp} : ∀ {ws : List W} {vs : List V}, Reps T G ws vs → Reps T G ws.dropLast vs.dropLast
  | [], vs, h => by
    have := h.length
    cases vs with
    | nil => exact h
    | cons => cases this
  | [w], vs, h => by
    have := h.length
    match vs, this with
    | [v], _ => exact Reps.nil
  | w :: w' :: ws, vs, h => by
    have hl := h.length
    match vs, hl, h with
    | v :: v' :: vs, _, h =>
      have h2 : Rep T G w v ∧ Reps T G (w' :: ws) (v' :: vs) := by
        unfold Reps at h
        obtain ⟨a, b, e, h1, h2⟩ := h
        cases e
        exact ⟨h1, h2⟩
      exact Reps.cons h2.1 (reps_dropLast h2.2)
section
variable {X : Cx} {cl : Nat → Addr} {Wx : WX} {o : Expr} {mo : ME} {apos cpos : Pos}
theorem ie_pop (ho : IE X cl Wx o mo) (hbase : attributeBase o "pop" X.env (eval o X.env) = eval o X.env := by rfl) (hline : (apos.endLine == cpos.line) = true := by rfl) :
    IE X cl Wx (.Call (.Attribute o "pop" apos) [] [] cpos) (mPop mo) :=
  pe_weak (pe_bm0 PySem.F.plainAttrs_list PySem.F.slot_list_pop PySem.F.type_list_pop mt_pop ho hbase hline) fun σ H Q ⟨env, ρ, G, st, rel, er, p⟩ => ⟨env, ρ, G, st, rel, er, PostR.bind (R1 := Mz.SlR ⟨X.K, cl⟩) p fun x st1 ρ1 G1 H1 u f1 r1 s1 p1 => by
    split at p1
    · rename_i n
      split at p1
      · rename_i xs e0
        obtain ⟨a, vs, ha1, rfl, hH, hr⟩ := lst_at r1 s1 e0
        split at p1
        · rename_i w zs e3
          unfold lmPop at e3
          split at e3
          · rename_i w' hw
            cases e3
            obtain ⟨v, hv, rv⟩ := Reps.get' hr hw
            refine ⟨.inl ⟨rfl, vs, SqL.of hH⟩, a, vs, v, rfl, rfl, hH, by rw [← hr.length]; exact hv, ?_⟩
            exact p1 ρ1 G1 _ v (Fr.refl _ _) (r1.setl ha1 ⟨_, rfl, reps_dropLast hr⟩ (Store.lget_of e0) (fun z => by cases z)) rv
          · cases e3
        · exact p1.elim
      · exact p1.elim
    · exact p1.elim⟩
end
/-! small steps -/
def kAugL (i n : Nat) (env : Mz.Env) (r : Res Sl) : SR := ofR env r fun x st1 => match st1.lget n, litems st1 x with
    | some xs, some zs => if xs.length + zs.length ≤ big then .nx (env.set i (some (.l n))) (st1.setl n (.lst (xs ++ zs))) else .bad
    | _, _ => .bad
def kAugL0 (o : Option (Option Sl)) (i : Nat) (e : ME) (env : Mz.Env) (st : Store) : SR := match o with
  | some (some (.l n)) => kAugL i n env (e env st)
  | _ => .bad
theorem e_augL {i : Nat} {e : ME} {env : Mz.Env} {st : Store} : mAugL i e env st = kAugL0 env[i]? i e env st := rfl
theorem k_augL0 {i n : Nat} {e : ME} {env : Mz.Env} {st : Store} : kAugL0 (some (some (.l n))) i e env st = kAugL i n env (e env st) := rfl
theorem k_augL {i n : Nat} {env : Mz.Env} {x : Sl} {st : Store} {xs zs : List W} (h1 : st.lget n = some xs) (h2 : litems st x = some zs) (hz : xs.length + zs.length ≤ big) : kAugL i n env (.ok x st) = .nx (env.set i (some (.l n))) (st.setl n (.lst (xs ++ zs))) := by
  unfold kAugL
  show (match st.lget n, litems st x with
    | some xs, some zs => if xs.length + zs.length ≤ big then SR.nx (env.set i (some (.l n))) (st.setl n (.lst (xs ++ zs))) else .bad
    | _, _ => .bad) = _
  rw [h1, h2]
  dsimp only
  rw [if_pos hz]
def kPop (r : Res Sl) : Res Sl := r.bind fun x st1 => match x with
  | .l n => match st1.lget n with
    | some xs => match lmPop xs with
      | some (w, zs) => .ok (.v w) (st1.setl n (.lst zs))
      | none => .bad
    | none => .bad
  | _ => .bad
theorem e_pop {o : ME} {env : Mz.Env} {st : Store} : mPop o env st = kPop (o env st) := rfl
theorem k_pop {n : Nat} {st : Store} {xs : List W} {w : W} (h : st.lget n = some (xs ++ [w])) : kPop (.ok (.l n) st) = .ok (.v w) (st.setl n (.lst xs)) := by
  unfold kPop
  show (match st.lget n with
    | some xs => match lmPop xs with
      | some (w, zs) => Res.ok (Sl.v w) (st.setl n (.lst zs))
      | none => .bad
    | none => .bad) = _
  rw [h]
  dsimp only
  have e : lmPop (xs ++ [w]) = some (w, xs) := by
    unfold lmPop
    rw [List.length_append, List.length_singleton, Nat.add_sub_cancel, List.getElem?_append_right (Nat.le_refl _), Nat.sub_self]
    dsimp only [List.getElem?_cons_zero]
    rw [List.dropLast_concat]
  rw [e]
end Mz

set_option Elab.async false
set_option linter.all false
set_option maxRecDepth 100000
set_option maxHeartbeats 4000000
/-! ## 56. a star in a display: [a, *b] -/
namespace Mz
open PySem L2 PySem.Spec PyProof.Rows
def mStarA (a : ME) (r : MA) : MA := fun env st => (a env st).bind fun x st1 => match items st1 x with
  | some ws => (r env st1).bind fun ys st2 => .ok (ws.map Sl.v ++ ys) st2
  | none => .bad
theorem slrs_app {T : Tx} {ρ : Mp} {G : Hp} : ∀ {ws : List W} {us : List V} {ys : List Sl} {vs : List V}, Reps T G ws us → SlRs T ρ G ys vs → SlRs T ρ G (ws.map Sl.v ++ ys) (us ++ vs)
  | [], us, ys, vs, h, g => by
    unfold Reps at h
    subst h
    exact g
  | w :: ws, us, ys, vs, h, g => by
    unfold Reps at h
    obtain ⟨v, r, rfl, h1, h2⟩ := h
    exact ⟨v, r ++ vs, rfl, h1, slrs_app h2 g⟩
section
variable {X : Cx} {cl : Nat → Addr} {Wx : WX} {e : Expr} {rest : List Expr} {me : ME} {ra : MA} {p : Pos}
theorem ia_star (he : IE X cl Wx e me) (hr : IA X cl Wx rest ra) (hs : starEach (.Starred e p :: rest) X.env = (true, eval e X.env) :: starEach rest X.env := by rfl) : IA X cl Wx (.Starred e p :: rest) (mStarA me ra) :=
  pa_weak (StX.pa_star he hr hs) fun σ H Q ⟨env, ρ, G, st, rel, er, p⟩ => ⟨env, ρ, G, st, rel, er, p.bind fun x st1 ρ1 G1 H1 u f1 r1 s1 p1 => by
    split at p1
    · rename_i ws ew
      obtain ⟨a, vs, rfl, hq, hr⟩ := items_kind r1 s1 ew
      refine ⟨a, vs, rfl, ?_, env, ρ1, G1, st1, r1, er.mono f1, PostR.bind (R1 := SlRs ⟨X.K, cl⟩) p1 fun xs st2 ρ2 G2 H2 us f2 r2 s2 p2 => p2.give r2 (slrs_app (Reps.mono f2.ex _ _ hr) s2)⟩
      unfold SqA at hq
      split at hq
      · exact .inl hq
      · exact .inr hq
    · exact p1.elim⟩
end
def kStarA1 (r : MA) (env : Mz.Env) (x : Res Sl) : Res (List Sl) := x.bind fun x st1 => match items st1 x with
  | some ws => (r env st1).bind fun ys st2 => .ok (ws.map Sl.v ++ ys) st2
  | none => .bad
def kStarA2 (o : Option (List W)) (r : MA) (env : Mz.Env) (st : Store) : Res (List Sl) := match o with
  | some ws => (r env st).bind fun ys st2 => .ok (ws.map Sl.v ++ ys) st2
  | none => .bad
def kStarA3 (ws : List W) (r : Res (List Sl)) : Res (List Sl) := r.bind fun ys st2 => .ok (ws.map Sl.v ++ ys) st2
theorem e_star {a : ME} {r : MA} {env : Mz.Env} {st : Store} : mStarA a r env st = kStarA1 r env (a env st) := rfl
theorem k_star1 {r : MA} {env : Mz.Env} {x : Sl} {st : Store} : kStarA1 r env (.ok x st) = kStarA2 (items st x) r env st := rfl
theorem k_star2 {ws : List W} {r : MA} {env : Mz.Env} {st : Store} : kStarA2 (some ws) r env st = kStarA3 ws (r env st) := rfl
theorem k_star3 {ws : List W} {ys : List Sl} {st : Store} : kStarA3 ws (.ok ys st) = .ok (ws.map Sl.v ++ ys) st := rfl
theorem vals_map : ∀ {ws : List W}, vals (ws.map Sl.v) = some ws
  | [] => rfl
  | w :: ws => by rw [List.map_cons, v_cons, vals_map]; rfl
end Mz

set_option Elab.async false
set_option linter.all false
set_option maxRecDepth 100000
set_option maxHeartbeats 4000000
/-! ## 57. zip of two lists -/
namespace Mz
open PySem L2 PySem.Spec PyProof.Rows
def zipSrcL : List Sl → Store → Res Src
  | [.v (.lst xs), .v (.lst ys)], st1 => .ok ⟨pairW xs ys, fun _ => True⟩ st1
  | _, _ => .bad
def mItZL (a : MA) : MI := fun env st => (a env st).bind zipSrcL
theorem its_zipL {T : Tx} {ρ : Mp} {G : Hp} {xs ys : List W} {a b : Addr} {us vs : List V} (hq : SqL T.K G a us) (hr : Reps T G xs us) (hq2 : SqL T.K G b vs) (hr2 : Reps T G ys vs) : ItS T ρ G ⟨pairW xs ys, fun _ => True⟩ (Itz T.K a b) := by
  refine ⟨fun i H st' ρ' G' f r g hi => ?_, fun i w H st' ρ' G' f r g hw => ?_⟩
  · refine ⟨us, vs, sql_mono r.ext (sql_mono f.ex hq), sql_mono r.ext (sql_mono f.ex hq2), ?_⟩
    rw [← hr.length, ← hr2.length]
    exact pairW_len hi
  · obtain ⟨x, y, hx, hy, rfl⟩ := pairW_at (show (pairW xs ys)[i]? = some w from hw)
    obtain ⟨u, hu, ru⟩ := Reps.get' hr hx
    obtain ⟨v, hv, rv⟩ := Reps.get' hr2 hy
    have q1 := sql_mono r.ext (sql_mono f.ex hq)
    have q2 := sql_mono r.ext (sql_mono f.ex hq2)
    refine ⟨⟨us, vs, u, v, q1, q2, hu, hv⟩, fun z H' hy => ?_⟩
    obtain ⟨q, u', v', rfl, hn, rfl, h1, h2⟩ := hy
    have e1 := h1 us q1
    have e2 := h2 vs q2
    rw [hu] at e1
    rw [hv] at e2
    cases e1
    cases e2
    obtain ⟨f2, r2⟩ := r.newG (o := .tup [u, v]) hn
    refine ⟨_, f2, r2, ?_⟩
    unfold Rep
    exact ⟨q, _, rfl, SqT.of upd_same, Reps.cons (Rep.mono f2.ex _ _ (Rep.mono f.ex _ _ ru)) (Reps.cons (Rep.mono f2.ex _ _ (Rep.mono f.ex _ _ rv)) Reps.nil)⟩
theorem ii_zipL {X : Cx} {cl : Nat → Addr} {Wx : WX} {e1 e2 : Expr} {ma : MA} {p pos tpos : Pos} {elts : List Expr} {kk : Nat} (hg : Gl X "zip") (hm : X.mg "zip" = none) (ha : IA X cl Wx [e1, e2] ma) (hs : starEach [e1, e2] X.env = (false, eval e1 X.env) :: starEach [e2] X.env := by rfl) (hpl : (backTo pos (starEach [e2] X.env)).any (·.1) = false := by rfl) :
    II X cl Wx (.Tuple elts kk tpos) (.Call (.Name "zip" p) [e1, e2] [] pos) (mItZL ma) :=
  pi_weak (RZ.pi_zipA hg hm ha hs hpl) fun σ H Q ⟨env, ρ, G, st, rel, er, p⟩ => ⟨env, ρ, G, st, rel, er, PostR.bind (R1 := SlRs ⟨X.K, cl⟩) p fun xs st1 ρ1 G1 H1 us f1 r1 s1 p1 => by
    unfold zipSrcL at p1
    split at p1
    · obtain ⟨u, v, rfl, h1, h2⟩ := slrs2 s1
      unfold Mz.SlR Rep at h1 h2
      obtain ⟨a, vs, rfl, hq, hr⟩ := h1
      obtain ⟨b, vs2, rfl, hq2, hr2⟩ := h2
      exact ⟨a, b, vs, vs2, rfl, .inl ⟨sql_mono r1.ext (SqL.of hq), sql_mono r1.ext (SqL.of hq2), p1.give r1 (its_zipL (SqL.of hq) hr (SqL.of hq2) hr2)⟩⟩
    · exact p1.elim⟩
def kZipL (r : Res (List Sl)) : Res Src := r.bind zipSrcL
theorem e_itZL {a : MA} {env : Mz.Env} {st : Store} : mItZL a env st = kZipL (a env st) := rfl
theorem k_zipL {xs ys : List W} {st : Store} : kZipL (.ok [.v (.lst xs), .v (.lst ys)] st) = .ok ⟨pairW xs ys, fun _ => True⟩ st := rfl
end Mz

set_option Elab.async false
set_option linter.all false
set_option maxRecDepth 100000
set_option maxHeartbeats 4000000
namespace Mz
open PySem PySem.Spec PySem.Calls PyProof PyProof.Rows L2
/-! ## 58. x in range(..); dicts that are changed -/
section
variable {X : Cx} {cl : Nat → Addr} {Wx : WX} {pos : Pos} {a e : Expr} {ta : TE} {te : L2.St → Hp → (Int → Int → Hp → Prop) → Prop}
def tInRg (neg : Bool) (ta : TE) (te : L2.St → Hp → (Int → Int → Hp → Prop) → Prop) : TE := fun σ H Q => ta σ H fun x H1 => te σ H1 fun lo hi H2 => ∃ i, x = .int i ∧ Q (.bl (if neg then !decide (lo ≤ i ∧ i < hi) else decide (lo ≤ i ∧ i < hi))) H2
theorem pe_inRg (neg : Bool) (ha : PE X a ta) (he : PRg X e te) (hm : behindInMarks (if neg then .NotIn else .In) e = false) : PE X (.Compare a [if neg then .NotIn else .In] [e] pos) (tInRg neg ta te) := by
  refine ⟨fun pins s σ H Q I h => ?_⟩
  refine wpAny_Compare1 (thn (ha.run pins s σ H _ I h) fun v s1 ⟨x, H1, I1, r1, q1⟩ => thn (he pins s1 σ H1 _ I1 q1) fun y s2 ⟨r, lo, hi, t, u, w, H2, ey, hr, I2, i, ex, q⟩ => ?_) hm
  subst ey ex
  obtain ⟨k, rfl⟩ := r1
  have base : ∀ (Q' : Bool → Shared → Prop), Q' (decide (lo ≤ i ∧ i < hi)) s2 → wpAny (model X.prog X.w) X.A (contains (.ref r) (.int i k)) Q' X.xe s2 := fun Q' hq => by
    refine wpAny_contains_slot (T := "range") ⟨_, hr, rfl⟩ F.slot_range_contains (call_meets F.slot_range_contains ⟨_, hr, rfl⟩ F.entry_range_contains (F.args_range_contains_2 _ _) (q_contains r lo hi i t u w k)
      ⟨hr, wpAny_truthy_bool ?_⟩)
    rw [place1]
    exact hq
  cases neg with
  | false =>
    show wpAny _ _ (do return Value.bool (← contains (Value.ref r) (Value.int i k))) _ _ s2
    exact wpAny_bind (base _ (wpAny_pure ⟨.bl _, H2, I2, rfl, q⟩))
  | true =>
    show wpAny _ _ (do return Value.bool (!(← contains (Value.ref r) (Value.int i k)))) _ _ s2
    exact wpAny_bind (base _ (wpAny_pure ⟨.bl _, H2, I2, rfl, q⟩))
theorem pt_inRg (neg : Bool) (ha : PE X a ta) (he : PRg X e te) (hm : behindInMarks (if neg then .NotIn else .In) e = false) : PT X (.Compare a [if neg then .NotIn else .In] [e] pos) (tTest (tInRg neg ta te)) := by
  refine ⟨fun pins s σ H Q I h => ?_⟩
  refine wpAny_isTrue_Compare1 (thn (ha.run pins s σ H _ I h) fun v s1 ⟨x, H1, I1, r1, q1⟩ => thn (he pins s1 σ H1 _ I1 q1) fun y s2 ⟨r, lo, hi, t, u, w, H2, ey, hr, I2, i, ex, b, eb, q⟩ => ?_) hm
  subst ey ex
  obtain ⟨k, rfl⟩ := r1
  cases eb
  have base : ∀ (Q' : Bool → Shared → Prop), Q' (decide (lo ≤ i ∧ i < hi)) s2 → wpAny (model X.prog X.w) X.A (contains (.ref r) (.int i k)) Q' X.xe s2 := fun Q' hq => by
    refine wpAny_contains_slot (T := "range") ⟨_, hr, rfl⟩ F.slot_range_contains (call_meets F.slot_range_contains ⟨_, hr, rfl⟩ F.entry_range_contains (F.args_range_contains_2 _ _) (q_contains r lo hi i t u w k)
      ⟨hr, wpAny_truthy_bool ?_⟩)
    rw [place1]
    exact hq
  cases neg with
  | false =>
    show wpAny _ _ (do return Value.bool (← contains (Value.ref r) (Value.int i k))) _ _ s2
    exact wpAny_bind (base _ (wpAny_pure (wpAny_truthy_bool ⟨H2, I2, q⟩)))
  | true =>
    show wpAny _ _ (do return Value.bool (!(← contains (Value.ref r) (Value.int i k)))) _ _ s2
    exact wpAny_bind (base _ (wpAny_pure (wpAny_truthy_bool ⟨H2, I2, q⟩)))
end
def inRg (neg : Bool) (lo : Int) (x y : Sl) (st : Store) : Res Sl := match x, y with
  | .v (.int i), .v (.int n) => .ok (.v (.bl (if neg then !decide (lo ≤ i ∧ i < n) else decide (lo ≤ i ∧ i < n)))) st
  | _, _ => .bad
def mInRg1 (neg : Bool) (m m2 : ME) : ME := fun env st => (m env st).bind fun x st1 => (m2 env st1).bind fun y st2 => inRg neg 0 x y st2
def inRgB (neg : Bool) (x : Sl) (m3 : ME) (env : Mz.Env) (y : Sl) (st2 : Store) : Res Sl := match y with
  | .v (.int lo) => (m3 env st2).bind fun z st3 => inRg neg lo x z st3
  | _ => .bad
def mInRg2 (neg : Bool) (m m2 m3 : ME) : ME := fun env st => (m env st).bind fun x st1 => (m2 env st1).bind (inRgB neg x m3 env)
section
variable {X : Cx} {cl : Nat → Addr} {Wx : WX} {pos p1 ps : Pos} {a e e2 : Expr} {m m2 m3 : ME}
theorem inRg_give {ρ : Mp} {G H : Hp} {st : Store} {neg : Bool} {lo : Int} {x y : Sl} {u v : V} {Q : VK} {E : XK} (r : Rel ⟨X.K, cl⟩ ρ G H st) (hx : Mz.SlR ⟨X.K, cl⟩ ρ G x u) (hy : Mz.SlR ⟨X.K, cl⟩ ρ G y v) (p : PostR ⟨X.K, cl⟩ ρ G (Mz.SlR ⟨X.K, cl⟩) (inRg neg lo x y st) Q E) :
    ∃ n, v = .int n ∧ ∃ i, u = .int i ∧ Q (.bl (if neg then !decide (lo ≤ i ∧ i < n) else decide (lo ≤ i ∧ i < n))) H := by
  unfold inRg at p
  split at p
  · unfold Mz.SlR Rep at hx hy
    subst hx hy
    exact ⟨_, rfl, _, rfl, pg p r (by unfold Rep; rfl)⟩
  · exact p.elim
theorem tm_inRg1 {neg : Bool} {σ : L2.St} {H : Hp} {Q : VK} (h : tM ⟨X.K, cl⟩ Wx (mInRg1 neg m m2) σ H Q) : tInRg neg (tM ⟨X.K, cl⟩ Wx m) (tRg1 (tM ⟨X.K, cl⟩ Wx m2)) σ H Q := by
  obtain ⟨env, ρ, G, st, rel, er, p⟩ := h
  exact ⟨env, ρ, G, st, rel, er, PostR.bind (R1 := Mz.SlR ⟨X.K, cl⟩) p fun x st1 ρ1 G1 H1 u f1 r1 s1 p1 =>
      ⟨env, ρ1, G1, st1, r1, er.mono f1, PostR.bind (R1 := Mz.SlR ⟨X.K, cl⟩) p1 fun y st2 ρ2 G2 H2 v f2 r2 s2 p2 => inRg_give r2 (s1.mono f2) s2 p2⟩⟩
theorem tm_inRg2 {neg : Bool} {σ : L2.St} {H : Hp} {Q : VK} (h : tM ⟨X.K, cl⟩ Wx (mInRg2 neg m m2 m3) σ H Q) : tInRg neg (tM ⟨X.K, cl⟩ Wx m) (tRg2 (tM ⟨X.K, cl⟩ Wx m2) (tM ⟨X.K, cl⟩ Wx m3)) σ H Q := by
  obtain ⟨env, ρ, G, st, rel, er, p⟩ := h
  exact ⟨env, ρ, G, st, rel, er, PostR.bind (R1 := Mz.SlR ⟨X.K, cl⟩) p fun x st1 ρ1 G1 H1 u f1 r1 s1 p1 =>
      ⟨env, ρ1, G1, st1, r1, er.mono f1, PostR.bind (R1 := Mz.SlR ⟨X.K, cl⟩) p1 fun y st2 ρ2 G2 H2 v f2 r2 s2 p2 => by
        unfold inRgB at p2
        split at p2
        · rename_i lo
          unfold Mz.SlR Rep at s2
          subst s2
          refine ⟨env, ρ2, G2, st2, r2, (er.mono f1).mono f2, PostR.bind (R1 := Mz.SlR ⟨X.K, cl⟩) p2 fun z st3 ρ3 G3 H3 w f3 r3 s3 p3 => ?_⟩
          obtain ⟨n, rfl, i, rfl, q⟩ := inRg_give r3 ((s1.mono f2).mono f3) s3 p3
          exact ⟨_, _, rfl, rfl, _, rfl, q⟩
        · exact p2.elim⟩⟩
theorem tB_tM {σ : L2.St} {H : Hp} {Q : Bool → Hp → Prop} {mm : ME} (h : Mz.tB ⟨X.K, cl⟩ Wx (mTest mm) σ H Q) : tM ⟨X.K, cl⟩ Wx mm σ H (fun x H' => ∃ k, x = .bl k ∧ Q k H') := by
  obtain ⟨env, ρ, G, st, rel, er, p⟩ := h
  refine ⟨env, ρ, G, st, rel, er, p.bind fun x st1 ρ1 G1 H1 u f1 r1 s1 p1 => ?_⟩
  obtain ⟨k, h1, h2⟩ := PostR.tru (k := fun b st => .ok b st) (by
      have e : ((Mz.tru x st1).bind fun b st => Res.ok b st) = Mz.tru x st1 := by cases Mz.tru x st1 <;> rfl
      rw [e]; exact p1) s1
  exact ⟨k, h1, h2.give r1 rfl⟩
theorem ie_inRg1 (neg : Bool) (hg : Gl X "range") (hmr : X.mg "range" = none) (ha : IE X cl Wx a m) (he : IE X cl Wx e m2) (na : starEach [e] X.env = (false, eval e X.env) :: starEach [] X.env := by rfl) (hm : behindInMarks (if neg then .NotIn else .In) (.Call (.Name "range" p1) [e] [] ps) = false := by rfl) :
    IE X cl Wx (.Compare a [if neg then .NotIn else .In] [.Call (.Name "range" p1) [e] [] ps] pos) (mInRg1 neg m m2) :=
  pe_weak (pe_inRg neg ha (prg_1 hg hmr he na) hm) fun σ H Q h => tm_inRg1 h
theorem ie_inRg2 (neg : Bool) (hg : Gl X "range") (hmr : X.mg "range" = none) (ha : IE X cl Wx a m) (he : IE X cl Wx e m2) (he2 : IE X cl Wx e2 m3) (na : starEach [e, e2] X.env = (false, eval e X.env) :: starEach [e2] X.env := by rfl) (nc : starEach [e2] X.env = (false, eval e2 X.env) :: starEach [] X.env := by rfl) (nd : (backTo ps (starEach [e2] X.env)).any (·.1) = false := by rfl)
    (hm : behindInMarks (if neg then .NotIn else .In) (.Call (.Name "range" p1) [e, e2] [] ps) = false := by rfl) :
    IE X cl Wx (.Compare a [if neg then .NotIn else .In] [.Call (.Name "range" p1) [e, e2] [] ps] pos) (mInRg2 neg m m2 m3) :=
  pe_weak (pe_inRg neg ha (prg_2 hg hmr he he2 na nc nd) hm) fun σ H Q h => tm_inRg2 h
theorem it_inRg1 (neg : Bool) (hg : Gl X "range") (hmr : X.mg "range" = none) (ha : IE X cl Wx a m) (he : IE X cl Wx e m2) (na : starEach [e] X.env = (false, eval e X.env) :: starEach [] X.env := by rfl) (hm : behindInMarks (if neg then .NotIn else .In) (.Call (.Name "range" p1) [e] [] ps) = false := by rfl) :
    IT X cl Wx (.Compare a [if neg then .NotIn else .In] [.Call (.Name "range" p1) [e] [] ps] pos) (mTest (mInRg1 neg m m2)) :=
  pt_weak (pt_inRg neg ha (prg_1 hg hmr he na) hm) fun σ H Q h => tm_inRg1 (tB_tM h)
theorem it_inRg2 (neg : Bool) (hg : Gl X "range") (hmr : X.mg "range" = none) (ha : IE X cl Wx a m) (he : IE X cl Wx e m2) (he2 : IE X cl Wx e2 m3) (na : starEach [e, e2] X.env = (false, eval e X.env) :: starEach [e2] X.env := by rfl) (nc : starEach [e2] X.env = (false, eval e2 X.env) :: starEach [] X.env := by rfl) (nd : (backTo ps (starEach [e2] X.env)).any (·.1) = false := by rfl)
    (hm : behindInMarks (if neg then .NotIn else .In) (.Call (.Name "range" p1) [e, e2] [] ps) = false := by rfl) :
    IT X cl Wx (.Compare a [if neg then .NotIn else .In] [.Call (.Name "range" p1) [e, e2] [] ps] pos) (mTest (mInRg2 neg m m2 m3)) :=
  pt_weak (pt_inRg neg ha (prg_2 hg hmr he he2 na nc nd) hm) fun σ H Q h => tm_inRg2 (tB_tM h)
theorem tm_din {neg : Bool} {σ : L2.St} {H : Hp} {Q : VK} (h : tM ⟨X.K, cl⟩ Wx (mOp (opDin neg) m m2) σ H Q) : tM ⟨X.K, cl⟩ Wx m σ H fun y H1 => tM ⟨X.K, cl⟩ Wx m2 σ H1 fun x H2 => ∃ q o, x = .ref q ∧ DGet H2 q y o ∧ Q (.bl (if neg then !o.isSome else o.isSome)) H2 := by
  have key : ∀ (k : Key) (ks : List Key) (ws : List W) (G2 : Hp) (vs : List V), Reps ⟨X.K, cl⟩ G2 ws vs → ∃ o, o = valV (ks.zip vs) k ∧ o.isSome = (dLook ks ws k).isSome := fun k ks ws G2 vs hr => by
    cases h : dLook ks ws k with
    | some w => obtain ⟨v, hv, _⟩ := dlook_some hr h; exact ⟨some v, hv.symm, rfl⟩
    | none => exact ⟨none, (dlook_none hr h).symm, rfl⟩
  obtain ⟨env, ρ, G, st, rel, er, p⟩ := h
  refine ⟨env, ρ, G, st, rel, er, PostR.bind (R1 := Mz.SlR ⟨X.K, cl⟩) p fun x st1 ρ1 G1 H1 u f1 r1 s1 p1 => ⟨env, ρ1, G1, st1, r1, er.mono f1, PostR.bind (R1 := Mz.SlR ⟨X.K, cl⟩) p1 fun y st2 ρ2 G2 H2 v f2 r2 s2 p2 => ?_⟩⟩
  unfold opDin at p2
  split at p2
  · rename_i ks ws k e1 e2
    obtain ⟨q, vs, rfl, hH, hl, hr⟩ := dct_at r2 s2 e1
    obtain rfl := key_at (s1.mono f2) e2
    obtain ⟨o, ho, hs⟩ := key k ks ws G2 vs hr
    refine ⟨q, o, rfl, .inl ⟨_, k, .inl hH, rfl, ho⟩, ?_⟩
    rw [hs]
    exact pg p2 r2 (by unfold Rep; rfl)
  · exact p2.elim
theorem it_din (neg : Bool) (hu : X.A.units + 1 < cLine) (ha : IE X cl Wx a m) (hb : IE X cl Wx e m2) (hm : behindInMarks (if neg then .NotIn else .In) e = false := by rfl) : IT X cl Wx (.Compare a [if neg then .NotIn else .In] [e] pos) (mTest (mOp (opDin neg) m m2)) := by
  cases neg with
  | false => exact pt_weak (pt_cmp (pc_din hu ha hb) hm) fun σ H Q h => tm_din (neg := false) (tB_tM h)
  | true => exact pt_weak (pt_cmp (pc_dnotin hu ha hb) hm) fun σ H Q h => tm_din (neg := true) (tB_tM h)
end
/-! {k: v} with one pair; d[k] = v -/
def dPut (ks : List Key) (ws : List W) (k : Key) (w : W) : List Key × List W := if (ks.any fun q => decide (q = k)) = true then (ks, dSet ks ws k w) else (ks ++ [k], ws ++ [w])
def disp1End (n : Nat) (x y : Sl) (st : Store) : Res Sl := match keyOf x, y, st.l[n]? with
  | some k, .v w, some (.dct [] []) => .ok (.l n) (st.setl n (.dct [k] [w]))
  | _, _, _ => .bad
def mDisp1 (mk mv : ME) : ME := fun env st => (mk env (st.push (.dct [] []))).bind fun x st1 => (mv env st1).bind fun y st2 => disp1End st.l.length x y st2
def setD (env : Mz.Env) (x k y : Sl) (st : Store) : SR := match x, keyOf k, y with
  | .l n, some k, .v w => match st.l[n]? with
    | some (.dct ks ws) => if ks.length < big ∧ ks.length = ws.length then .nx env (st.setl n (.dct (dPut ks ws k w).1 (dPut ks ws k w).2)) else .bad
    | _ => .bad
  | _, _, _ => .bad
def mSetD (o i e : ME) : MS := fun env st => ofR env (e env st) fun y st1 => ofR env (o env st1) fun x st2 => ofR env (i env st2) fun k st3 => setD env x k y st3
theorem dset_reps {T : Tx} {G : Hp} {k : Key} {w : W} {v : V} (hv : Rep T G w v) : ∀ {ks : List Key} {ws : List W} {vs : List V}, Reps T G ws vs → ks.length = ws.length → ∃ vs', ((ks.zip vs).map fun kv => if kv.1 = k then (kv.1, v) else kv) = ks.zip vs' ∧ vs'.length = ks.length ∧ Reps T G (dSet ks ws k w) vs'
  | [], [], vs, h, _ => by unfold Reps at h; cases h; exact ⟨[], rfl, rfl, Reps.nil⟩
  | k' :: ks, w' :: ws, vs, h, hl => by
    unfold Reps at h
    obtain ⟨u, r, rfl, h1, h2⟩ := h
    obtain ⟨vs', e1, e2, e3⟩ := dset_reps hv h2 (by simpa using hl)
    by_cases z : k' = k
    · refine ⟨v :: vs', ?_, by rw [List.length_cons, List.length_cons, e2], ?_⟩
      · rw [List.zip_cons_cons, List.map_cons, List.zip_cons_cons, e1, if_pos z]
      · unfold dSet; rw [if_pos z]; exact Reps.cons hv e3
    · refine ⟨u :: vs', ?_, by rw [List.length_cons, List.length_cons, e2], ?_⟩
      · rw [List.zip_cons_cons, List.map_cons, List.zip_cons_cons, e1, if_neg z]
      · unfold dSet; rw [if_neg z]; exact Reps.cons h1 e3
theorem dset_len {k : Key} {w : W} : ∀ {ks : List Key} {ws : List W}, ks.length = ws.length → (dSet ks ws k w).length = ks.length
  | [], [], _ => rfl
  | k' :: ks, w' :: ws, hl => by unfold dSet; rw [List.length_cons, List.length_cons, dset_len (by simpa using hl)]
theorem dput_rep {T : Tx} {G : Hp} {k : Key} {w : W} {v : V} (hv : Rep T G w v) {ks : List Key} {ws : List W} {vs : List V} (h : Reps T G ws vs) (hl : ks.length = ws.length) : ∃ vs', L2.putK (ks.zip vs) k v = (dPut ks ws k w).1.zip vs' ∧ (dPut ks ws k w).1.length = vs'.length ∧ Reps T G (dPut ks ws k w).2 vs' := by
  have hz := h.length
  have hk : ((ks.zip vs).map Prod.fst) = ks := List.map_fst_zip (by omega)
  have hm : ((ks.zip vs).any fun kv => decide (kv.1 = k)) = (ks.any fun q => decide (q = k)) := by
    conv => rhs; rw [← hk]
    rw [List.any_map]; rfl
  unfold L2.putK dPut
  rw [hm]
  by_cases z : (ks.any fun q => decide (q = k)) = true
  · rw [if_pos z, if_pos z]
    obtain ⟨vs', e1, e2, e3⟩ := dset_reps hv h hl
    exact ⟨vs', e1, e2.symm, e3⟩
  · rw [if_neg z, if_neg z]
    refine ⟨vs ++ [v], ?_, by rw [List.length_append, List.length_append]; simp; omega, h.append (Reps.cons hv Reps.nil)⟩
    rw [List.zip_append (by omega)]
    rfl
section
variable {X : Cx} {cl : Nat → Addr} {Wx : WX} {pos : Pos} {a e o i : Expr} {m me mo mi : ME}
theorem ie_disp1 {k v : Expr} {mk mv : ME} (hk : IE X cl Wx k mk) (hv : IE X cl Wx v mv) : IE X cl Wx (.Dict [some k] [v] pos) (mDisp1 mk mv) :=
  pe_weak (pe_disp (pps_cons hk hv pps_nil) rfl rfl (by simp) (by simp)) fun σ H Q ⟨env, ρ, G, st, rel, er, q⟩ => fun p hp => by
    obtain ⟨f1, r1⟩ := rel.newL (o := .dK []) (x := .dct [] []) hp ⟨[], rfl, rfl, Reps.nil⟩
    refine ⟨env, _, G, _, r1, er.mono f1, PostR.bind (R1 := Mz.SlR ⟨X.K, cl⟩) (PostR.mono f1 q) fun x st1 ρ1 G1 H1 u g1 r2 s1 p1 => ?_⟩
    refine ⟨env, ρ1, G1, st1, r2, (er.mono f1).mono g1, PostR.bind (R1 := Mz.SlR ⟨X.K, cl⟩) p1 fun y st2 ρ2 G2 H2 w2 g2 r3 s2 p2 => ?_⟩
    unfold disp1End at p2
    split at p2
    · rename_i k0 w e1 e2
      have hρ : ρ2.l[st.l.length]? = some p := g2.le.1 _ _ (g1.le.1 _ _ (by show (ρ.l ++ [p])[st.l.length]? = some p; rw [← rel.ll]; simp))
      obtain ⟨_, o, ho, vs0, ho2, hz0, hr0⟩ := r3.la _ _ _ hρ e2
      have hv0 : vs0 = [] := List.eq_nil_of_length_eq_zero hz0.symm
      subst hv0
      subst ho2
      obtain rfl := key_at (s1.mono g2) e1
      refine ⟨ho, [(k0, w2)], rfl, by simp, ?_⟩
      have r4 := r3.setl (x := .dct [k0] [w]) (o := .dK [(k0, w2)]) hρ ⟨[w2], rfl, rfl, Reps.cons s2 Reps.nil⟩ e2 (fun z => by cases z)
      exact p2 _ _ _ _ (Fr.refl _ _) r4 ⟨p, hρ, rfl⟩
    · exact p2.elim
theorem is_setD {p2 : Pos} (he : IE X cl Wx e me) (ho : IE X cl Wx o mo) (hi : IE X cl Wx i mi) (hg : PG X (.Subscript o i p2) (gSub (tM ⟨X.K, cl⟩ Wx mo) (tM ⟨X.K, cl⟩ Wx mi) rSetD)) (hs : swapsWithSole [.Subscript o i p2] e pos.line X.env = pure false := by rfl) (hw : swappedStores [.Subscript o i p2] e X.env = pure none := by rfl)
    (h1 : List.map (fun x => x.snd) (assignEach [.Subscript o i p2] X.env) = [assign (.Subscript o i p2) X.env] := by rfl) : IS X cl Wx (.Assign [.Subscript o i p2] e pos) (mSetD mo mi me) :=
  ps_weak (ps_asg he hg hs hw (h1 := h1)) fun D σ H ⟨env, ρ, G, st, r, er, p⟩ => ⟨env, ρ, G, st, r, er, PostS.ofR (R := Mz.SlR ⟨X.K, cl⟩) er p fun y st1 ρ1 G1 H1 u f1 r1 s1 p1 =>
    ⟨env, ρ1, G1, st1, r1, er.mono f1, PostS.ofR (R := Mz.SlR ⟨X.K, cl⟩) (er.mono f1) p1 fun x st2 ρ2 G2 H2 v f2 r2 s2 p2 =>
      ⟨env, ρ2, G2, st2, r2, (er.mono f1).mono f2, PostS.ofR (R := Mz.SlR ⟨X.K, cl⟩) ((er.mono f1).mono f2) p2 fun k st3 ρ3 G3 H3 z f3 r3 s3 p3 => by
        unfold setD at p3
        split at p3
        · rename_i n k0 w ek
          split at p3
          · rename_i ks ws e0
            split at p3
            · rename_i hc
              obtain ⟨q, h1, h2⟩ := s2.mono f3
              obtain ⟨_, o', ho', vs, rfl, h4, h5⟩ := r3.la n q _ h1 e0
              obtain rfl := key_at s3 ek
              obtain ⟨vs', d1, d2, d3⟩ := dput_rep (k := k0) ((s1.mono f2).mono f3) h5 hc.2
              refine ⟨q, _, h2, DPut.k ho' (by rw [List.length_zip]; have := hc.1; have h9 := sizeLine_eq; have hb : big = 16777216 := rfl; omega), ?_⟩
              rw [d1]
              exact PostS.nx p3 (r3.setl h1 ⟨vs', rfl, d2, d3⟩ e0 (fun z => by cases z)) (((er.mono f1).mono f2).mono f3)
            · exact p3.elim
          · exact p3.elim
        · exact p3.elim⟩⟩⟩
end
/-! small steps -/
section
variable {neg : Bool} {env : Mz.Env} {st : Store} {m m2 m3 mk mv o i e : ME} {x y k : Sl} {n : Nat} {lo j : Int} {w : W}
def kInRg1 (neg : Bool) (m2 : ME) (env : Mz.Env) (r : Res Sl) : Res Sl := r.bind fun x st1 => (m2 env st1).bind fun y st2 => inRg neg 0 x y st2
def kInRgE (neg : Bool) (lo : Int) (x : Sl) (r : Res Sl) : Res Sl := r.bind fun y st2 => inRg neg lo x y st2
theorem e_inRg1 : mInRg1 neg m m2 env st = kInRg1 neg m2 env (m env st) := rfl
theorem k_inRg1 : kInRg1 neg m2 env (.ok x st) = kInRgE neg 0 x (m2 env st) := rfl
theorem k_inRgE {i n : Int} : kInRgE neg lo (.v (.int i)) (.ok (.v (.int n)) st) = .ok (.v (.bl (if neg then !decide (lo ≤ i ∧ i < n) else decide (lo ≤ i ∧ i < n)))) st := rfl
def kInRg2 (neg : Bool) (m2 m3 : ME) (env : Mz.Env) (r : Res Sl) : Res Sl := r.bind fun x st1 => (m2 env st1).bind (inRgB neg x m3 env)
def kInRg3 (neg : Bool) (x : Sl) (m3 : ME) (env : Mz.Env) (r : Res Sl) : Res Sl := r.bind (inRgB neg x m3 env)
theorem e_inRg2 : mInRg2 neg m m2 m3 env st = kInRg2 neg m2 m3 env (m env st) := rfl
theorem k_inRg2 : kInRg2 neg m2 m3 env (.ok x st) = kInRg3 neg x m3 env (m2 env st) := rfl
theorem k_inRg3 : kInRg3 neg x m3 env (.ok (.v (.int lo)) st) = kInRgE neg lo x (m3 env st) := rfl
def kDispA (n : Nat) (mv : ME) (env : Mz.Env) (r : Res Sl) : Res Sl := r.bind fun x st1 => (mv env st1).bind fun y st2 => disp1End n x y st2
def kDispB (n : Nat) (x : Sl) (r : Res Sl) : Res Sl := r.bind fun y st2 => disp1End n x y st2
theorem e_disp1 : mDisp1 mk mv env st = kDispA st.l.length mv env (mk env (st.push (.dct [] []))) := rfl
theorem k_dispA : kDispA n mv env (.ok x st) = kDispB n x (mv env st) := rfl
theorem k_dispB : kDispB n x (.ok y st) = disp1End n x y st := rfl
theorem disp1_end {k : Key} (hk : keyOf x = some k) : disp1End st.l.length x (.v w) (st.push (.dct [] [])) = .ok (.l st.l.length) (st.push (.dct [k] [w])) := by
  unfold disp1End
  have e : (st.push (.dct [] [])).l[st.l.length]? = some (.dct [] []) := by unfold Store.push; simp
  rw [hk, e]
  dsimp only
  rw [st_push_set]
def kSetD1 (o i : ME) (env : Mz.Env) (r : Res Sl) : SR := ofR env r fun y st1 => ofR env (o env st1) fun x st2 => ofR env (i env st2) fun k st3 => setD env x k y st3
def kSetD2 (i : ME) (env : Mz.Env) (y : Sl) (r : Res Sl) : SR := ofR env r fun x st2 => ofR env (i env st2) fun k st3 => setD env x k y st3
def kSetD3 (env : Mz.Env) (y x : Sl) (r : Res Sl) : SR := ofR env r fun k st3 => setD env x k y st3
theorem e_setD : mSetD o i e env st = kSetD1 o i env (e env st) := rfl
theorem k_setD1 : kSetD1 o i env (.ok y st) = kSetD2 i env y (o env st) := rfl
theorem k_setD2 : kSetD2 i env y (.ok x st) = kSetD3 env y x (i env st) := rfl
theorem k_setD3 : kSetD3 env y x (.ok k st) = setD env x k y st := rfl
theorem setD_ok {ks : List Key} {ws : List W} {q : Key} (hk : keyOf k = some q) (h : st.l[n]? = some (.dct ks ws)) (hl : ks.length < 16777216) (he : ks.length = ws.length) : setD env (.l n) k (.v w) st = .nx env (st.setl n (.dct (dPut ks ws q w).1 (dPut ks ws q w).2)) := by
  unfold setD
  rw [hk]
  dsimp only
  rw [h]
  dsimp only
  rw [if_pos ⟨hl, he⟩]
theorem din_ok {ks : List Key} {ws : List W} {q : Key} (hk : keyOf k = some q) (h : st.l[n]? = some (.dct ks ws)) : opDin neg k (.l n) st = .ok (.v (.bl (if neg then !(dLook ks ws q).isSome else (dLook ks ws q).isSome))) st := by
  unfold opDin dctOf
  dsimp only
  rw [h, hk]
theorem dx_ok {ks : List Key} {ws : List W} {q : Key} (hk : keyOf k = some q) (h : st.l[n]? = some (.dct ks ws)) (hw : dLook ks ws q = some w) : opDx (.l n) k st = .ok (.v w) st := by
  unfold opDx dctOf
  dsimp only
  rw [h, hk]
  dsimp only
  rw [hw]
end
end Mz

set_option Elab.async false
set_option linter.all false
set_option maxRecDepth 100000
set_option maxHeartbeats 4000000
namespace Mz
open PySem PySem.Spec PySem.Calls PyProof PyProof.Rows L2
/-! ## 59. xs[::-1] that is changed; loops that may end early -/
def revM (x : Sl) (st : Store) : Res Sl := match litems st x with
  | some xs => .ok (.l st.l.length) (st.push (.lst xs.reverse))
  | none => .bad
def mRevM (a : ME) : ME := fun env st => (a env st).bind revM
section
variable {X : Cx} {cl : Nat → Addr} {Wx : WX} {pos : Pos}
theorem ie_revM {e : Expr} {m : ME} {k : Nat} {q1 q2 q3 : Pos} (he : IE X cl Wx e m) : IE X cl Wx (.Subscript e (.Slice none none (some (.UnaryOp .USub (.Constant (.int 1) k q1) q2)) q3) pos) (mRevM m) :=
  pe_weak (pe_revL he) fun σ H Q ⟨env, ρ, G, st, rel, er, q⟩ => ⟨env, ρ, G, st, rel, er, PostR.bind (R1 := Mz.SlR ⟨X.K, cl⟩) q fun x st1 ρ1 G1 H1 u f1 r1 s1 p1 => by
    unfold revM at p1
    split at p1
    · rename_i xs hx
      obtain ⟨a, vs, rfl, hq, hr⟩ := litems_at r1 s1 hx
      refine ⟨a, vs, rfl, hq, fun p hp => ?_⟩
      obtain ⟨f2, r2⟩ := r1.newL (o := .lst vs.reverse) (x := .lst xs.reverse) hp ⟨_, rfl, Reps.reverse hr⟩
      exact p1 _ _ _ _ f2 r2 ⟨p, by show (ρ1.l ++ [p])[st1.l.length]? = some p; rw [← r1.ll]; simp, rfl⟩
    · exact p1.elim⟩
end
def kRevM (r : Res Sl) : Res Sl := r.bind revM
theorem e_revM {a : ME} {env : Mz.Env} {st : Store} : mRevM a env st = kRevM (a env st) := rfl
theorem k_revM {x : Sl} {st : Store} {xs : List W} (h : litems st x = some xs) : kRevM (.ok x st) = .ok (.l st.l.length) (st.push (.lst xs.reverse)) := by
  unfold kRevM Res.bind revM; dsimp only; rw [h]
/-- a while loop that may go on, end, or be left by a return -/
theorem while_gen {t : MT} {b : MS} (I : Nat → Mz.Env → Store → Prop) (Q : SR → Prop) (hs : ∀ n env st, I n env st →
    (t env st = .ok false st ∧ Q (.nx env st)) ∨ (t env st = .ok true st ∧ ((∃ m env2 st2, m < n ∧ (b env st = .nx env2 st2 ∨ b env st = .ct env2 st2) ∧ I m env2 st2) ∨ (∃ s st2, b env st = .rt s st2 ∧ Q (.rt s st2)) ∨ (∃ env2 st2, b env st = .bk env2 st2 ∧ Q (.nx env2 st2))))) (n : Nat) (env : Mz.Env) (st : Store) (h : I n env st) :
    ∃ r, mWhile t b env st = r ∧ Q r := by
  suffices hh : ∀ n env st, I n env st → ∃ k r, whileN t b k env st = some r ∧ Q r by
    obtain ⟨k, r, e, h'⟩ := hh n env st h
    exact ⟨r, mWhile_of e, h'⟩
  intro n
  induction n using Nat.strongRecOn with
  | ind n ih =>
    intro env st h
    rcases hs n env st h with ⟨e, q⟩ | ⟨e, ⟨m, env2, st2, hm, e2, h2⟩ | ⟨s, st2, e2, q⟩ | ⟨env2, st2, e2, q⟩⟩
    · exact ⟨1, _, by unfold whileN; rw [e]; rfl, q⟩
    · obtain ⟨k, r, e3, h3⟩ := ih m hm env2 st2 h2
      refine ⟨k + 1, r, ?_, h3⟩
      unfold whileN
      rw [e]
      dsimp only
      rw [if_pos rfl]
      rcases e2 with e2 | e2 <;> rw [e2] <;> exact e3
    · exact ⟨1, _, by unfold whileN; rw [e]; dsimp only; rw [if_pos rfl, e2], q⟩
    · exact ⟨1, _, by unfold whileN; rw [e]; dsimp only; rw [if_pos rfl, e2], q⟩
/-! what stands in a dict of whole numbers -/
def ikeys (ks : List Int) : List Key := ks.map Sum.inl
theorem dlook_at : ∀ {ks : List Int} {ws : List W} {i : Nat} {k : Int} {w : W}, ks.Nodup → ks[i]? = some k → ws[i]? = some w → dLook (ikeys ks) ws (.inl k) = some w := by
  intro ks
  induction ks with
  | nil => intro ws i k w _ h; cases h
  | cons k' ks ih =>
    intro ws i k w hn h1 h2
    cases ws with
    | nil => cases h2
    | cons w' ws =>
      rw [List.nodup_cons] at hn
      cases i with
      | zero =>
        cases h1; cases h2
        unfold ikeys
        rw [List.map_cons]
        unfold dLook
        rw [if_pos rfl]
      | succ i =>
        have h1 : ks[i]? = some k := h1
        have h2 : ws[i]? = some w := h2
        have ne : ¬ (Sum.inl k' : Key) = .inl k := fun e => hn.1 (Sum.inl.inj e ▸ List.mem_of_getElem? h1)
        show (if (Sum.inl k' : Key) = .inl k then some w' else dLook (ikeys ks) ws (.inl k)) = _
        rw [if_neg ne]
        exact ih hn.2 h1 h2
theorem dlook_no : ∀ {ks : List Int} {ws : List W} {k : Int}, k ∉ ks → dLook (ikeys ks) ws (.inl k) = none := by
  intro ks
  induction ks with
  | nil => intro ws k _; cases ws <;> rfl
  | cons k' ks ih =>
    intro ws k h
    cases ws with
    | nil => rfl
    | cons w' ws =>
      rw [List.mem_cons, not_or] at h
      have ne : ¬ (Sum.inl k' : Key) = .inl k := fun e => h.1 (Sum.inl.inj e).symm
      show (if (Sum.inl k' : Key) = .inl k then some w' else dLook (ikeys ks) ws (.inl k)) = _
      rw [if_neg ne]
      exact ih h.2
theorem dput_new {ks : List Int} {ws : List W} {k : Int} {w : W} (h : k ∉ ks) : dPut (ikeys ks) ws (.inl k) w = (ikeys (ks ++ [k]), ws ++ [w]) := by
  unfold dPut
  rw [if_neg]
  · unfold ikeys; rw [List.map_append]; rfl
  · rw [List.any_eq_true]
    rintro ⟨q, hq, e⟩
    obtain ⟨j, hj, rfl⟩ := List.mem_map.mp hq
    exact h (Sum.inl.inj (of_decide_eq_true e) ▸ hj)
theorem dlook_has {ks : List Int} {ws : List W} {k : Int} (hn : ks.Nodup) (hl : ks.length = ws.length) : (dLook (ikeys ks) ws (.inl k)).isSome = decide (k ∈ ks) := by
  by_cases h : k ∈ ks
  · obtain ⟨i, hi⟩ := List.getElem?_of_mem h
    have hil := (List.getElem?_eq_some_iff.mp hi).1
    rw [dlook_at hn hi (List.getElem?_eq_getElem (by omega : i < ws.length)), decide_eq_true h]; rfl
  · rw [dlook_no h, decide_eq_false h]; rfl
end Mz

set_option Elab.async false
set_option linter.all false
set_option maxRecDepth 100000
set_option maxHeartbeats 4000000
namespace Mz
open PySem PySem.Spec PySem.Calls PyProof.Rows L2
/-! ## own []= that may raise -/
def setOwnX (c : Nat) (F : MF) (env : Mz.Env) (x k y : Sl) (st : Store) : SR := if isCl c st x = true then Mz.ofR env (F [x, k, y] st) (fun _ st4 => .nx env st4) else .bad
def mSetIX (c : Nat) (F : MF) (o i e : ME) : MS := fun env st => Mz.ofR env (e env st) fun y st1 => Mz.ofR env (o env st1) fun x st2 => Mz.ofR env (i env st2) fun k st3 => setOwnX c F env x k y st3
abbrev TSetX := V → V → V → L2.St → Hp → (Hp → Prop) → Prop
def PSetX (X : Cx) (t : TSetX) : Prop :=
  ∀ (pins : List (Addr × Obj)) (s : Shared) (σ : L2.St) (H : Hp) (o i v : V) (ov iv u : Value) (Q : Hp → Prop), Inv X pins σ H s → L2.RelV o ov → L2.RelV i iv → L2.RelV v u → t o i v σ H Q →
    wpAny (model X.prog X.w) X.A (setItem ov iv u) (fun _ s' => ∃ H', Inv X pins σ H' s' ∧ Q H') X.xe s
def gSubX (to ti : TE) (t : TSetX) : TG := fun v σ H Q => to σ H fun o H1 => ti σ H1 fun i H2 => t o i v σ H2 fun H3 => Q σ H3
def rSetOwnX (K : PySem.W.Frag) (cl : Nat → Addr) (Wx : WX) (c : Nat) (F : MF) : TSetX := fun o i v σ H Q => ∃ ρ G st x k y, Rel ⟨K, cl⟩ ρ G H st ∧ Mz.SlR ⟨K, cl⟩ ρ G x o ∧ Mz.SlR ⟨K, cl⟩ ρ G k i ∧ Mz.SlR ⟨K, cl⟩ ρ G y v ∧ isCl c st x = true ∧
  PostR ⟨K, cl⟩ ρ G (Mz.SlR ⟨K, cl⟩) (F [x, k, y] st) (fun _ H' => Q H') (fun d e H' => Wx d e σ H')
section
variable {X : Cx} {cl : Nat → Addr} {Wx : WX} {pos : Pos}
theorem pg_subX {o i : Expr} {to ti : TE} {t : TSetX} (ho : PE X o to) (hi : PE X i ti) (hs : PSetX X t)
    (ha : ∀ v, assign (.Subscript o i pos) X.env v = (do
      let ov ← holding [v] (eval o X.env)
      let iv ← holding [v, ov] (eval i X.env)
      standAt pos
      holding [v, ov, iv] (setItem ov iv v)
      release [v, ov, iv] []) := by intro _; rfl) : PG X (.Subscript o i pos) (gSubX to ti t) := by
  refine ⟨fun pins s σ H v u Q I r h => ?_⟩
  rw [ha]
  refine wpAny_bind (wpAny_holding (thn (ho.run pins s σ H _ I h) fun ov s1 ⟨x, H1, I1, r1, q1⟩ => ?_))
  refine wpAny_bind (wpAny_holding (thn (hi.run pins s1 σ H1 _ I1 q1) fun iv s2 ⟨y, H2, I2, r2, q2⟩ => ?_))
  refine wpAny_bind (wpAny_standAt (wpAny_bind (wpAny_holding (thn (hs pins s2 σ H2 x y v ov iv u _ I2 r1 r2 r q2) fun _ s3 ⟨H3, I3, q3⟩ => ?_))))
  exact wpAny_release ⟨σ, H3, I3, q3⟩
theorem set_ownX {F : MF} {k c : Nat} {g : Addr} {fd : FuncData} {ps : List Str} (hq : PySem.W.noSeq X.K (cl c) = true) (hs : PySem.W.findIn X.K (.ref (cl c)) "__setitem__" = some (some (.ref g))) (hf : PySem.W.isFn X.K (.ref g) = true)
    (hF : FnOk X.prog X.w X.K X.mg X.base (L2.CX X.prog X.w) k g fd ps (spM ⟨X.K, cl⟩ 3 F)) (tk : Takes X Wx) (hr : Room k X.A) (hb : Binds X.K fd ps []) : PSetX X (rSetOwnX X.K cl Wx c F) := by
  intro pins s σ H o i v ov iv u Q I ro ri rv h
  obtain ⟨ρ, G, st, x, kk, y, rel, hx, hk, hy, hi, p⟩ := h
  obtain ⟨a, dx, fs, rfl, hH⟩ := isCl_at rel hx hi
  cases ro
  obtain ⟨mA, J, _⟩ := ins_get I.hok hH
  obtain ⟨od, J, _⟩ := J.look
  obtain ⟨m, hFr⟩ := I.fr
  have sp : spM ⟨X.K, cl⟩ 3 F [.ref a, i, v] H (fun _ H' => Q H') (fun d e H' => Wx d e σ H') := ⟨ρ, G, st, [x, kk, y], rel, ⟨_, _, rfl, hx, _, _, rfl, hk, _, _, rfl, hy, rfl⟩, rfl, p⟩
  have rv3 : Vals [V.ref a, i, v] [Value.ref a, iv, u] := .cons rfl (.cons ri (.cons rv .nil))
  have hl : ([Value.ref a, iv, u]).length = ps.length := by rw [← rv3.length]; exact hF.len _ _ _ _ sp
  have bb := hb s [.ref a, iv, u] I.kIn (by rw [List.append_nil]; exact hl)
  rw [List.append_nil] at bb
  refine PySem.W.ksp_setItem hFr I.ok.mod.kin J hq hs hf ?_
  refine wpAny_call (codeAny_mono (hF.run X.A X.stack s H ⟨[.ref a, iv, u], []⟩ _ _ _ _ hr I.env0 bb rv3 sp) fun r s' hq' => ?_)
  cases r with
  | error e => exact passAt tk σ pins _ _ e s' I hq'
  | ok fl =>
    cases fl with
    | ret u2 =>
      obtain ⟨_, H', I', _, q'⟩ := I.after hq'
      exact ⟨H', I', q'⟩
    | next => exact False.elim hq'
    | brk => exact False.elim hq'
    | cont => exact False.elim hq'
end
section
variable {X : Cx} {cl : Nat → Addr} {Wx : WX} {pos : Pos} {e o i : Expr} {me mo mi : ME}
theorem is_setIX {c : Nat} {F : MF} {p2 : Pos} (he : IE X cl Wx e me) (ho : IE X cl Wx o mo) (hi : IE X cl Wx i mi) (hg : PG X (.Subscript o i p2) (gSubX (tM ⟨X.K, cl⟩ Wx mo) (tM ⟨X.K, cl⟩ Wx mi) (rSetOwnX X.K cl Wx c F))) (hs : swapsWithSole [.Subscript o i p2] e pos.line X.env = pure false := by rfl) (hw : swappedStores [.Subscript o i p2] e X.env = pure none := by rfl)
    (h1 : List.map (fun x => x.snd) (assignEach [.Subscript o i p2] X.env) = [assign (.Subscript o i p2) X.env] := by rfl) : IS X cl Wx (.Assign [.Subscript o i p2] e pos) (mSetIX c F mo mi me) :=
  ps_weak (ps_asg he hg hs hw (h1 := h1)) fun D σ H ⟨env, ρ, G, st, r, er, p⟩ => ⟨env, ρ, G, st, r, er, PostS.ofR (R := Mz.SlR ⟨X.K, cl⟩) er p fun y st1 ρ1 G1 H1 u f1 r1 s1 p1 =>
    ⟨env, ρ1, G1, st1, r1, er.mono f1, PostS.ofR (R := Mz.SlR ⟨X.K, cl⟩) (er.mono f1) p1 fun x st2 ρ2 G2 H2 v f2 r2 s2 p2 =>
      ⟨env, ρ2, G2, st2, r2, (er.mono f1).mono f2, PostS.ofR (R := Mz.SlR ⟨X.K, cl⟩) ((er.mono f1).mono f2) p2 fun k st3 ρ3 G3 H3 z f3 r3 s3 p3 => by
        unfold setOwnX at p3
        split at p3
        case isFalse => exact p3.elim
        rename_i hc
        exact ⟨ρ3, G3, st3, x, k, y, r3, s2.mono f3, s3, (s1.mono f2).mono f3, hc, PostS.ofR (R := Mz.SlR ⟨X.K, cl⟩) (((er.mono f1).mono f2).mono f3) p3 fun w st4 ρ4 G4 H4 z4 f4 r4 s4 p4 =>
          PostS.nx p4 r4 ((((er.mono f1).mono f2).mono f3).mono f4)⟩⟩⟩⟩
end
/-! small steps -/
def kSetX1 (c : Nat) (F : MF) (o i : ME) (env : Mz.Env) (r : Res Sl) : SR := Mz.ofR env r fun y st1 => Mz.ofR env (o env st1) fun x st2 => Mz.ofR env (i env st2) fun k st3 => setOwnX c F env x k y st3
def kSetX2 (c : Nat) (F : MF) (i : ME) (env : Mz.Env) (y : Sl) (r : Res Sl) : SR := Mz.ofR env r fun x st2 => Mz.ofR env (i env st2) fun k st3 => setOwnX c F env x k y st3
def kSetX3 (c : Nat) (F : MF) (env : Mz.Env) (y x : Sl) (r : Res Sl) : SR := Mz.ofR env r fun k st3 => setOwnX c F env x k y st3
def kSetX4 (env : Mz.Env) (r : Res Sl) : SR := Mz.ofR env r (fun _ st4 => .nx env st4)
theorem e_setIX {c : Nat} {F : MF} {o i e : ME} {env : Mz.Env} {st : Store} : mSetIX c F o i e env st = kSetX1 c F o i env (e env st) := rfl
theorem k_setX1 {c : Nat} {F : MF} {o i : ME} {env : Mz.Env} {y : Sl} {st : Store} : kSetX1 c F o i env (.ok y st) = kSetX2 c F i env y (o env st) := rfl
theorem k_setX2 {c : Nat} {F : MF} {i : ME} {env : Mz.Env} {y x : Sl} {st : Store} : kSetX2 c F i env y (.ok x st) = kSetX3 c F env y x (i env st) := rfl
theorem k_setX3 {c : Nat} {F : MF} {env : Mz.Env} {y x k : Sl} {st : Store} (h : isCl c st x = true) : kSetX3 c F env y x (.ok k st) = kSetX4 env (F [x, k, y] st) := by
  show setOwnX c F env x k y st = _
  unfold setOwnX; rw [if_pos h]; rfl
theorem k_setX4 {env : Mz.Env} {r : Sl} {st : Store} : kSetX4 env (.ok r st) = .nx env st := rfl
theorem k_setX4_ex {env : Mz.Env} {c : Nat} {ns : List Str} {ws : List W} {st : Store} : kSetX4 env (.ex c ns ws st) = .ex c ns ws env st := rfl
end Mz

set_option Elab.async false
set_option linter.all false
set_option maxRecDepth 100000
set_option maxHeartbeats 4000000
namespace Mz
open PySem PySem.Spec PyProof.Rows L2
/-! ## a dict of texts of the module; cls.m(..) -/
def GDct (K : PySem.W.Frag) (w : World) (a : Addr) (ps : List (Str × Str)) : Prop := ∃ es n, KDict K w a es n ∧ ∀ z, match ps.lookup z with
  | some y => ∃ t, PySem.W.nsIn K a z = some (some (.str y t))
  | none => PySem.W.nsIn K a z = some none
def entG (P : Params) (p : Str × Str) (t : Tok × Tok) : DictEntry := ⟨PyData.keyHash P p.1, .str p.1 t.1, .str p.2 t.2⟩
theorem entG_lit {P : Params} : ∀ (ps : List (Str × Str)) (ts : List (Tok × Tok)), PySem.W.KeysLit P (List.zipWith (entG P) ps ts)
  | [], _ => trivial
  | _ :: _, [] => trivial
  | p :: ps, t :: ts => ⟨⟨p.1, t.1, rfl, rfl⟩, entG_lit ps ts⟩
theorem entG_any {P : Params} : ∀ (ps : List (Str × Str)) (ts : List (Tok × Tok)), (List.zipWith (entG P) ps ts).any (·.refKey) = false
  | [], _ => rfl
  | _ :: _, [] => rfl
  | p :: ps, t :: ts => by rw [List.zipWith_cons_cons, List.any_cons, entG_any ps ts]; rfl
theorem entG_find {P : Params} {z : Str} : ∀ (ps : List (Str × Str)) (ts : List (Tok × Tok)), ps.length = ts.length → match ps.lookup z with
    | some y => ∃ h x t, (List.zipWith (entG P) ps ts).find? (·.key.isStr z) = some ⟨h, x, .str y t⟩
    | none => (List.zipWith (entG P) ps ts).find? (·.key.isStr z) = none
  | [], _, _ => rfl
  | _ :: _, [], h => by cases h
  | p :: ps, t :: ts, h => by
    have ih := entG_find (P := P) (z := z) ps ts (Nat.succ.inj h)
    rw [List.zipWith_cons_cons, List.lookup_cons]
    by_cases e : z = p.1
    · rw [show (z == p.1) = true by rw [e]; exact beq_self_eq_true _]
      dsimp only
      refine ⟨PyData.keyHash P p.1, .str p.1 t.1, t.2, ?_⟩
      rw [List.find?_cons]
      rw [show (entG P p t).key.isStr z = true by show (p.1 == z) = true; rw [e]; exact beq_self_eq_true _]
      rfl
    · rw [show (z == p.1) = false from beq_eq_false_iff_ne.mpr e]
      dsimp only
      rw [List.find?_cons, show (entG P p t).key.isStr z = false from beq_eq_false_iff_ne.mpr (fun q => e q.symm)]
      exact ih
theorem gdct_of {K : PySem.W.Frag} {w : World} {a : Addr} {ps : List (Str × Str)} {ts : List (Tok × Tok)} {n : Nat} (h : K.lookup a = some ⟨.type "dict", none, .dict (List.zipWith (entG w.params) ps ts).toArray n, #[]⟩) (hl : ps.length = ts.length) (low : (a == sysModules) = false) : GDct K w a ps := by
  refine ⟨_, n, ⟨h, by rw [List.toList_toArray]; exact entG_lit ps ts, low⟩, fun z => ?_⟩
  have hf := entG_find (P := w.params) (z := z) ps ts hl
  have ns : ∀ r, (List.zipWith (entG w.params) ps ts).find? (·.key.isStr z) = r → PySem.W.nsIn K a z = match r with
      | some e => some (some e.val)
      | none => some none := fun r hr => by
    unfold PySem.W.nsIn
    rw [h]
    dsimp only
    rw [hr]
    cases r with
    | some e => rfl
    | none =>
      dsimp only
      rw [if_neg]
      have q := entG_any (P := w.params) ps ts
      exact fun z => by
        have : (true : Bool) = false := z.symm.trans q
        cases this
  cases q : ps.lookup z with
  | some y =>
    rw [q] at hf
    obtain ⟨_, _, t, e⟩ := hf
    exact ⟨t, ns _ e⟩
  | none =>
    rw [q] at hf
    exact ns _ hf
def inG (neg : Bool) (ps : List (Str × Str)) (s : Sl) (st : Store) : Res Sl := match s with
  | .v (.str z) => .ok (.v (.bl (if neg then !(ps.lookup z).isSome else (ps.lookup z).isSome))) st
  | _ => .bad
def ixG (ps : List (Str × Str)) (s : Sl) (st : Store) : Res Sl := match s with
  | .v (.str z) => (match ps.lookup z with
    | some y => .ok (.v (.str y)) st
    | none => .bad)
  | _ => .bad
def mInG (neg : Bool) (ps : List (Str × Str)) (m : ME) : ME := fun env st => (m env st).bind (inG neg ps)
def mIxG (ps : List (Str × Str)) (m : ME) : ME := fun env st => (m env st).bind (ixG ps)
section
variable {X : Cx} {cl : Nat → Addr} {Wx : WX} {x : Str} {pos pos' : Pos} {e : Expr} {m : ME} {a : Addr} {ps : List (Str × Str)}
def rInG (K : PySem.W.Frag) (d : Addr) (neg : Bool) : R2 := fun x y H Q => ∃ (z : Str) (r : Option Value), x = .str z ∧ y = .ref d ∧ PySem.W.nsIn K d z = some r ∧ Q (.bl (if neg then !r.isSome else r.isSome)) H
theorem tM_inG {neg : Bool} (D : GDct X.K X.w a ps) : ∀ σ H Q, tM ⟨X.K, cl⟩ Wx (mInG neg ps m) σ H Q → tOp (rInG X.K a neg) (tM ⟨X.K, cl⟩ Wx m) (tC (.ref a)) σ H Q := fun σ H Q ⟨env, ρ, G, st, rel, er, p⟩ =>
  ⟨env, ρ, G, st, rel, er, p.bind fun x st1 ρ1 G1 H1 u f1 r1 s1 p1 => by
    unfold inG at p1
    split at p1
    · rename_i z
      have hu : u = .str z := by unfold Mz.SlR Rep at s1; exact s1
      subst hu
      obtain ⟨es, n, kd, hz⟩ := D
      have hz := hz z
      cases q : ps.lookup z with
      | some y =>
        rw [q] at hz p1
        obtain ⟨t, e⟩ := hz
        exact ⟨z, _, rfl, rfl, e, p1.give r1 (by unfold Mz.SlR Rep; cases neg <;> rfl)⟩
      | none =>
        rw [q] at hz p1
        exact ⟨z, _, rfl, rfl, hz, p1.give r1 (by unfold Mz.SlR Rep; cases neg <;> rfl)⟩
    · exact p1.elim⟩
theorem it_inG (neg : Bool) (D : GDct X.K X.w a ps) (hg : Gl X x) (hm : X.mg x = some (.ref a)) (ha : IE X cl Wx e m) (hd : (x == ("__debug__" : Str)) = false := by decide) (hb : behindInMarks (if neg then .NotIn else .In) (.Name x pos') = false := by rfl) :
    IT X cl Wx (.Compare e [if neg then .NotIn else .In] [.Name x pos'] pos) (mTest (mInG neg ps m)) := by
  have ho : OpR X (compareOp (if neg then .NotIn else .In)) (rInG X.K a neg) := by
    obtain ⟨es, n, kd, _⟩ := D
    cases neg with
    | false => exact op_in_kd kd
    | true => exact op_notIn_kd kd
  refine pt_weak (pt_cmpR ho ha (pe_glob (v := .ref a) hg hm rfl hd) hb) fun σ H Q ⟨env, ρ, G, st, rel, er, p⟩ => tM_inG D σ H _ ⟨env, ρ, G, st, rel, er, p.bind fun x st1 ρ1 G1 H1 u f1 r1 s1 p1 => ?_⟩
  obtain ⟨k, h1, h2⟩ := PostR.tru (k := fun b st => .ok b st) (by
    have e : ((Mz.tru x st1).bind fun b st => Res.ok b st) = Mz.tru x st1 := by cases Mz.tru x st1 <;> rfl
    rw [e]; exact p1) s1
  exact ⟨k, h1, h2.give r1 rfl⟩
theorem ie_ixG (D : GDct X.K X.w a ps) (hg : Gl X x) (hm : X.mg x = some (.ref a)) (ha : IE X cl Wx e m) (hd : (x == ("__debug__" : Str)) = false := by decide) (hp : PlainIx e := by intro _ _; rfl) :
    IE X cl Wx (.Subscript (.Name x pos') e pos) (mIxG ps m) :=
  pe_weak (pe_ix ix_kdict (pe_glob (v := .ref a) hg hm rfl hd) ha hp) fun σ H Q ⟨env, ρ, G, st, rel, er, p⟩ => ⟨env, ρ, G, st, rel, er, p.bind fun x st1 ρ1 G1 H1 u f1 r1 s1 p1 => by
    unfold ixG at p1
    split at p1
    · rename_i z
      have hu : u = .str z := by unfold Mz.SlR Rep at s1; exact s1
      subst hu
      obtain ⟨es, n, kd, hz⟩ := D
      have hz := hz z
      split at p1
      · rename_i y q
        rw [q] at hz
        obtain ⟨t, e⟩ := hz
        exact ⟨a, z, .str y, rfl, rfl, ⟨es, n, _, kd.at_, kd.lit, e, ⟨t, rfl⟩⟩, p1.give r1 (by unfold Mz.SlR Rep; rfl)⟩
      · exact p1.elim
    · exact p1.elim⟩
end
/-! cls.m(..): the class in slot i -/
section
variable {X : Cx} {cl : Nat → Addr} {Wx : WX} {pos p apos : Pos} {f x : Str}
noncomputable def mCMethL (i c : Nat) (F : MF) (a : MA) : ME := fun env st => match env[i]? with
  | some (some (.v (.cls c'))) => if c' = c then mCMeth c F a env st else .bad
  | _ => .bad
theorem ie_cmethL {F : MF} {k n c i : Nat} {g pr : Addr} {mc : Value} {fd : FuncData} {ps : List Str} {mm : Str} {e1 : Expr} {es : List Expr} {ra : MA} {pl : Sem Bool} (r : ClX.CRead X.K (cl c) mc) (ct : ClX.CMet X.K (cl c) mc mm pr g)
    (hF : FnOk X.prog X.w X.K X.mg X.base (L2.CX X.prog X.w) k g fd ps (spM ⟨X.K, cl⟩ n F)) (hn : Ar F n) (tk : Takes X Wx) (hr : Room k X.A) (hb : Binds X.K fd ps []) (hN : X.N[i]? = some x) (hv : Vis X.env.scope x) (ha : IA X cl Wx (e1 :: es) ra) (hdb : (x == ("__debug__" : Str)) = false := by decide) (hcd : (x == ("__classdict__" : Str)) = false := by decide)
    (hst : starEach (e1 :: es) X.env = (false, eval e1 X.env) :: starEach es X.env := by rfl) (hpl : (backTo pos (starEach es X.env)).any (·.1) = false := by rfl)
    (ht : eval (.Call (.Attribute (.Name x p) mm apos) (e1 :: es) [] pos) X.env = (do
      let ov ← eval (.Name x p) X.env
      standAt apos.atName
      let (f, first) ← holding [ov] (getMethod ov mm pl)
      callWith pos f first (backTo pos (starEach (e1 :: es) X.env)) (backToKw pos (keywordEach [] X.env))) := by rfl) :
    IE X cl Wx (.Call (.Attribute (.Name x p) mm apos) (e1 :: es) [] pos) (mCMethL i c F ra) := by
  refine ⟨fun pins s σ H Q I h => ?_⟩
  obtain ⟨env, ρ, G, st, rel, er, q⟩ := h
  have hi : env[i]? = some (some (.v (.cls c))) ∧ PostR ⟨X.K, cl⟩ ρ G (Mz.SlR ⟨X.K, cl⟩) (mCMeth c F ra env st) Q (fun c d H' => Wx c d σ H') := by
    unfold mCMethL at q
    split at q
    · rename_i c' hc
      split at q
      · rename_i hcc
        subst hcc
        exact ⟨hc, q⟩
      · exact q.elim
    · exact q.elim
  obtain ⟨u0, hu0, hs0⟩ := er.2 i _ hi.1
  have hu : u0 = .ref (cl c) := by unfold Mz.SlR Rep at hs0; exact hs0
  subst hu
  have q := hi.2
  have h2 : tL ⟨X.K, cl⟩ Wx ra σ H (fun us H2 => spM ⟨X.K, cl⟩ n F (.ref (cl c) :: us) H2 Q (fun c d H' => Wx c d σ H')) :=
    ⟨env, ρ, G, st, rel, er, PostR.bind (R1 := SlRs ⟨X.K, cl⟩) q fun xs st2 ρ2 G2 H2 us f2 r2 s2 p2 => sp_of (xs := .v (.cls c) :: xs) hn r2 ⟨_, us, rfl, (by unfold Mz.SlR Rep; rfl), s2⟩ p2⟩
  refine PySem.W.methodCall_KW (pl := pl) (thn ((pe_var (pos := p) hN hv hdb hcd).run pins s σ H (fun v H1 => v = .ref (cl c) ∧ H1 = H) I ⟨_, hu0, rfl, rfl⟩) ?_) ht
  rintro u s1 ⟨v, H1, I1, rx, rfl, rfl⟩
  obtain rfl : u = Value.ref (cl c) := rx
  refine ClX.getmethcm_ok I1 r ct fun s2 I2 => ?_
  refine ClX.callwith_cm I2 (ClX.base_none I1 (Nat.le_refl _)) ct.fi (thn (ha.run pos _ s2 σ _ _ I2 h2) ?_) hst hpl
  rintro us s3 ⟨vs, H2, I3, rv, q2⟩
  refine ⟨⟨ClX.pin_at I3, I3.kIn⟩, ?_⟩
  have z : wpAny (model X.prog X.w) X.A (call (.ref s1.heap.objs.size) us) (EP X ((s1.heap.objs.size, PySem.W.methodObj (.ref g) (.ref (cl c))) :: pins) σ Q) X.xe s3 := by
    have r2 : Vals (V.ref (cl c) :: vs) (Value.ref (cl c) :: us) := .cons rfl rv
    have hl : (Value.ref (cl c) :: us).length = ps.length := by rw [← r2.length]; exact hF.len _ _ _ _ q2
    have bb := hb s3 (Value.ref (cl c) :: us) I3.kIn (by rw [List.append_nil]; exact hl)
    rw [List.append_nil] at bb
    refine wpAny_call (PySem.W.method_call (ClX.pin_at I3) (codeAny_mono (hF.run X.A X.stack s3 H2 ⟨Value.ref (cl c) :: us, []⟩ _ _ Q _ hr I3.env0 bb r2 q2) fun r s' hq => ?_))
    cases r with
    | error er => exact passAt tk σ _ _ _ er s' I3 hq
    | ok fl =>
      cases fl with
      | ret u => exact I3.after hq
      | next => exact False.elim hq
      | brk => exact False.elim hq
      | cont => exact False.elim hq
  exact thn z fun _ _ y => ClX.unpinE y
end
/-! small steps -/
section
variable {env : Mz.Env} {st : Store} {m : ME} {ps : List (Str × Str)} {neg : Bool} {z y : Str}
def kInG (neg : Bool) (ps : List (Str × Str)) (r : Res Sl) : Res Sl := r.bind (inG neg ps)
def kIxG (ps : List (Str × Str)) (r : Res Sl) : Res Sl := r.bind (ixG ps)
theorem e_inG : mInG neg ps m env st = kInG neg ps (m env st) := rfl
theorem k_inG : kInG neg ps (.ok (.v (.str z)) st) = .ok (.v (.bl (if neg then !(ps.lookup z).isSome else (ps.lookup z).isSome))) st := rfl
theorem e_ixG : mIxG ps m env st = kIxG ps (m env st) := rfl
theorem k_ixG (h : ps.lookup z = some y) : kIxG ps (.ok (.v (.str z)) st) = .ok (.v (.str y)) st := by
  show ixG ps (.v (.str z)) st = _
  unfold ixG; dsimp only; rw [h]
theorem e_cmethL {i c : Nat} {F : MF} {a : MA} (h : env[i]? = some (some (.v (.cls c)))) : mCMethL i c F a env st = mCMeth c F a env st := by
  unfold mCMethL; rw [h]; dsimp only; rw [if_pos rfl]
end
end Mz

set_option Elab.async false
set_option linter.all false
set_option maxRecDepth 100000
set_option maxHeartbeats 4000000
namespace K14
open PySem Mz

abbrev N_law_take : List Str := ["_law_pool_here", "_law_many", "_law_digit", "_law_mixed"]
noncomputable def b_law_take : MS :=
    (mSeq (mSetI (mVar 0) (mC (.int 2)) (mOp opAdd (mOp opIx (mVar 0) (mC (.int 2))) (mC (.int 1))))
    (mSeq (mIfS (mTest (mOp opGt (mOp opIx (mVar 0) (mC (.int 0))) (mC (.int 0))))
    (mSeq (mAsg 2 (mOp opMod (mCall fInt (mCons (mOp opIx (mVar 0) (mC (.int 0))) mNil)) (mVar 1)))
    (mSeq (mSetI (mVar 0) (mC (.int 0)) (mOp opDiv (mOp opIx (mVar 0) (mC (.int 0))) (mVar 1)))
    (mRet (mVar 2))))
    mPass)
    (mSeq (mAsg 3 (mOp opMod (mCall fInt (mCons (mOp opMul (mOp opAdd (mOp opIx (mVar 0) (mC (.int 1))) (mOp opMul (mC (.int 7919)) (mOp opIx (mVar 0) (mC (.int 2))))) (mC (.int 48271))) mNil)) (mC (.int 2147483647))))
    (mSeq (mAsg 3 (mOp opMod (mCall fInt (mCons (mOp opAdd (mOp opMul (mVar 3) (mC (.int 69621))) (mOp opMul (mC (.int 40692)) (mOp opIx (mVar 0) (mC (.int 2))))) mNil)) (mC (.int 2147483399))))
    (mRet (mOp opMod (mCall fInt (mCons (mOp opDiv (mVar 3) (mC (.int 7))) mNil)) (mVar 1)))))))
noncomputable def m_law_take : MF := mFn 2 4 .tr b_law_take
abbrev N_law_car : List Str := ["_law_pool_here", "_law_longest", "_law_stay", "_law_need", "_law_left", "_law_most"]
noncomputable def b_law_car : MS :=
    (mSeq (mAsg 2 (mOp opAdd (mC (.int 1)) (mCall m_law_take (mCons (mVar 0) (mCons (mVar 1) mNil)))))
    (mSeq (mAsg 3 (mOp opAdd (mC (.int 1)) (mCall m_law_take (mCons (mVar 0) (mCons (mVar 2) mNil)))))
    (mSeq (mAsg 4 (mOp opAdd (mC (.int 1)) (mCall m_law_take (mCons (mVar 0) (mCons (mVar 2) mNil)))))
    (mSeq (mAsg 5 (mOp opAdd (mOp opSub (mVar 2) (mVar 4)) (mC (.int 1))))
    (mSeq (mIfS (mTest (mOp opLt (mVar 3) (mVar 5)))
    (mAsg 5 (mVar 3))
    mPass)
    (mRet (mTup (mCons (mVar 2) (mCons (mVar 3) (mCons (mVar 4) (mCons (mOp opSub (mVar 3) (mCall m_law_take (mCons (mVar 0) (mCons (mVar 5) mNil)))) mNil)))))))))))
noncomputable def m_law_car : MF := mFn 2 6 .tr b_law_car
abbrev N_law_cell : List Str := ["_law_script", "_law_at"]
noncomputable def b_law_cell : MS :=
    (mSeq (mIfS (mTest (mOp opLt (mVar 1) (mCall fLen (mCons (mVar 0) mNil))))
    (mRet (mCall fAbs (mCons (mCall fInt (mCons (mOp opIx (mVar 0) (mVar 1)) mNil)) mNil)))
    mPass)
    (mRet (mC (.int 0))))
noncomputable def m_law_cell : MF := mFn 2 2 .tr b_law_cell
abbrev N_Ruleu_iteru : List Str := ["self"]
abbrev N_Ruleu_lenu : List Str := ["self"]
noncomputable def b_Ruleu_lenu : MS :=
    (mRet (mCall fLen (mCons (mAttr [2] "terms" (mVar 0)) mNil)))
noncomputable def m_Ruleu_lenu : MF := mFn 1 1 .tr b_Ruleu_lenu
abbrev N_Ruleu_initu : List Str := ["self", "terms", "side", "word", "earlier", "place"]
noncomputable def ce_Ruleu_initu_1 : ME :=
    (mTup (mCons (mVar 2) (mCons (mVar 3) mNil)))
noncomputable def lb_Ruleu_initu_1 : MS :=
    (mSeq (mIfS (mOr (mTest (mOp (opIn true) (mVar 2) (mC (.tup [.str (PySem.Str.ofString "least"), .str (PySem.Str.ofString "most")])))) (mOr (mTest (mOp (opIn true) (mVar 3) (mC (.tup [.str (PySem.Str.ofString "stay"), .str (PySem.Str.ofString "need"), .str (PySem.Str.ofString "left"), .str (PySem.Str.ofString "want"), .str (PySem.Str.ofString "here"), .str (PySem.Str.ofString "got"), .str (PySem.Str.ofString "slack")])))) (mTest (mOp (opIn false) (mVar 3) (mVar 4)))))
    (mRaise1 22 "place" (mVar 5))
    mPass)
    (mDrop (mLm lmAppend (mVar 4) (mCons (mVar 3) mNil))))
noncomputable def b_Ruleu_initu : MS :=
    (mSeq (mSetA [2] "terms" (mVar 0) (mCall fTuple (mCons (mLc (mItS (mVar 1)) (.tp [(.nm 2), (.nm 3)]) mYes ce_Ruleu_initu_1 [2, 3]) mNil)))
    (mSeq (mAsg 4 (mLstM mNil))
    (mFor (mItE (mCons (mAttr [2] "terms" (mVar 0)) mNil)) (.tp [(.nm 5), (.tp [(.nm 2), (.nm 3)])]) lb_Ruleu_initu_1)))
noncomputable def m_Ruleu_initu : MF := mFn 2 6 .ini b_Ruleu_initu
abbrev N_Rule_parse : List Str := ["cls", "text", "terms", "part", "words"]
noncomputable def lb_Rule_parse_1 : MS :=
    (mSeq (mAsg 4 (mSplit (mVar 3) (mC (.str (PySem.Str.ofString " ")))))
    (mDrop (mLm lmAppend (mVar 2) (mCons (mIf (mTest (mOp (opEq false) (mCall fLen (mCons (mVar 4) mNil)) (mC (.int 2)))) (mTup (mCons (mOp opIx (mVar 4) (mC (.int 0))) (mCons (mOp opIx (mVar 4) (mC (.int 1))) mNil))) (mTup (mCons (mC (.str (PySem.Str.ofString ""))) (mCons (mC (.str (PySem.Str.ofString ""))) mNil)))) mNil))))
noncomputable def b_Rule_parse : MS :=
    (mSeq (mIfS (mTest (mOp (opEq false) (mVar 1) (mC (.str (PySem.Str.ofString "first come")))))
    (mRet (mMakeL 0 2 m_Ruleu_initu (mCons (mTup mNil) mNil)))
    mPass)
    (mSeq (mAsg 2 (mLstM mNil))
    (mSeq (mFor (mItS (mSplit (mVar 1) (mC (.str (PySem.Str.ofString ", "))))) (.nm 3) lb_Rule_parse_1)
    (mRet (mMakeL 0 2 m_Ruleu_initu (mCons (mVar 2) mNil))))))
noncomputable def m_Rule_parse : MF := mFn 2 5 .tr b_Rule_parse
abbrev N_Rule_named : List Str := ["cls", "name"]
noncomputable def b_Rule_named : MS :=
    (mSeq (mIfS (mTest (mInG true [(PySem.Str.ofString "equal", PySem.Str.ofString "least got"), (PySem.Str.ofString "first come", PySem.Str.ofString "first come"), (PySem.Str.ofString "least slack", PySem.Str.ofString "least slack"), (PySem.Str.ofString "first leave", PySem.Str.ofString "least left")] (mVar 1)))
    (mRaise1 22 "place" (mC (.int 0)))
    mPass)
    (mRet (mCMethL 0 2 m_Rule_parse (mCons (mIxG [(PySem.Str.ofString "equal", PySem.Str.ofString "least got"), (PySem.Str.ofString "first come", PySem.Str.ofString "first come"), (PySem.Str.ofString "least slack", PySem.Str.ofString "least slack"), (PySem.Str.ofString "first leave", PySem.Str.ofString "least left")] (mVar 1)) mNil))))
noncomputable def m_Rule_named : MF := mFn 2 2 .tr b_Rule_named
abbrev N_measure : List Str := ["car", "word", "stay", "need", "left", "want", "measures"]
noncomputable def b_measure : MS :=
    (mSeq (mAsgP (.tp [(.nm 2), (.nm 3), (.nm 4), (.nm 5)]) (mVar 0))
    (mSeq (mAsg 6 (mDisp [PySem.Str.ofString "stay", PySem.Str.ofString "need", PySem.Str.ofString "left", PySem.Str.ofString "want", PySem.Str.ofString "here", PySem.Str.ofString "got", PySem.Str.ofString "slack"] [(mVar 2), (mVar 3), (mVar 4), (mVar 5), (mOp opSub (mVar 2) (mVar 4)), (mOp opSub (mVar 3) (mVar 5)), (mOp opSub (mVar 4) (mVar 5))]))
    (mRet (mOp opDx (mVar 6) (mVar 1)))))
noncomputable def m_measure : MF := mFn 2 7 .tr b_measure
abbrev N_Ruleu_callu : List Str := ["self", "car", "numbers", "side", "word", "number"]
noncomputable def lb_Ruleu_callu_1 : MS :=
    (mSeq (mAsg 5 (mCall m_measure (mCons (mVar 1) (mCons (mVar 4) mNil))))
    (mDrop (mLm lmAppend (mVar 2) (mCons (mIf (mTest (mOp (opEq false) (mVar 3) (mC (.str (PySem.Str.ofString "least"))))) (mVar 5) (mUn opNeg (mVar 5))) mNil))))
noncomputable def b_Ruleu_callu : MS :=
    (mSeq (mAsg 2 (mLstM mNil))
    (mSeq (mFor (mItS (mAttr [2] "terms" (mVar 0))) (.tp [(.nm 3), (.nm 4)]) lb_Ruleu_callu_1)
    (mRet (mCall fTuple (mCons (mVar 2) mNil)))))
noncomputable def m_Ruleu_callu : MF := mFn 2 6 .tr b_Ruleu_callu
abbrev N_Rule_order : List Str := ["self", "cars"]
noncomputable def ky_Rule_order_1 : ME :=
    (mTup (mCons (mCallO 2 m_Ruleu_callu 0 (mCons (mOp opIx (mVar 1) (mVar 2)) mNil)) (mCons (mVar 2) mNil)))
noncomputable def b_Rule_order : MS :=
    (mRet (mSortK (mCons (mLRg1 false (mCall fLen (mCons (mVar 1) mNil))) mNil) ky_Rule_order_1))
noncomputable def m_Rule_order : MF := mFn 2 2 .tr b_Rule_order
abbrev N_Rule_serve : List Str := ["self", "cars", "width"]
noncomputable def b_Rule_serve : MS :=
    (mRet (mCall fSortA (mCons (mSl (mMeth 2 "order" m_Rule_order (mVar 0) (mCons (mVar 1) mNil)) mNo (mPart (mVar 2))) mNil)))
noncomputable def m_Rule_serve : MF := mFn 3 3 .tr b_Rule_serve
abbrev N_law_ahead : List Str := ["_law_one", "_law_two", "_law_k"]
noncomputable def lb_law_ahead_1 : MS :=
    (mIfS (mTest (mOp (opEq true) (mOp opIx (mVar 0) (mVar 2)) (mOp opIx (mVar 1) (mVar 2))))
    (mRet (mOp opLt (mOp opIx (mVar 0) (mVar 2)) (mOp opIx (mVar 1) (mVar 2))))
    mPass)
noncomputable def b_law_ahead : MS :=
    (mSeq (mFor (mItR1 (mCons (mCall fLen (mCons (mVar 0) mNil)) mNil)) (.nm 2) lb_law_ahead_1)
    (mRet (mC (.bl false))))
noncomputable def m_law_ahead : MF := mFn 2 3 .tr b_law_ahead
abbrev N_law_measure : List Str := ["_law_car_here", "_law_word"]
noncomputable def b_law_measure : MS :=
    (mSeq (mIfS (mTest (mOp (opEq false) (mVar 1) (mC (.str (PySem.Str.ofString "stay")))))
    (mRet (mOp opIx (mVar 0) (mC (.int 0))))
    mPass)
    (mSeq (mIfS (mTest (mOp (opEq false) (mVar 1) (mC (.str (PySem.Str.ofString "need")))))
    (mRet (mOp opIx (mVar 0) (mC (.int 1))))
    mPass)
    (mSeq (mIfS (mTest (mOp (opEq false) (mVar 1) (mC (.str (PySem.Str.ofString "left")))))
    (mRet (mOp opIx (mVar 0) (mC (.int 2))))
    mPass)
    (mSeq (mIfS (mTest (mOp (opEq false) (mVar 1) (mC (.str (PySem.Str.ofString "want")))))
    (mRet (mOp opIx (mVar 0) (mC (.int 3))))
    mPass)
    (mSeq (mIfS (mTest (mOp (opEq false) (mVar 1) (mC (.str (PySem.Str.ofString "here")))))
    (mRet (mOp opSub (mOp opIx (mVar 0) (mC (.int 0))) (mOp opIx (mVar 0) (mC (.int 2)))))
    mPass)
    (mSeq (mIfS (mTest (mOp (opEq false) (mVar 1) (mC (.str (PySem.Str.ofString "got")))))
    (mRet (mOp opSub (mOp opIx (mVar 0) (mC (.int 1))) (mOp opIx (mVar 0) (mC (.int 3)))))
    mPass)
    (mRet (mOp opSub (mOp opIx (mVar 0) (mC (.int 2))) (mOp opIx (mVar 0) (mC (.int 3)))))))))))
noncomputable def m_law_measure : MF := mFn 2 2 .tr b_law_measure
abbrev N_law_key : List Str := ["_law_terms_here", "_law_car_here", "_law_key_here", "_law_term", "_law_number"]
noncomputable def lb_law_key_1 : MS :=
    (mSeq (mAsg 4 (mCall m_law_measure (mCons (mVar 1) (mCons (mOp opIx (mVar 3) (mC (.int 1))) mNil))))
    (mSeq (mIfS (mTest (mOp (opEq false) (mOp opIx (mVar 3) (mC (.int 0))) (mC (.str (PySem.Str.ofString "most")))))
    (mAsg 4 (mOp opSub (mC (.int 0)) (mVar 4)))
    mPass)
    (mDrop (mLm lmAppend (mVar 2) (mCons (mVar 4) mNil)))))
noncomputable def b_law_key : MS :=
    (mSeq (mAsg 2 (mLstM mNil))
    (mSeq (mFor (mItS (mVar 0)) (.nm 3) lb_law_key_1)
    (mRet (mVar 2))))
noncomputable def m_law_key : MF := mFn 2 5 .tr b_law_key
abbrev N_law_order : List Str := ["_law_terms_here", "_law_cars", "_law_keys", "_law_order_here", "_law_k", "_law_at", "_law_car_here"]
noncomputable def ce_law_order_1 : ME :=
    (mCall m_law_key (mCons (mVar 0) (mCons (mVar 6) mNil)))
noncomputable def wt_law_order_1 : MT :=
    (mAnd (mTest (mOp opLt (mVar 5) (mCall fLen (mCons (mVar 3) mNil)))) (mNot (mTest (mCall m_law_ahead (mCons (mOp opIx (mVar 2) (mVar 4)) (mCons (mOp opIx (mVar 2) (mOp opIx (mVar 3) (mVar 5))) mNil))))))
noncomputable def wb_law_order_1 : MS :=
    (mAsg 5 (mOp opAdd (mVar 5) (mC (.int 1))))
noncomputable def lb_law_order_1 : MS :=
    (mSeq (mAsg 5 (mC (.int 0)))
    (mSeq (mWhile wt_law_order_1 wb_law_order_1)
    (mDrop (mLm lmInsert (mVar 3) (mCons (mVar 5) (mCons (mVar 4) mNil))))))
noncomputable def b_law_order : MS :=
    (mSeq (mAsg 2 (mLc (mItS (mVar 1)) (.nm 6) mYes ce_law_order_1 [6]))
    (mSeq (mAsg 3 (mLstM mNil))
    (mSeq (mFor (mItR1 (mCons (mCall fLen (mCons (mVar 1) mNil)) mNil)) (.nm 4) lb_law_order_1)
    (mRet (mVar 3)))))
noncomputable def m_law_order : MF := mFn 2 7 .tr b_law_order
abbrev N_law_same : List Str := ["_law_told", "_law_due", "_law_k"]
noncomputable def b_law_same (self : MF) : MS :=
    (mSeq (mIfS (mTest (mOp (opIsN false) (mVar 1) (mC .non)))
    (mRet (mOp (opIsN false) (mVar 0) (mC .non)))
    mPass)
    (mSeq (mIfS (mTest (mOp (opIsN false) (mVar 1) (mC (.bl true))))
    (mRet (mOp (opIsN false) (mVar 0) (mC (.bl true))))
    mPass)
    (mSeq (mIfS (mTest (mOp (opIsN false) (mVar 1) (mC (.bl false))))
    (mRet (mOp (opIsN false) (mVar 0) (mC (.bl false))))
    mPass)
    (mSeq (mIfS (mTest (mIsTy "int" (mVar 1)))
    (mRet (mAndV (mIsTy "int" (mVar 0)) (mAndV (mNotV (mIsTy "bool" (mVar 0))) (mOp (opEq false) (mVar 0) (mVar 1)))))
    mPass)
    (mSeq (mIfS (mTest (mIsTy "str" (mVar 1)))
    (mRet (mAndV (mIsTy "str" (mVar 0)) (mOp (opEq false) (mVar 0) (mVar 1))))
    mPass)
    (mSeq (mIfS (mAnd (mTest (mIsTy "tuple" (mVar 1))) (mNot (mTest (mIsTy "tuple" (mVar 0)))))
    (mRet (mC (.bl false)))
    mPass)
    (mSeq (mIfS (mAnd (mTest (mIsTy "list" (mVar 1))) (mNot (mTest (mIsTy "list" (mVar 0)))))
    (mRet (mC (.bl false)))
    mPass)
    (mSeq (mIfS (mTest (mOp (opEq true) (mCall fLen (mCons (mVar 0) mNil)) (mCall fLen (mCons (mVar 1) mNil))))
    (mRet (mC (.bl false)))
    mPass)
    (mSeq (mFor (mItR1 (mCons (mCall fLen (mCons (mVar 1) mNil)) mNil)) (.nm 2) (mIfS (mNot (mTest (mCall self (mCons (mOp opIx (mVar 0) (mVar 2)) (mCons (mOp opIx (mVar 1) (mVar 2)) mNil)))))
    (mRet (mC (.bl false)))
    mPass))
    (mRet (mC (.bl true))))))))))))
noncomputable def r_law_same : Nat → MF
  | 0 => fun _ _ => .bad
  | n + 1 => mFn 2 3 .tr (b_law_same (r_law_same n))
noncomputable abbrev m_law_same : MF := r_law_same 12
abbrev N_law_named : List Str := ["_law_name", "_law_terms_here", "_law_cars", "_law_width", "_law_told", "_law_due", "_law_many", "_law_first", "_law_k"]
noncomputable def ct_law_named_1 : MT :=
    (mTest (mOp (opIn false) (mVar 8) (mVar 7)))
noncomputable def ce_law_named_1 : ME :=
    (mVar 8)
noncomputable def lb_law_named_1 : MS :=
    (mSeq (mAsg 7 (mSl (mVar 5) mNo (mPart (mVar 6))))
    (mIfS (mNot (mTest (mCall m_law_same (mCons (mMeth 2 "serve" m_Rule_serve (mVar 4) (mCons (mCall (fun xs st => if oneIs 2 xs st = true then listOwnF 2 "terms" m_Ruleu_lenu xs st else fList xs st) (mCons (mVar 2) mNil)) (mCons (mVar 6) mNil))) (mCons (mLc (mItR1 (mCons (mCall fLen (mCons (mVar 2) mNil)) mNil)) (.nm 8) ct_law_named_1 ce_law_named_1 [8]) mNil)))))
    (mRet (mC (.bl false)))
    mPass))
noncomputable def sb_law_named_1 : MS :=
    (mAsg 4 (mCMeth 2 m_Rule_named (mCons (mVar 0) mNil)))
noncomputable def sb_law_named_2 : MS :=
    (mIfS (mOr (mNot (mTest (mIsCl [(2, true)] ["NoneType", "int"] (mVar 4)))) (mNot (mTest (mCall m_law_same (mCons (mLst (mCons (mAttr [2] "terms" (mVar 4)) (mCons (mCall (fun xs st => if oneIs 2 xs st = true then listOwnF 2 "terms" m_Ruleu_lenu xs st else fList xs st) (mCons (mVar 4) mNil)) mNil))) (mCons (mLst (mCons (mCall fTuple (mCons (mVar 1) mNil)) (mCons (mVar 1) mNil))) mNil))))))
    (mRet (mC (.bl false)))
    mPass)
noncomputable def sb_law_named_3 : MS :=
    (mAsg 5 (mCall m_law_order (mCons (mVar 1) (mCons (mVar 2) mNil))))
noncomputable def sb_law_named_4 : MS :=
    (mIfS (mNot (mTest (mCall m_law_same (mCons (mMeth 2 "order" m_Rule_order (mVar 4) (mCons (mCall (fun xs st => if oneIs 2 xs st = true then listOwnF 2 "terms" m_Ruleu_lenu xs st else fList xs st) (mCons (mVar 2) mNil)) mNil)) (mCons (mVar 5) mNil)))))
    (mRet (mC (.bl false)))
    mPass)
noncomputable def sb_law_named_5 : MS :=
    (mFor (mItS (mLst (mCons (mVar 3) (mCons (mC (.int 1)) mNil)))) (.nm 6) lb_law_named_1)
noncomputable def sb_law_named_6 : MS :=
    (mRet (mC (.bl true)))
noncomputable def b_law_named : MS :=
    (mSeq sb_law_named_1
    (mSeq sb_law_named_2
    (mSeq sb_law_named_3
    (mSeq sb_law_named_4
    (mSeq sb_law_named_5
    sb_law_named_6)))))
noncomputable def m_law_named : MF := mFn 4 9 .tr b_law_named
abbrev N_law_names_of_rules : List Str := []
noncomputable def b_law_names_of_rules : MS :=
    (mRet (mLst (mCons (mC (.str (PySem.Str.ofString "equal"))) (mCons (mC (.str (PySem.Str.ofString "first come"))) (mCons (mC (.str (PySem.Str.ofString "least slack"))) (mCons (mC (.str (PySem.Str.ofString "first leave"))) mNil))))))
noncomputable def m_law_names_of_rules : MF := mFn 0 0 .tr b_law_names_of_rules
abbrev N_law_pool : List Str := ["_law_cell_here"]
noncomputable def b_law_pool : MS :=
    (mSeq (mIfS (mTest (mOp opGe (mVar 0) (mOp opPow (mC (.int 10)) (mC (.int 18)))))
    (mRet (mLstM (mCons (mVar 0) (mCons (mVar 0) (mCons (mC (.int 0)) mNil)))))
    mPass)
    (mRet (mLstM (mCons (mC (.int 0)) (mCons (mVar 0) (mCons (mC (.int 0)) mNil))))))
noncomputable def m_law_pool : MF := mFn 1 1 .kp b_law_pool
abbrev N_law_refused : List Str := ["_law_text_here", "_law_told", "_law_place", "e"]
noncomputable def tb_law_refused_1 : MS :=
    (mAsg 1 (mCMeth 2 m_Rule_named (mCons (mVar 0) mNil)))
noncomputable def b_law_refused : MS :=
    (mSeq (mAsg 1 (mC .non))
    (mSeq (mAsg 2 (mC .non))
    (mSeq (mTryX [(22, true)] 3 tb_law_refused_1
    (fun c ns ws => (mAsg 2 (mLst (mCons (mXf "place" c ns ws) (mCons (mAndV (mXis [(22, true)] c ns ws) (mXis [(22, true)] c ns ws)) mNil))))))
    (mRet (mAndV (mOp (opIsN false) (mVar 1) (mC .non)) (mCall m_law_same (mCons (mVar 2) (mCons (mLst (mCons (mC (.int 0)) (mCons (mC (.bl true)) mNil))) mNil))))))))
noncomputable def m_law_refused : MF := mFn 1 4 .tr b_law_refused
abbrev N_law_bent : List Str := ["_law_pool_here", "_law_text_here", "_law_signs_here", "_law_at", "_law_sign", "_law_way"]
noncomputable def b_law_bent : MS :=
    (mSeq (mAsg 3 (mCall m_law_take (mCons (mVar 0) (mCons (mOp opAdd (mCall fLen (mCons (mVar 1) mNil)) (mC (.int 1))) mNil))))
    (mSeq (mAsg 4 (mOp opIx (mVar 2) (mCall m_law_take (mCons (mVar 0) (mCons (mCall fLen (mCons (mVar 2) mNil)) mNil)))))
    (mSeq (mAsg 5 (mCall m_law_take (mCons (mVar 0) (mCons (mC (.int 3)) mNil))))
    (mSeq (mIfS (mTest (mOp (opEq false) (mVar 5) (mC (.int 0))))
    (mRet (mOp opAdd (mOp opAdd (mSl (mVar 1) mNo (mPart (mVar 3))) (mVar 4)) (mSl (mVar 1) (mPart (mVar 3)) mNo)))
    mPass)
    (mSeq (mIfS (mTest (mOp (opEq false) (mVar 5) (mC (.int 1))))
    (mRet (mOp opAdd (mOp opAdd (mSl (mVar 1) mNo (mPart (mVar 3))) (mVar 4)) (mSl (mVar 1) (mPart (mOp opAdd (mVar 3) (mC (.int 1)))) mNo)))
    mPass)
    (mRet (mOp opAdd (mSl (mVar 1) mNo (mPart (mVar 3))) (mSl (mVar 1) (mPart (mOp opAdd (mVar 3) (mC (.int 1)))) mNo))))))))
noncomputable def m_law_bent : MF := mFn 3 6 .tr b_law_bent
abbrev N_law_signs : List Str := ["_law_signs_here"]
noncomputable def b_law_signs : MS :=
    (mSeq (mAsg 0 (mC (.str (PySem.Str.ofString " !\"#$&'()*+,-./0123456789:;<=>?@ABCDEFGHIJKLMNOPQRSTUVWXYZ[\\]^_`"))))
    (mRet (mOp opAdd (mVar 0) (mC (.str (PySem.Str.ofString "abcdefghijklmnopqrstuvwxyz{|}~"))))))
noncomputable def m_law_signs : MF := mFn 0 1 .tr b_law_signs
abbrev N_law_terms : List Str := ["_law_pool_here", "_law_most", "_law_words", "_law_terms_here", "_law_k", "_law_word"]
noncomputable def lb_law_terms_1 : MS :=
    (mSeq (mAsg 5 (mLm lmPopAt (mVar 2) (mCons (mCall m_law_take (mCons (mVar 0) (mCons (mCall fLen (mCons (mVar 2) mNil)) mNil))) mNil)))
    (mDrop (mLm lmAppend (mVar 3) (mCons (mTup (mCons (mOp opIx (mLst (mCons (mC (.str (PySem.Str.ofString "least"))) (mCons (mC (.str (PySem.Str.ofString "most"))) mNil))) (mCall m_law_take (mCons (mVar 0) (mCons (mC (.int 2)) mNil)))) (mCons (mVar 5) mNil))) mNil))))
noncomputable def b_law_terms : MS :=
    (mSeq (mAsg 2 (mLstM (mCons (mC (.str (PySem.Str.ofString "stay"))) (mCons (mC (.str (PySem.Str.ofString "need"))) (mCons (mC (.str (PySem.Str.ofString "left"))) (mCons (mC (.str (PySem.Str.ofString "want"))) (mCons (mC (.str (PySem.Str.ofString "here"))) (mCons (mC (.str (PySem.Str.ofString "got"))) (mCons (mC (.str (PySem.Str.ofString "slack"))) mNil)))))))))
    (mSeq (mAsg 3 (mLstM mNil))
    (mSeq (mFor (mItR1 (mCons (mCall m_law_take (mCons (mVar 0) (mCons (mOp opAdd (mVar 1) (mC (.int 1))) mNil))) mNil)) (.nm 4) lb_law_terms_1)
    (mRet (mVar 3)))))
noncomputable def m_law_terms : MF := mFn 2 6 .tr b_law_terms
abbrev N_law_terms_text : List Str := ["_law_terms_here", "_law_term"]
noncomputable def ce_law_terms_text_1 : ME :=
    (mOp opAdd (mOp opAdd (mOp opIx (mVar 1) (mC (.int 0))) (mC (.str (PySem.Str.ofString " ")))) (mOp opIx (mVar 1) (mC (.int 1))))
noncomputable def b_law_terms_text : MS :=
    (mSeq (mIfS (mTest (mOp (opEq false) (mCall fLen (mCons (mVar 0) mNil)) (mC (.int 0))))
    (mRet (mC (.str (PySem.Str.ofString "first come"))))
    mPass)
    (mRet (mJoin (mC (.str (PySem.Str.ofString ", "))) (mLc (mItS (mVar 0)) (.nm 1) mYes ce_law_terms_text_1 [1]))))
noncomputable def m_law_terms_text : MF := mFn 1 2 .tr b_law_terms_text
abbrev N_law_text : List Str := ["_law_pool_here", "_law_way", "_law_signs_here", "_law_texts", "_law_k"]
noncomputable def ce_law_text_1 : ME :=
    (mOp opIx (mVar 2) (mCall m_law_take (mCons (mVar 0) (mCons (mC (.int 94)) mNil))))
noncomputable def sb_law_text_1 : MS :=
    (mIfS (mTest (mOp (opEq false) (mVar 1) (mC (.int 0))))
    (mRet (mCall m_law_bent (mCons (mVar 0) (mCons (mOp opIx (mCall m_law_names_of_rules mNil) (mCall m_law_take (mCons (mVar 0) (mCons (mC (.int 4)) mNil)))) (mCons (mCall m_law_signs mNil) mNil)))))
    mPass)
noncomputable def sb_law_text_2 : MS :=
    (mIfS (mTest (mOp (opEq false) (mVar 1) (mC (.int 1))))
    (mSeq (mAsg 2 (mCall m_law_signs mNil))
    (mRet (mJoin (mC (.str (PySem.Str.ofString ""))) (mLc (mItR1 (mCons (mCall m_law_take (mCons (mVar 0) (mCons (mC (.int 21)) mNil))) mNil)) (.nm 4) mYes ce_law_text_1 [4]))))
    mPass)
noncomputable def sb_law_text_3 : MS :=
    (mIfS (mTest (mOp (opEq false) (mVar 1) (mC (.int 2))))
    (mSeq (mAsg 3 (mLst (mCons (mC (.str (PySem.Str.ofString ""))) (mCons (mC (.str (PySem.Str.ofString "Equal"))) (mCons (mC (.str (PySem.Str.ofString "least left"))) (mCons (mC (.str (PySem.Str.ofString "least got"))) (mCons (mC (.str (PySem.Str.ofString "first"))) (mCons (mC (.str (PySem.Str.ofString "first  come"))) (mCons (mC (.str (PySem.Str.ofString "equal "))) (mCons (mC (.str (PySem.Str.ofString " equal"))) (mCons (mC (.str (PySem.Str.ofString "most slack"))) mNil)))))))))))
    (mRet (mOp opIx (mOp opAdd (mVar 3) (mLst (mCons (mC (.str (PySem.Str.ofString "first leave, equal"))) mNil))) (mCall m_law_take (mCons (mVar 0) (mCons (mC (.int 10)) mNil))))))
    mPass)
noncomputable def sb_law_text_4 : MS :=
    (mRet (mCall m_law_terms_text (mCons (mCall m_law_terms (mCons (mVar 0) (mCons (mC (.int 2)) mNil))) mNil)))
noncomputable def b_law_text : MS :=
    (mSeq sb_law_text_1
    (mSeq sb_law_text_2
    (mSeq sb_law_text_3
    sb_law_text_4)))
noncomputable def m_law_text : MF := mFn 2 5 .tr b_law_text
abbrev N_law : List Str := ["_law_script", "_law_text_here", "_law_pool_here", "_law_cars", "_law_width", "_law_k"]
noncomputable def ce_law_1 : ME :=
    (mCall m_law_car (mCons (mVar 2) (mCons (mC (.int 12)) mNil)))
noncomputable def sb_law_1 : MS :=
    (mAsg 1 (mCall m_law_text (mCons (mCall m_law_pool (mCons (mCall m_law_cell (mCons (mVar 0) (mCons (mC (.int 1)) mNil))) mNil)) (mCons (mOp opMod (mCall fInt (mCons (mCall m_law_cell (mCons (mVar 0) (mCons (mC (.int 0)) mNil))) mNil)) (mC (.int 4))) mNil))))
noncomputable def sb_law_2 : MS :=
    (mAsg 2 (mCall m_law_pool (mCons (mCall m_law_cell (mCons (mVar 0) (mCons (mC (.int 2)) mNil))) mNil)))
noncomputable def sb_law_3 : MS :=
    (mAsg 3 (mLc (mItR1 (mCons (mCall m_law_take (mCons (mVar 2) (mCons (mC (.int 14)) mNil))) mNil)) (.nm 5) mYes ce_law_1 [5]))
noncomputable def sb_law_4 : MS :=
    (mAsg 4 (mCall m_law_take (mCons (mCall m_law_pool (mCons (mCall m_law_cell (mCons (mVar 0) (mCons (mC (.int 3)) mNil))) mNil)) (mCons (mC (.int 16)) mNil))))
noncomputable def sb_law_5 : MS :=
    (mIfS (mNot (mTest (mCall m_law_named (mCons (mC (.str (PySem.Str.ofString "equal"))) (mCons (mLst (mCons (mTup (mCons (mC (.str (PySem.Str.ofString "least"))) (mCons (mC (.str (PySem.Str.ofString "got"))) mNil))) mNil)) (mCons (mVar 3) (mCons (mVar 4) mNil)))))))
    (mRet (mC (.bl false)))
    mPass)
noncomputable def sb_law_6 : MS :=
    (mIfS (mNot (mTest (mCall m_law_named (mCons (mC (.str (PySem.Str.ofString "first come"))) (mCons (mLst mNil) (mCons (mVar 3) (mCons (mVar 4) mNil)))))))
    (mRet (mC (.bl false)))
    mPass)
noncomputable def sb_law_7 : MS :=
    (mIfS (mNot (mTest (mCall m_law_named (mCons (mC (.str (PySem.Str.ofString "least slack"))) (mCons (mLst (mCons (mTup (mCons (mC (.str (PySem.Str.ofString "least"))) (mCons (mC (.str (PySem.Str.ofString "slack"))) mNil))) mNil)) (mCons (mVar 3) (mCons (mVar 4) mNil)))))))
    (mRet (mC (.bl false)))
    mPass)
noncomputable def sb_law_8 : MS :=
    (mIfS (mAnd (mTest (mOp (opIn true) (mVar 1) (mCall m_law_names_of_rules mNil))) (mNot (mTest (mCall m_law_refused (mCons (mVar 1) mNil)))))
    (mRet (mC (.bl false)))
    mPass)
noncomputable def sb_law_9 : MS :=
    (mRet (mCall m_law_named (mCons (mC (.str (PySem.Str.ofString "first leave"))) (mCons (mLst (mCons (mTup (mCons (mC (.str (PySem.Str.ofString "least"))) (mCons (mC (.str (PySem.Str.ofString "left"))) mNil))) mNil)) (mCons (mVar 3) (mCons (mVar 4) mNil))))))
noncomputable def b_law : MS :=
    (mSeq sb_law_1
    (mSeq sb_law_2
    (mSeq sb_law_3
    (mSeq sb_law_4
    (mSeq sb_law_5
    (mSeq sb_law_6
    (mSeq sb_law_7
    (mSeq sb_law_8
    sb_law_9))))))))
noncomputable def m_law : MF := mFn 1 6 .tr b_law
end K14

set_option linter.all false
set_option maxRecDepth 100000
set_option maxHeartbeats 4000000
namespace K14
open PySem Mz L2
local macro_rules | `(tactic| simp! [$ls,*]) => `(tactic| simp -implicitDefEqProofs only [e_seq, k_nx, k_rt, k_bk, k_ct, k_ex, e_pass, e_brk, e_cont, e_retN, e_asg, k_asg, k_asg_ex, e_asgP, k_asgP, k_nxo, e_drop, k_drop, k_drop_ex, e_ret, k_ret, k_ret_ex, e_ifS, k_ifS, e_aug, k_aug0, k_aug, e_var, k_var, e_c, e_op, k_op1, k_op1_ex, k_op2, k_op2_ex, e_un, k_un, e_test, k_test, k_test_ex, e_and, k_and, e_or, k_or, e_not, k_not, e_andV, k_andV, e_orV, k_orV, e_notV, k_notV, e_if, k_if, e_nil, e_cons, k_cons1, k_cons1_ex, k_cons2, k_cons2_ex, e_call, k_call, k_call_ex, e_tup, k_tup, k_tup2, e_lst, k_lst, k_lst2, e_lstM, k_lstM, k_lstM2, v_nil, v_cons, e_chain, k_chain1, k_chain2, k_chain3, o_add, o_sub, o_mul, o_mod, o_div, o_pow, o_shl, o_band, o_bor, e_revM, k_revM, e_inRg1, k_inRg1, k_inRgE, e_inRg2, k_inRg2, k_inRg3, e_disp1, k_dispA, k_dispB, e_setD, k_setD1, k_setD2, k_setD3, e_cnt, k_cnt, k_cnt2, e_makeK, k_makeK, f_sortI, e_maxD, k_maxD, e_inG, k_inG, e_ixG, e_setIX, k_setX1, k_setX2, k_setX4, k_setX4_ex, e_setIO, k_setO1, k_setO2, k_setO4, e_lenSC, e_star, k_star1, k_star2, k_star3, vals_map, e_augL, k_augL0, e_pop, e_lrg1, k_lrg1, e_lrg2, k_lrg2, k_lrgB, o_lt, o_le, o_gt, o_ge, o_neg, o_eq, o_ne, o_eqs, o_nes, o_ix, k_ix, k_at, k_atS, atI_0, atI_1, atI_2, atI_3, atI_4, atI_5, atI_6, atI_7, atI_8, atI_9, atI_10, atI_11, atI_12, atI_13, atI_14, atI_15, atI_16, ixN_0, ixN_1, ixN_2, ixN_3, ixN_4, ixN_5, i_lst, i_ro, i_tup, i_l, i_str, li_lst, li_ro, li_l, o_isB, o_isNl, o_isN, o_isNN, o_notN, o_notNN, f_len, k_len, f_int, f_intb, f_abs, f_max2, f_min2, f_list, k_list, f_listM, k_listM, f_tupT, f_tupV, f_tupL, k_tupL, f_sum, k_sum, k_sum2, f_all, k_all, k_all2, f_maxL, k_maxL, e_isTy, k_isTy, k_isTy2, k_isTy3, ty_non, ty_bl, ty_int, ty_str, ty_tup, ty_lst, kb1, kb2, kb3, kb4, kb5, kb6, kb7, kb8, kb9, kb10, kb11, kb12, kb13, kb14, kb15, kb16, kb17, kb18, kb19, kb20, e_lm, k_lm1, k_lm0, k_lm2, k_lm3, k_lm4, e_setI, k_set1, k_set2, k_set3, k_set4, k_set5, e_sl, k_sl1, k_sl2, k_sl3T, k_sl3L, k_sl3l, k_cutL, e_no, e_part, k_part, e_itS, k_bind, src_tup, src_lst, src_l, k_src, src_str, e_itR1, e_itR2, e_for, k_for, e_lc, k_lc, e_lcM, k_lcM, e_attr, k_attr, e_setA, k_setA1, k_setA2, e_make, k_make, e_meth, k_meth1, k_methB, k_meth2, e_isCl, k_isCl, e_itE, k_en, e_raise, e_try, t_nx, t_rt, t_ex, t_yes, t_no, e_cmeth, k_cmeth, e_makeL, e_prop, k_prop, k_noEx, e_dixI, k_dixI, e_rev, k_rev, e_par, k_par, e_itZ, k_zip, e_itZL, k_zipL, ic_int, ic_bl, ic_str, ic_non, ic_lst, ic_ro, ic_tup, ic_l, ic_ins, oneIs_1, lenOwn_1, lenBk_1, ixOwn_1, e_tryX, x_nx, x_rt, x_ex, x_yes, x_no, x_y, e_raise1, k_raise1, e_xis, List.lookup_cons_self, fin_ex, mix_ii, e_isTyO, k_isTyO, okBk_1, mix2_ii, e_is2, k_is2i, e_join, k_join1, k_join2, e_split, k_split1, k_split2, f_strs, strOwn_1, strBk_1, e_fz, k_fzv, k_fzl, k_fz2, e_splitM, k_splitM1, k_splitM2, f_intx, e_fmt, e_js, js_nil, js_cons, o_inX, inBk_1, e_disp, disp_nil, disp_cons, k_disp1, k_dispW, k_disp, e_dnew, e_callO, k_callO, k_callO2, i_int, Option.isSome_some, Option.isSome_none, e_yes, w_nil, w_cons, b_nm, b_tp, b_pnil, b_pnm, b_ptp, fn_tr, fn_kp, fn_ini, fin_kp_rt, fin_kp_nx, fin_same, fin_setv, st_setl_len, st_setl_o, st_push_len, st_push_o, st_push_get, st_setl_setl, bl0, bl1, bl2, bl3, bl4, bl5, bl6, bl7, bl8, bl9, bl10, bl11, bl12, bl13, bl14, bl15, bl16, bl17, bl18, bl19, bl20, bl21, bl22, bl23, bl24, bl25, bl26, bl27, bl28, bl29, bl30, bl31, bl32, bl33, bl34, bl35, bl36, bl37, bl38, bl39, bl40, List.map_cons, List.map_nil, List.replicate, List.cons_append, List.nil_append, List.length_cons, List.length_nil, List.getElem?_cons_zero, List.getElem?_cons_succ, List.set_cons_zero, List.set_cons_succ, Option.map_some, Option.bind_some, reduceIte, Bool.true_eq_false, Bool.false_eq_true, Bool.not_true, Bool.not_false, decide_true, decide_false, Int.reduceEq, Int.reduceLT, Int.reduceLE, Int.reduceGT, Int.reduceGE, Int.reduceAdd, Int.reduceSub, Int.reduceMul, Int.reduceNeg, Nat.reduceAdd, Nat.reduceSub, Nat.reduceLT, Nat.reduceLeDiff, Nat.lt_add_left_iff_pos, Nat.zero_lt_succ, $ls,*])
/-! ### what every law draws by -/
theorem take_ok {st : Store} {p : Nat} {m : Int} (hp : Pl st p) (hm : 0 < m) (hm2 : m < wide) :
    ∃ r st', m_law_take [.l p, .v (.int m)] st = .ok (.v (.int r)) st' ∧ Pw p st st' ∧ 0 ≤ r ∧ r < m := by
  have hl := hp.lt
  obtain ⟨a, b, c, hp⟩ := hp
  have hg : ∀ xs, (st.setl p (.lst xs)).lget p = some xs := fun xs => st_setl_get hl
  have hw : (7 : Int) < wide := wide_lt (k := 3) (by decide) (by decide)
  have m1 : ∀ x : Int, opMul (.v (.int 7919)) (.v (.int x)) = fun st => .ok (.v (.int (7919 * x))) st := fun x => by funext st; exact o_mul (.inl (by decide))
  have m2 : ∀ x : Int, opMul (.v (.int x)) (.v (.int 48271)) = fun st => .ok (.v (.int (x * 48271))) st := fun x => by funext st; exact o_mul (.inr (by decide))
  have m3 : ∀ x : Int, opMul (.v (.int x)) (.v (.int 69621)) = fun st => .ok (.v (.int (x * 69621))) st := fun x => by funext st; exact o_mul (.inr (by decide))
  have m4 : ∀ x : Int, opMul (.v (.int 40692)) (.v (.int x)) = fun st => .ok (.v (.int (40692 * x))) st := fun x => by funext st; exact o_mul (.inl (by decide))
  have f : ∀ w xs, fin .tr st (.rt (.v w) (st.setl p (.lst xs))) = .ok (.v w) (st.setl p (.lst xs)) := fun w xs => fin_setv
  unfold m_law_take b_law_take
  simp! [hp, hg, hm, hm2]
  by_cases h : 0 < a
  · simp! [h, f]
    exact ⟨_, _, rfl, Pw.set hl, Int.emod_nonneg _ (by omega), Int.emod_lt_of_pos _ hm⟩
  · simp! [h, hg, hm, hm2, hw, m1, m2, m3, m4, Int.reduceLT, f]
    exact ⟨_, _, rfl, Pw.set hl, Int.emod_nonneg _ (by omega), Int.emod_lt_of_pos _ hm⟩
theorem cell_ok (ns : List Int) (k : Nat) (st : Store) : ∃ c : Int, m_law_cell [.v (.ro (ns.map W.int)), .v (.int k)] st = .ok (.v (.int c)) st ∧ 0 ≤ c := by
  unfold m_law_cell b_law_cell
  simp! [List.length_map]
  by_cases h : (k : Int) < ns.length
  · have e : atI (ns.map W.int) (k : Int) = some (.int (ns[k]'(by omega))) := by rw [atI_nat', List.getElem?_map, List.getElem?_eq_getElem (by omega)]; rfl
    simp! [h, e]
    exact ⟨_, rfl, by split <;> omega⟩
  · simp! [h]
    exact ⟨_, rfl, Int.le_refl 0⟩
theorem pool_ok (c : Int) (st : Store) : ∃ a b, m_law_pool [.v (.int c)] st = .ok (.l st.l.length) (st.push (.lst [.int a, .int b, .int 0])) := by
  have e : opPow (.v (.int 10)) (.v (.int 18)) = fun st => .ok (.v (.int (10 ^ 18))) st := by funext st; exact o_pow (by decide) (by decide) (by decide)
  unfold m_law_pool b_law_pool
  simp! [e]
  by_cases h : (10 : Int) ^ 18 ≤ c
  · simp! [h]
    exact ⟨_, _, rfl⟩
  · simp! [h]
    exact ⟨_, _, rfl⟩
theorem takeP {st : Store} {p : Nat} {x : Lo} {m : Int} (hp : Pl st p) (hm : 0 < m) (hm2 : m < wide) :
    ∃ r st', m_law_take [.l p, .v (.int m)] (st.push x) = .ok (.v (.int r)) (st'.push x) ∧ Pw p st st' ∧ 0 ≤ r ∧ r < m := by
  obtain ⟨r, st', e, w, h⟩ := take_ok (st := st.push x) hp.push hm hm2
  obtain ⟨st2, rfl, w2⟩ := w.unpush hp.lt
  exact ⟨r, st2, e, w2, h⟩
theorem wide_nat {m : Int} (h : m < 2 ^ 62) : m < wide := wide_lt (k := 62) h (by decide)
theorem start1 (ns : List Int) : ∃ (c : Int) (S : Store), m_law_cell [.v (.ro (ns.map W.int)), .v (.int 0)] emp = .ok (.v (.int c)) emp ∧ m_law_pool [.v (.int c)] emp = .ok (.l 0) S ∧ Pl S 0 ∧ S.l.length = 1 ∧ S.o = [] := by
  obtain ⟨c0, ec0, _⟩ := cell_ok ns 0 emp
  obtain ⟨a0, b0, ep0⟩ := pool_ok c0 emp
  exact ⟨c0, _, ec0, ep0, ⟨a0, b0, 0, rfl⟩, rfl, rfl⟩
/-! ### told and due agree -/
theorem same_seq {n : Nat} (ih : ∀ w x y st, Plain n w → Sees st x w → Sees st y w → r_law_same n [x, y] st = .ok (.v (.bl true)) st)
    {t : String} (ht : t = "list" ∨ t = "tuple") {xs : List W} {x y : Sl} {st : Store} (hx : items st x = some xs) (hy : items st y = some xs)
    (tx : tyName st x = some t) (ty : tyName st y = some t) (hl : xs.length ≤ big) (hp : ∀ w ∈ xs, Plain n w) : r_law_same (n + 1) [x, y] st = .ok (.v (.bl true)) st := by
  obtain ⟨y1, y2⟩ := seq_isN hy
  have hb := big62
  unfold r_law_same b_law_same
  obtain ⟨env', st', e, ⟨h1, c, h2⟩⟩ := loop_inv (gd := fun _ => True) (pt := .nm 2) (mb := mIfS (mNot (mTest (mCall (r_law_same n) (mCons (mOp opIx (mVar 0) (mVar 2)) (mCons (mOp opIx (mVar 1) (mVar 2)) mNil))))) (mRet (mC (.bl false))) mPass)
    (fun _ env st' => st' = st ∧ ∃ c, env = [some x, some y, c]) (rangeW 0 xs.length) 0 [some x, some y, none] st ⟨rfl, none, rfl⟩ (by
      rintro j w env st' hj ⟨rfl, c, rfl⟩
      obtain ⟨hlt, rfl⟩ := range_at hj
      have a1 : atI xs ((0 : Int) + j) = some (xs[j]'hlt) := by rw [Int.zero_add, atI_nat', List.getElem?_eq_getElem hlt]
      refine ⟨trivial, _, b_nm, [some x, some y, some (.v (.int (0 + j)))], st', .inl ?_, rfl, _, rfl⟩
      simp! [hx, hy, a1, ih _ (.v (xs[j]'hlt)) (.v (xs[j]'hlt)) st' (hp _ (List.getElem_mem hlt)) sees_v sees_v]) (fun _ _ _ => trivial)
  subst h1 h2
  have hr : ((xs.length : Int)).toNat = xs.length := Int.toNat_natCast _
  rcases ht with rfl | rfl
  · simp! [hx, hy, tx, ty, y1, y2, ne_eq, not_true_eq_false, hr, k_itR1 (n := (xs.length : Int)) (st := st') (by omega) (by omega), e]
  · simp! [hx, hy, tx, ty, y1, y2, ne_eq, not_true_eq_false, hr, k_itR1 (n := (xs.length : Int)) (st := st') (by omega) (by omega), e]
theorem same_ok : ∀ (n : Nat) (w : W) (x y : Sl) (st : Store), Plain n w → Sees st x w → Sees st y w → r_law_same n [x, y] st = .ok (.v (.bl true)) st
  | 0, _, _, _, _, h, _, _ => by unfold Plain at h; exact h.elim
  | n + 1, .non, x, y, st, h, hx, hy => by
    cases sees_flat hx (fun _ h => by cases h); cases sees_flat hy (fun _ h => by cases h)
    unfold r_law_same b_law_same
    simp! [k_nx]
  | n + 1, .bl b, x, y, st, h, hx, hy => by
    cases sees_flat hx (fun _ h => by cases h); cases sees_flat hy (fun _ h => by cases h)
    unfold r_law_same b_law_same
    cases b <;> simp! [ne_eq, reduceCtorEq, not_false_eq_true]
  | n + 1, .int i, x, y, st, h, hx, hy => by
    cases sees_flat hx (fun _ h => by cases h); cases sees_flat hy (fun _ h => by cases h)
    have o1 : ∀ b, opIsN false (.v (.int i)) (.v (.bl b)) st = .ok (.v (.bl false)) st := fun b => o_isO (fun a h => by cases h)
    unfold r_law_same b_law_same
    simp! [ne_eq, reduceCtorEq, not_false_eq_true, o1]
  | n + 1, .str i, x, y, st, h, hx, hy => by
    cases sees_flat hx (fun _ h => by cases h); cases sees_flat hy (fun _ h => by cases h)
    have o1 : ∀ b, opIsN false (.v (.str i)) (.v (.bl b)) st = .ok (.v (.bl false)) st := fun b => o_isO (fun a h => by cases h)
    unfold r_law_same b_law_same
    simp! [ne_eq, reduceCtorEq, not_false_eq_true, o1]
  | n + 1, .tup xs, x, y, st, h, hx, hy => by
    unfold Plain at h
    obtain ⟨x1, x2⟩ := sees_tup hx
    obtain ⟨y1, y2⟩ := sees_tup hy
    exact same_seq (same_ok n) (.inr rfl) x1 y1 x2 y2 h.1 h.2
  | n + 1, .lst xs, x, y, st, h, hx, hy => by
    unfold Plain at h
    obtain ⟨x1, x2⟩ := sees_lst hx
    obtain ⟨y1, y2⟩ := sees_lst hy
    exact same_seq (same_ok n) (.inl rfl) x1 y1 x2 y2 h.1 h.2
  | n + 1, .ro _, _, _, _, h, _, _ => by unfold Plain at h; exact h.elim
  | n + 1, .dct _ _, _, _, _, h, _, _ => by unfold Plain at h; exact h.elim
  | n + 1, .ins _ _ _, _, _, _, h, _, _ => by unfold Plain at h; exact h.elim
  | n + 1, .cls _, _, _, _, h, _, _ => by unfold Plain at h; exact h.elim
/-! ### terms of rules -/
abbrev Tm := List Nat × List Nat
def pW (t : Tm) : W := .tup [.str (tx t.1), .str (tx t.2)]
def leastL : List Nat := [108, 101, 97, 115, 116]
def mostL : List Nat := [109, 111, 115, 116]
def stayL : List Nat := [115, 116, 97, 121]
def needL : List Nat := [110, 101, 101, 100]
def leftL : List Nat := [108, 101, 102, 116]
def wantL : List Nat := [119, 97, 110, 116]
def hereL : List Nat := [104, 101, 114, 101]
def gotL : List Nat := [103, 111, 116]
def slackL : List Nat := [115, 108, 97, 99, 107]
def sidesL : List (List Nat) := [leastL, mostL]
def wordsL : List (List Nat) := [stayL, needL, leftL, wantL, hereL, gotL, slackL]
theorem least_tx : PySem.Str.ofString "least" = tx leastL := by decide +kernel
theorem most_tx : PySem.Str.ofString "most" = tx mostL := by decide +kernel
theorem stay_tx : PySem.Str.ofString "stay" = tx stayL := by decide +kernel
theorem need_tx : PySem.Str.ofString "need" = tx needL := by decide +kernel
theorem left_tx : PySem.Str.ofString "left" = tx leftL := by decide +kernel
theorem want_tx : PySem.Str.ofString "want" = tx wantL := by decide +kernel
theorem here_tx : PySem.Str.ofString "here" = tx hereL := by decide +kernel
theorem got_tx : PySem.Str.ofString "got" = tx gotL := by decide +kernel
theorem slack_tx : PySem.Str.ofString "slack" = tx slackL := by decide +kernel
def sW (ws : List (List Nat)) : List W := (ws.map tx).map W.str
theorem sW_len {ws : List (List Nat)} : (sW ws).length = ws.length := by unfold sW; rw [List.length_map, List.length_map]
theorem sW_app {ws : List (List Nat)} {w : List Nat} : sW ws ++ [.str (tx w)] = sW (ws ++ [w]) := by unfold sW; rw [List.map_append, List.map_append]; rfl
theorem sides_W : [W.str (PySem.Str.ofString "least"), .str (PySem.Str.ofString "most")] = sW sidesL := by rw [least_tx, most_tx]; rfl
theorem words_W : [W.str (PySem.Str.ofString "stay"), .str (PySem.Str.ofString "need"), .str (PySem.Str.ofString "left"), .str (PySem.Str.ofString "want"), .str (PySem.Str.ofString "here"), .str (PySem.Str.ofString "got"), .str (PySem.Str.ofString "slack")] = sW wordsL := by
  rw [stay_tx, need_tx, left_tx, want_tx, here_tx, got_tx, slack_tx]; rfl
theorem in_strs {neg : Bool} {w : List Nat} {ws : List (List Nat)} {y : Sl} {st : Store} (h : items st y = some (sW ws)) : opIn neg (.v (.str (tx w))) y st = .ok (.v (.bl (if neg then !decide (w ∈ ws) else decide (w ∈ ws)))) st := by
  rw [o_in_str (hs := ws.map tx) h]
  have e : decide (tx w ∈ ws.map tx) = decide (w ∈ ws) := by
    congr 1
    rw [List.mem_map]
    exact propext ⟨fun ⟨a, h1, h2⟩ => tx_inj.mp h2 ▸ h1, fun h => ⟨w, h, rfl⟩⟩
  rw [e]
def BadT (ts : List Tm) (k : Nat) : Prop := ∃ t, ts[k]? = some t ∧ (t.1 ∉ sidesL ∨ t.2 ∉ wordsL ∨ t.2 ∈ (ts.take k).map (·.2))
def FirstT (ts : List Tm) (k : Nat) : Prop := BadT ts k ∧ ∀ j, j < k → ¬ BadT ts j
def RuleOk (ts : List Tm) : Prop := ∀ k, ¬ BadT ts k
theorem rule_or (ts : List Tm) : RuleOk ts ∨ ∃ k, FirstT ts k := first_or (BadT ts)
theorem bad_take {ts : List Tm} {k j : Nat} (h : BadT (ts.take k) j) : BadT ts j ∧ j < k := by
  obtain ⟨t, ht, hc⟩ := h
  have hl := get_lt ht
  rw [List.length_take] at hl
  have hjk : j < k := by omega
  rw [List.getElem?_take, if_pos hjk] at ht
  rw [List.take_take, Nat.min_eq_left (by omega)] at hc
  exact ⟨⟨t, ht, hc⟩, hjk⟩
theorem first_takeT {ts : List Tm} {k : Nat} (h : FirstT ts k) : RuleOk (ts.take k) := fun j hj => by
  obtain ⟨h1, h2⟩ := bad_take hj
  exact h.2 j h2 h1
theorem first_endT {ts : List Tm} {t : Tm} (h : RuleOk ts) (hb : t.1 ∉ sidesL ∨ t.2 ∉ wordsL ∨ t.2 ∈ ts.map (·.2)) : FirstT (ts ++ [t]) ts.length := by
  refine ⟨⟨t, by simp, by rw [List.take_left']; exact hb; rfl⟩, fun j hj hbad => ?_⟩
  have e : (ts ++ [t]).take ts.length = ts := List.take_left' rfl
  have := bad_take (k := ts.length) (ts := ts ++ [t]) (j := j)
  obtain ⟨u, hu, hc⟩ := hbad
  rw [List.getElem?_append_left hj] at hu
  rw [List.take_append_of_le_length (by omega)] at hc
  exact h j ⟨u, hu, hc⟩
def ruleW (ts : List Tm) : W := .ins 2 ["terms"] [.tup (ts.map pW)]
theorem rule_terms {ts : List Tm} {st : Store} : attrOf [2] "terms" (.v (ruleW ts)) st = .ok (.v (.tup (ts.map pW))) st := rfl
theorem rule_is {ts : List Tm} {st : Store} : isCl 2 st (.v (ruleW ts)) = true := rfl
theorem fin_ini_push {st : Store} {y z : In} {env : Mz.Env} {x : Lo} (hv : valsS z.vs = true) : fin .ini (st.pusho y) (.nx env ((st.pusho z).push x)) = .ok (.v .non) (st.pusho z) := by
  have e1 : ((st.pusho z).push x).o[(st.pusho y).o.length - 1]? = some z := by unfold Store.pusho Store.push; simp
  have e2 : ((st.pusho z).push x).o.take ((st.pusho y).o.length - 1) = (st.pusho y).o.take ((st.pusho y).o.length - 1) := by unfold Store.pusho Store.push; simp
  have e3 : (st.pusho y).o.take ((st.pusho y).o.length - 1) = st.o := by unfold Store.pusho; simp
  unfold fin
  dsimp only
  unfold cutI
  rw [e1]
  dsimp only
  rw [if_pos ⟨e2, hv, by unfold Store.pusho; simp⟩, e3]
  show Res.ok _ (Store.mk ((st.l ++ [x]).take st.l.length) (st.o ++ [z])) = _
  rw [List.take_left' rfl]
  rfl
theorem fin_ini_pushx {st : Store} {y z : In} {env : Mz.Env} {x : Lo} {c : Nat} {ns : List PySem.Str} {ws : List W} (hv : valsS z.vs = true) : fin .ini (st.pusho y) (.ex c ns ws env ((st.pusho z).push x)) = .ex c ns ws (st.pusho z) := by
  have e1 : ((st.pusho z).push x).o[(st.pusho y).o.length - 1]? = some z := by unfold Store.pusho Store.push; simp
  have e2 : ((st.pusho z).push x).o.take ((st.pusho y).o.length - 1) = (st.pusho y).o.take ((st.pusho y).o.length - 1) := by unfold Store.pusho Store.push; simp
  have e3 : (st.pusho y).o.take ((st.pusho y).o.length - 1) = st.o := by unfold Store.pusho; simp
  unfold fin
  dsimp only
  unfold cutI
  rw [e1]
  dsimp only
  rw [if_pos ⟨e2, hv, by unfold Store.pusho; simp⟩, e3]
  show Res.ex _ _ _ (Store.mk ((st.l ++ [x]).take st.l.length) (st.o ++ [z])) = _
  rw [List.take_left' rfl]
  rfl
theorem rule_loop {x : Sl} {S : Store} {o : Nat} {ts : List Tm} (hz : ts.length ≤ 10000) :
    ∃ r, loopL (fun _ => True) (.tp [.nm 5, .tp [.nm 2, .nm 3]]) lb_Ruleu_initu_1 (numW 0 (ts.map pW)) [some (.o o), some (x), none, none, some (.l S.l.length), none] (S.push (.lst [])) = r ∧
      ((RuleOk ts ∧ ∃ env y, r = .nx env (S.push y)) ∨ ∃ k env y, FirstT ts k ∧ r = .ex 22 ["place"] [.int (k : Nat)] env (S.push y)) := by
  have hb : big = 16777216 := rfl
  obtain ⟨r, e, h⟩ := loop_genx (gd := fun _ => True) (pt := .tp [.nm 5, .tp [.nm 2, .nm 3]]) (mb := lb_Ruleu_initu_1) (fun q : Tm × Nat => .tup [.int (q.2 : Int), pW q.1])
    (fun pre env st' => (∀ j, j < pre.length → ¬ BadT ts j) ∧ ∃ o2 o3 o5, env = [some (.o o), some (x), o2, o3, some (.l S.l.length), o5] ∧ st' = S.push (.lst (sW (pre.map (·.1.2)))))
    (fun r => ∃ k env y, FirstT ts k ∧ r = .ex 22 ["place"] [.int (k : Nat)] env (S.push y)) ts.zipIdx ts.zipIdx [] [some (.o o), some (x), none, none, some (.l S.l.length), none] (S.push (.lst [])) rfl
    ⟨by simp, none, none, none, rfl, rfl⟩ (by
      rintro pre q post env st' hq0 ⟨hk, o2, o3, o5, rfl, rfl⟩
      have hq := zip_mem (xs := ts) (q := q) (by rw [hq0]; simp)
      obtain ⟨a, b, e1, e2, e3⟩ := idx_pre hq0
      have hpl : pre.length = q.2 := by rw [e2, List.length_zipIdx, e3]
      have hl := get_lt hq.1
      have hpre : pre.map (·.1.2) = (ts.take q.2).map (·.2) := by
        rw [e1, e3, List.take_left' rfl, e2]
        show (a.zipIdx.map (fun p => p.1.2)) = a.map (·.2)
        rw [show (fun p : Tm × Nat => p.1.2) = (fun t : Tm => t.2) ∘ Prod.fst from rfl, ← List.map_map, List.zipIdx_map_fst]
      have g1 : items (S.push (.lst (sW (pre.map (·.1.2))))) (.l S.l.length) = some (sW (pre.map (·.1.2))) := st_push_get
      have g2 : (S.push (.lst (sW (pre.map (·.1.2))))).lget S.l.length = some (sW (pre.map (·.1.2))) := st_push_get
      have t1 : ∀ s, opIn true (.v (.str (tx q.1.1))) (.v (.tup [.str (PySem.Str.ofString "least"), .str (PySem.Str.ofString "most")])) s = .ok (.v (.bl (!decide (q.1.1 ∈ sidesL)))) s := fun s => by rw [sides_W]; exact in_strs rfl
      have t2 : ∀ s, opIn true (.v (.str (tx q.1.2))) (.v (.tup [.str (PySem.Str.ofString "stay"), .str (PySem.Str.ofString "need"), .str (PySem.Str.ofString "left"), .str (PySem.Str.ofString "want"), .str (PySem.Str.ofString "here"), .str (PySem.Str.ofString "got"), .str (PySem.Str.ofString "slack")])) s = .ok (.v (.bl (!decide (q.1.2 ∈ wordsL)))) s := fun s => by rw [words_W]; exact in_strs rfl
      have t3 := in_strs (neg := false) (w := q.1.2) g1
      rw [if_neg (by decide)] at t3
      refine ⟨trivial, [some (.o o), some (x), some (.v (.str (tx q.1.1))), some (.v (.str (tx q.1.2))), some (.l S.l.length), some (.v (.int q.2))], by unfold pW; simp! [k_nx], ?_⟩
      by_cases hbad : BadT ts q.2
      · refine .inr (.inr (.inr ⟨22, ["place"], [.int (q.2 : Nat)], [some (.o o), some (x), some (.v (.str (tx q.1.1))), some (.v (.str (tx q.1.2))), some (.l S.l.length), some (.v (.int q.2))], S.push (.lst (sW (pre.map (·.1.2)))), ?_, q.2, _, _, ⟨hbad, fun j hj => hk j (by omega)⟩, rfl⟩))
        obtain ⟨t, ht, hc⟩ := hbad
        rw [hq.1] at ht
        cases ht
        rw [← hpre] at hc
        unfold lb_Ruleu_initu_1
        by_cases c1 : q.1.1 ∈ sidesL
        · by_cases c2 : q.1.2 ∈ wordsL
          · have c3 : q.1.2 ∈ pre.map (·.1.2) := by
              rcases hc with z | z | z
              · exact absurd c1 z
              · exact absurd c2 z
              · exact z
            simp! [t1, c1, t2, c2, t3, c3]
          · simp! [t1, c1, t2, c2]
        · simp! [t1, c1]
      · have hc : q.1.1 ∈ sidesL ∧ q.1.2 ∈ wordsL ∧ q.1.2 ∉ pre.map (·.1.2) := by
          rw [hpre]
          refine ⟨?_, ?_, fun z => hbad ⟨q.1, hq.1, .inr (.inr z)⟩⟩
          · by_cases z : q.1.1 ∈ sidesL
            · exact z
            · exact absurd ⟨q.1, hq.1, .inl z⟩ hbad
          · by_cases z : q.1.2 ∈ wordsL
            · exact z
            · exact absurd ⟨q.1, hq.1, .inr (.inl z)⟩ hbad
        obtain ⟨c1, c2, c3⟩ := hc
        have ap : lmAppend (sW (pre.map (·.1.2))) [.v (.str (tx q.1.2))] = some (.non, sW ((pre ++ [q]).map (·.1.2))) := by
          rw [l_append (by rw [sW_len, List.length_map]; omega), sW_app, List.map_append]; rfl
        refine .inl ⟨[some (.o o), some (x), some (.v (.str (tx q.1.1))), some (.v (.str (tx q.1.2))), some (.l S.l.length), some (.v (.int q.2))], _, .inl ?_, ?_, _, _, _, rfl, rfl⟩
        · unfold lb_Ruleu_initu_1
          simp! [t1, c1, t2, c2, t3, c3, g2, ap, st_push_set]
        · intro j hj
          rw [List.length_append, List.length_singleton] at hj
          by_cases hjk : j = q.2
          · rw [hjk]; exact hbad
          · exact hk j (by omega)) (fun _ _ _ => trivial)
  rw [num_idx pW ts]
  refine ⟨r, e, ?_⟩
  rcases h with ⟨env', st', rfl, hk, o2, o3, o5, rfl, rfl⟩ | h
  · rw [List.length_zipIdx] at hk
    refine .inl ⟨?_, _, _, rfl⟩
    rcases rule_or ts with g | ⟨k, g⟩
    · exact g
    · obtain ⟨t, ht, _⟩ := g.1
      exact absurd g.1 (hk k (get_lt ht))
  · exact .inr h
theorem rule_init {x : Sl} {st : Store} {ts : List Tm} (hx : items st x = some (ts.map pW)) (hz : ts.length ≤ 10000) :
    (RuleOk ts → makeR st (m_Ruleu_initu [.o st.o.length, x] (st.pusho ⟨2, [], []⟩)) = .ok (.v (ruleW ts)) st) ∧ ∀ k, FirstT ts k → makeR st (m_Ruleu_initu [.o st.o.length, x] (st.pusho ⟨2, [], []⟩)) = .ex 22 ["place"] [.int (k : Nat)] st := by
  have hb : big = 16777216 := rfl
  have hi : items (st.pusho ⟨2, [], []⟩) x = some (ts.map pW) := by rw [items_pusho]; exact hx
  obtain ⟨gd, sr, hg⟩ : ∃ gd, srcOf x (st.pusho ⟨2, [], []⟩) = .ok ⟨ts.map pW, gd⟩ (st.pusho ⟨2, [], []⟩) ∧ ∀ acc, gd ((st.pusho ⟨2, [], []⟩).push (.lst acc)) := by
    cases x with
    | v w =>
      cases w with
      | lst xs => cases hi; exact ⟨_, rfl, fun _ => trivial⟩
      | tup xs => cases hi; exact ⟨_, rfl, fun _ => trivial⟩
      | ro xs => cases hi; exact ⟨_, rfl, fun _ => trivial⟩
      | _ => cases hi
    | l n =>
      have hi' : (st.pusho ⟨2, [], []⟩).lget n = some (ts.map pW) := hi
      refine ⟨stands (.l n) (ts.map pW), ?_, fun acc => ?_⟩
      · rw [src_l, hi']; rfl
      · show Store.lget _ n = _
        rw [st_push_lt (lget_lt hi')]; exact hi'
    | o n => cases hi
  have lc := lc_all (gd := gd) (pt := .tp [.nm 2, .nm 3]) (me := ce_Ruleu_initu_1) (env := [some (.o st.o.length), some (x), none, none, none, none]) (st := st.pusho ⟨2, [], []⟩) pW pW ts (by omega) hg (by
    intro t ht
    refine ⟨[some (.o st.o.length), some (x), some (.v (.str (tx t.1))), some (.v (.str (tx t.2))), none, none], by unfold pW; simp! [k_nx], fun acc => ?_⟩
    unfold ce_Ruleu_initu_1 pW
    simp! [k_nx])
  have mk1 : ∀ env, setOf [2] "terms" env (.v (.tup (ts.map pW))) (.o st.o.length) (st.pusho ⟨2, [], []⟩) = .nx env (st.pusho ⟨2, ["terms"], [.v (.tup (ts.map pW))]⟩) := fun env => by
    rw [set_at (z := ⟨2, [], []⟩) pusho_at (by show 2 ∈ [2]; decide) (by show 0 < 1000; decide), pusho_set]; rfl
  have mkf : ∀ env, fin .ini (st.pusho ⟨2, [], []⟩) (.nx env (st.pusho ⟨2, ["terms"], [.v (.tup (ts.map pW))]⟩)) = .ok (.v .non) (st.pusho ⟨2, ["terms"], [.v (.tup (ts.map pW))]⟩) := fun env => fin_ini_ok rfl
  have ha : attrOf [2] "terms" (.o st.o.length) ((st.pusho ⟨2, ["terms"], [.v (.tup (ts.map pW))]⟩).push (.lst [])) = .ok (.v (.tup (ts.map pW))) ((st.pusho ⟨2, ["terms"], [.v (.tup (ts.map pW))]⟩).push (.lst [])) :=
    attr_o (y := ⟨2, ["terms"], [.v (.tup (ts.map pW))]⟩) pusho_at (by show 2 ∈ [2]; decide) rfl
  have en : ∀ S : Store, enSrc [.v (.tup (ts.map pW))] S = .ok ⟨numW 0 (ts.map pW), fun _ => True⟩ S := fun _ => rfl
  obtain ⟨r, e, h⟩ := rule_loop (x := x) (S := st.pusho ⟨2, ["terms"], [.v (.tup (ts.map pW))]⟩) (o := st.o.length) hz
  refine ⟨fun hok => ?_, fun k hk => ?_⟩
  · rcases h with ⟨_, env, y, rfl⟩ | ⟨k, _, _, hk, _⟩
    · have ff : fin .ini (st.pusho ⟨2, [], []⟩) (.nx env ((st.pusho ⟨2, ["terms"], [.v (.tup (ts.map pW))]⟩).push y)) = .ok (.v .non) (st.pusho ⟨2, ["terms"], [.v (.tup (ts.map pW))]⟩) := fin_ini_push rfl
      have em : m_Ruleu_initu [.o st.o.length, x] (st.pusho ⟨2, [], []⟩) = .ok (.v .non) (st.pusho ⟨2, ["terms"], [.v (.tup (ts.map pW))]⟩) := by
        unfold m_Ruleu_initu b_Ruleu_initu
        simp! [sr, lc, mk1, ha, en, e, ff]
      rw [em]
      exact make_ok' rfl
    · exact absurd hk.1 (hok k)
  · rcases h with ⟨hok, _⟩ | ⟨k', env, y, hk', rfl⟩
    · exact absurd hk.1 (hok k)
    · have hkk : k = k' := by
        by_cases h1 : k < k'
        · exact absurd hk.1 (hk'.2 k h1)
        · by_cases h2 : k' < k
          · exact absurd hk'.1 (hk.2 k' h2)
          · omega
      subst hkk
      have ff : fin .ini (st.pusho ⟨2, [], []⟩) (.ex 22 ["place"] [.int (k : Nat)] env ((st.pusho ⟨2, ["terms"], [.v (.tup (ts.map pW))]⟩).push y)) = .ex 22 ["place"] [.int (k : Nat)] (st.pusho ⟨2, ["terms"], [.v (.tup (ts.map pW))]⟩) := fin_ini_pushx rfl
      have em : m_Ruleu_initu [.o st.o.length, x] (st.pusho ⟨2, [], []⟩) = .ex 22 ["place"] [.int (k : Nat)] (st.pusho ⟨2, ["terms"], [.v (.tup (ts.map pW))]⟩) := by
        unfold m_Ruleu_initu b_Ruleu_initu
        simp! [sr, lc, mk1, ha, en, e, ff]
      rw [em]
      exact make_ex
theorem rule_snoc {ts : List Tm} {t : Tm} (h : RuleOk ts) (h1 : t.1 ∈ sidesL) (h2 : t.2 ∈ wordsL) (h3 : t.2 ∉ ts.map (·.2)) : RuleOk (ts ++ [t]) := fun k ⟨u, hu, hc⟩ => by
  by_cases hk : k < ts.length
  · rw [List.getElem?_append_left hk] at hu
    rw [List.take_append_of_le_length (by omega)] at hc
    exact h k ⟨u, hu, hc⟩
  · have hl := get_lt hu
    rw [List.length_append, List.length_singleton] at hl
    have e : k = ts.length := by omega
    subst e
    rw [List.getElem?_append_right (Nat.le_refl _), Nat.sub_self] at hu
    have : t = u := by simpa using hu
    subst this
    rw [List.take_left' rfl] at hc
    rcases hc with z | z | z
    · exact z h1
    · exact z h2
    · exact h3 z
theorem rule_nil : RuleOk [] := fun k ⟨u, hu, _⟩ => by simp at hu
theorem rule_side {ts : List Tm} {t : Tm} (h : RuleOk ts) (ht : t ∈ ts) : t.1 ∈ sidesL ∧ t.2 ∈ wordsL := by
  obtain ⟨k, hk⟩ := List.getElem?_of_mem ht
  constructor
  · by_cases z : t.1 ∈ sidesL
    · exact z
    · exact absurd ⟨t, hk, .inl z⟩ (h k)
  · by_cases z : t.2 ∈ wordsL
    · exact z
    · exact absurd ⟨t, hk, .inr (.inl z)⟩ (h k)
theorem side_iff {s : List Nat} : s ∈ sidesL ↔ s = leastL ∨ s = mostL := by
  unfold sidesL
  simp only [List.mem_cons, List.not_mem_nil, or_false]
theorem word_iff {w : List Nat} : w ∈ wordsL ↔ w = stayL ∨ w = needL ∨ w = leftL ∨ w = wantL ∨ w = hereL ∨ w = gotL ∨ w = slackL := by
  unfold wordsL
  simp only [List.mem_cons, List.not_mem_nil, or_false]
/-! ### measures of open cars -/
structure Car where
  s : Int
  n : Int
  l : Int
  w : Int
def carW (c : Car) : W := .tup [.int c.s, .int c.n, .int c.l, .int c.w]
def meas (c : Car) (w : List Nat) : Int := if w = stayL then c.s else if w = needL then c.n else if w = leftL then c.l else if w = wantL then c.w else if w = hereL then c.s - c.l else if w = gotL then c.n - c.w else c.l - c.w
def sgn (side : List Nat) (x : Int) : Int := if side = leastL then x else -x
theorem dlook_tx : ∀ {ls : List (List Nat)} {ws : List W} {l : List Nat}, dLook (ls.map fun x => Sum.inr (tx x)) ws (.inr (tx l)) = (match ls, ws with
    | x :: ls, w :: ws => if x = l then some w else dLook (ls.map fun x => Sum.inr (tx x)) ws (.inr (tx l))
    | _, _ => none)
  | [], ws, l => rfl
  | x :: ls, [], l => rfl
  | x :: ls, w :: ws, l => by
    show (if (Sum.inr (tx x) : Key) = .inr (tx l) then some w else _) = _
    by_cases e : x = l
    · rw [if_pos (by rw [e]), e]; simp
    · rw [if_neg (fun z => e (tx_inj.mp (Sum.inr.inj z)))]; simp [e]
theorem measure_ok {c : Car} {w : List Nat} {st : Store} (hw : w ∈ wordsL) : m_measure [.v (carW c), .v (.str (tx w))] st = .ok (.v (.int (meas c w))) st := by
  have ek : ([PySem.Str.ofString "stay", PySem.Str.ofString "need", PySem.Str.ofString "left", PySem.Str.ofString "want", PySem.Str.ofString "here", PySem.Str.ofString "got", PySem.Str.ofString "slack"] : List PySem.Str).map Sum.inr = (wordsL.map fun x => (Sum.inr (tx x) : Key)) := by
    rw [stay_tx, need_tx, left_tx, want_tx, here_tx, got_tx, slack_tx]; rfl
  have lk : dLook (wordsL.map fun x => Sum.inr (tx x)) [.int c.s, .int c.n, .int c.l, .int c.w, .int (c.s - c.l), .int (c.n - c.w), .int (c.l - c.w)] (.inr (tx w)) = some (.int (meas c w)) := by
    rcases word_iff.mp hw with rfl | rfl | rfl | rfl | rfl | rfl | rfl <;> simp [wordsL, dLook, tx_inj, meas, stayL, needL, leftL, wantL, hereL, gotL, slackL]
  have dx : ∀ S, opDx (.v (.dct (wordsL.map fun x => Sum.inr (tx x)) [.int c.s, .int c.n, .int c.l, .int c.w, .int (c.s - c.l), .int (c.n - c.w), .int (c.l - c.w)])) (.v (.str (tx w))) S = .ok (.v (.int (meas c w))) S := fun S => by
    show (match dLook _ _ _ with | some w => Res.ok (Sl.v w) S | none => .bad) = _
    rw [lk]
  have ff : fin .tr st (.rt (.v (.int (meas c w))) (st.push .dead)) = .ok (.v (.int (meas c w))) st := fin_pushv rfl rfl
  have bp : bindP (.tp [.nm 2, .nm 3, .nm 4, .nm 5]) (carW c) [some (.v (carW c)), some (.v (.str (tx w))), none, none, none, none, none] = some [some (.v (carW c)), some (.v (.str (tx w))), some (.v (.int c.s)), some (.v (.int c.n)), some (.v (.int c.l)), some (.v (.int c.w)), none] := by unfold carW; simp! [k_nx]
  unfold m_measure b_measure
  simp! [bp]
  simp only [List.map_cons, List.map_nil] at ek
  rw [ek]
  simp! [dx, ff]
theorem sgn_side {side : List Nat} {x : Int} (h : side ∈ sidesL) : (side = mostL → sgn side x = 0 - x) ∧ (side ≠ mostL → sgn side x = x) ∧ (side ≠ leastL → sgn side x = -x) := by
  have z2 : ¬ mostL = leastL := by decide
  unfold sgn
  refine ⟨fun h1 => ?_, fun h1 => ?_, fun h1 => ?_⟩
  · rw [h1, if_neg z2]; omega
  · rcases side_iff.mp h with z | z
    · rw [if_pos z]
    · exact absurd z h1
  · rw [if_neg h1]
def keyW (ts : List Tm) (c : Car) : List W := ts.map fun t => W.int (sgn t.1 (meas c t.2))
theorem keyW_app {ts : List Tm} {t : Tm} {c : Car} : keyW ts c ++ [.int (sgn t.1 (meas c t.2))] = keyW (ts ++ [t]) c := by unfold keyW; rw [List.map_append]; rfl
theorem call_ok {ts : List Tm} {c : Car} {st : Store} (h : RuleOk ts) (hz : ts.length ≤ 10000) : m_Ruleu_callu [.v (ruleW ts), .v (carW c)] st = .ok (.v (.tup (keyW ts c))) st := by
  have hb : big = 16777216 := rfl
  obtain ⟨env', st', e, ⟨hst, o3, o4, o5, he⟩⟩ := loop_pre (gd := fun _ => True) (pt := .tp [.nm 3, .nm 4]) (mb := lb_Ruleu_callu_1) pW (fun pre env st' => st' = st.push (.lst (keyW pre c)) ∧ ∃ o3 o4 o5, env = [some (.v (ruleW ts)), some (.v (carW c)), some (.l st.l.length), o3, o4, o5]) ts [some (.v (ruleW ts)), some (.v (carW c)), some (.l st.l.length), none, none, none] (st.push (.lst [])) ⟨rfl, none, none, none, rfl⟩ (by
    rintro pre t post env st' hz' ⟨rfl, o3, o4, o5, rfl⟩
    have hm : t ∈ ts := by rw [hz']; simp
    have hpl : pre.length < ts.length := by rw [hz', List.length_append, List.length_cons]; omega
    obtain ⟨h1, h2⟩ := rule_side h hm
    have ms := measure_ok (c := c) (st := st.push (.lst (keyW pre c))) h2
    have g1 : (st.push (.lst (keyW pre c))).lget st.l.length = some (keyW pre c) := st_push_get
    have ap : lmAppend (keyW pre c) [.v (.int (sgn t.1 (meas c t.2)))] = some (.non, keyW (pre ++ [t]) c) := by
      rw [l_append (by unfold keyW; rw [List.length_map]; omega), keyW_app]
    refine ⟨trivial, [some (.v (ruleW ts)), some (.v (carW c)), some (.l st.l.length), some (.v (.str (tx t.1))), some (.v (.str (tx t.2))), o5], by unfold pW; simp! [k_nx], [some (.v (ruleW ts)), some (.v (carW c)), some (.l st.l.length), some (.v (.str (tx t.1))), some (.v (.str (tx t.2))), some (.v (.int (meas c t.2)))], _, .inl ?_, rfl, _, _, _, rfl⟩
    unfold lb_Ruleu_callu_1
    rw [least_tx]
    by_cases z : t.1 = leastL
    · have e1 : sgn t.1 (meas c t.2) = meas c t.2 := by unfold sgn; rw [if_pos z]
      rw [e1] at ap
      simp! [ms, g1, tx_dec, z, ap, st_push_set]
    · have e1 : sgn t.1 (meas c t.2) = -meas c t.2 := by unfold sgn; rw [if_neg z]
      rw [e1] at ap
      simp! [ms, g1, tx_dec, z, ap, st_push_set]) (fun _ _ _ => trivial)
  rw [hst, he] at e
  have g1 : (st.push (.lst (keyW ts c))).lget st.l.length = some (keyW ts c) := st_push_get
  have ff : fin .tr st (.rt (.v (.tup (keyW ts c))) (st.push (.lst (keyW ts c)))) = .ok (.v (.tup (keyW ts c))) st := fin_pushv rfl rfl
  unfold m_Ruleu_callu b_Ruleu_callu
  simp! [rule_terms, e, g1, ff]
/-! ### drawn texts -/
theorem pick {ss : List PySem.Str} {n : Nat} (hs : ∀ s ∈ ss, s.length ≤ n) {r : Int} (h0 : 0 ≤ r) (h1 : r < ss.length) : ∃ cs, atI (ss.map W.str) r = some (.str (tx cs)) ∧ cs.length ≤ n ∧ tx cs ∈ ss := by
  obtain ⟨k, rfl⟩ := Int.eq_ofNat_of_zero_le h0
  have hk : k < ss.length := by omega
  have hx : ss[k]? = some ss[k] := List.getElem?_eq_getElem hk
  obtain ⟨cs, e⟩ := tx_ex ss[k]
  refine ⟨cs, ?_, ?_, ?_⟩
  · rw [at_map (f := W.str) hx, e]
  · have := hs _ (List.getElem_mem hk)
    rw [e, tx_len] at this; exact this
  · rw [← e]; exact List.getElem_mem hk
theorem sign_at {zs : List Nat} (hz : zs.length ≤ 1000) {r : Int} (h0 : 0 ≤ r) (h1 : r < zs.length) (st : Store) : ∃ c ∈ zs, kIx none (.v (.str (tx zs))) r st = .ok (.v (.str (tx [c]))) st := by
  have hb : big = 16777216 := rfl
  obtain ⟨k, rfl⟩ := Int.eq_ofNat_of_zero_le h0
  have hk : k < zs.length := by omega
  refine ⟨zs[k], List.getElem_mem hk, ?_⟩
  rw [k_ixs (by rw [tx_len]; omega)]
  show kAtS (atI zs (k : Nat)) st = _
  rw [atI_nat', List.getElem?_eq_getElem hk]; rfl
theorem len_tx {zs : List Nat} (hz : zs.length ≤ 100000) (st : Store) : kLen none (.v (.str (tx zs))) st = .ok (.v (.int zs.length)) st := by
  have hb : big = 16777216 := rfl
  rw [k_lenS (by rw [tx_len]; omega), tx_len]
theorem join_ones : ∀ {cs : List Nat}, joinC [] (cs.map fun c => [c]) = cs
  | [] => rfl
  | [c] => rfl
  | c :: d :: cs => by
    have ih := join_ones (cs := d :: cs)
    show [c] ++ ([] ++ TL.joinL [] ((d :: cs).map fun c => [c])) = _
    rw [List.nil_append]
    show [c] ++ joinC [] ((d :: cs).map fun c => [c]) = _
    rw [ih]; rfl
theorem ones_len {cs : List Nat} : ((cs.map fun c => [c]).map List.length).sum = cs.length := by
  rw [List.map_map]
  induction cs with
  | nil => rfl
  | cons x xs ih =>
    have e : (x :: xs).length = 1 + xs.length := by rw [List.length_cons]; omega
    rw [List.map_cons, List.sum_cons, ih, e]; rfl
theorem join_none {cs : List Nat} {st : Store} (h : cs.length ≤ 100000) : joinOf (tx []) (.v (.lst (cs.map fun c => W.str (tx [c])))) st = .ok (.v (.str (tx cs))) st := by
  have j := joinT (s := []) (ps := cs.map fun c => [c]) (y := .v (.lst (cs.map fun c => W.str (tx [c])))) (st := st) (by rw [List.map_map, List.map_map]; rfl) (by rw [ones_len, List.length_map]; show _ + _ * 0 ≤ _; omega)
  rw [join_ones] at j
  exact j
theorem none_is : PySem.Str.ofString "" = tx [] := by decide +kernel
theorem fin_true {s : Store} (h : s.o = []) : ∃ st', fin .tr emp (.rt (.v (.bl true)) s) = .ok (.v (.bl true)) st' := ⟨_, fin_cutv h⟩
def CarOk (c : Car) : Prop := (1 ≤ c.s ∧ c.s ≤ 12) ∧ (1 ≤ c.n ∧ c.n ≤ c.s) ∧ (1 ≤ c.l ∧ c.l ≤ c.s) ∧ 1 ≤ c.w ∧ c.w ≤ c.n ∧ c.n - c.w ≤ c.s - c.l
theorem car_ok {st : Store} {p : Nat} {m : Int} (hp : Pl st p) (h0 : 1 ≤ m) (hm : m ≤ 12) : ∃ (c : Car) (st' : Store), m_law_car [.l p, .v (.int m)] st = .ok (.v (carW c)) st' ∧ Pw p st st' ∧ CarOk c ∧ c.s ≤ m := by
  obtain ⟨r1, s1, e1, w1, p1, q1⟩ := take_ok (m := m) hp (by omega) (wide_nat (by omega))
  obtain ⟨r2, s2, e2, w2, p2, q2⟩ := take_ok (m := 1 + r1) w1.pl (by omega) (wide_nat (by omega))
  obtain ⟨r3, s3, e3, w3, p3, q3⟩ := take_ok (m := 1 + r1) w2.pl (by omega) (wide_nat (by omega))
  by_cases h : 1 + r2 < 1 + r1 - (1 + r3) + 1
  · obtain ⟨r4, s4, e4, w4, p4, q4⟩ := take_ok (m := 1 + r2) w3.pl (by omega) (wide_nat (by omega))
    have hw := ((w1.trans w2).trans w3).trans w4
    refine ⟨⟨1 + r1, 1 + r2, 1 + r3, 1 + r2 - r4⟩, s4, ?_, hw, by unfold CarOk; dsimp only; omega, by dsimp only; omega⟩
    unfold m_law_car b_law_car carW
    simp! [e1, e2, e3, h, e4, fin_eqv hw.len hw.o]
  · obtain ⟨r4, s4, e4, w4, p4, q4⟩ := take_ok (m := 1 + r1 - (1 + r3) + 1) w3.pl (by omega) (wide_nat (by omega))
    have hw := ((w1.trans w2).trans w3).trans w4
    refine ⟨⟨1 + r1, 1 + r2, 1 + r3, 1 + r2 - r4⟩, s4, ?_, hw, by unfold CarOk; dsimp only; omega, by dsimp only; omega⟩
    unfold m_law_car b_law_car carW
    simp! [e1, e2, e3, h, e4, fin_eqv hw.len hw.o]
/-! ### drawn rules and cars -/
theorem unpush2 {p : Nat} {s S' : Store} {x y : Lo} (h : Pw p ((s.push x).push y) S') (hp : p < s.l.length) : ∃ s2, S' = (s2.push x).push y ∧ Pw p s s2 := by
  obtain ⟨s1, rfl, h1⟩ := h.unpush (by rw [st_push_len]; omega)
  obtain ⟨s2, rfl, h2⟩ := h1.unpush hp
  exact ⟨s2, rfl, h2⟩
theorem erase_map {α β : Type} {f : α → β} : ∀ (xs : List α) (k : Nat), (xs.map f).eraseIdx k = (xs.eraseIdx k).map f
  | [], _ => rfl
  | x :: xs, 0 => rfl
  | x :: xs, k + 1 => by rw [List.map_cons, List.eraseIdx_cons_succ, List.eraseIdx_cons_succ, List.map_cons, erase_map xs k]
theorem pW_app {ts : List Tm} {t : Tm} : ts.map pW ++ [.tup [.str (tx t.1), .str (tx t.2)]] = (ts ++ [t]).map pW := by rw [List.map_append]; rfl
theorem pick_side {r : Int} (h0 : 0 ≤ r) (h1 : r < 2) : ∃ sd, sd ∈ sidesL ∧ atI [W.str (PySem.Str.ofString "least"), .str (PySem.Str.ofString "most")] r = some (.str (tx sd)) := by
  rw [sides_W]
  obtain ⟨k, rfl⟩ := Int.eq_ofNat_of_zero_le h0
  have hk : k < sidesL.length := by show k < 2; omega
  refine ⟨sidesL[k], List.getElem_mem hk, ?_⟩
  rw [atI_nat']; unfold sW
  rw [List.getElem?_map, List.getElem?_map, List.getElem?_eq_getElem hk]; rfl
theorem mem_erase {ws : List (List Nat)} (h : ws.Nodup) {k : Nat} (hk : k < ws.length) : ws[k] ∉ ws.eraseIdx k := by
  induction ws generalizing k with
  | nil => simp at hk
  | cons w ws ih =>
    rw [List.nodup_cons] at h
    cases k with
    | zero => simpa using h.1
    | succ k =>
      rw [List.eraseIdx_cons_succ, List.getElem_cons_succ]
      intro z
      rcases List.mem_cons.mp z with z | z
      · exact h.1 (z ▸ List.getElem_mem _)
      · exact ih h.2 (by simpa using hk) z
theorem terms_ok {st : Store} {p : Nat} (hp : Pl st p) {m : Nat} (hm : m ≤ 7) : ∃ (ts : List Tm) (st' : Store), m_law_terms [.l p, .v (.int (m : Nat))] st = .ok (.v (.lst (ts.map pW))) st' ∧ Pw p st st' ∧ RuleOk ts ∧ ts.length ≤ m := by
  have hb : big = 16777216 := rfl
  have hpl := hp.lt
  obtain ⟨r0, S0, f0, y0, p0, q0⟩ := take_ok (st := (st.push (.lst (sW wordsL))).push (.lst [])) (m := (m : Int) + 1) hp.push.push (by omega) (wide_nat (by omega))
  obtain ⟨s0, rfl, x0⟩ := unpush2 y0 hpl
  have l0 : s0.l.length = st.l.length := x0.len
  obtain ⟨n, rfl⟩ := Int.eq_ofNat_of_zero_le p0
  obtain ⟨env5, st5, e5, ⟨s, ws, ts, o5, o6, hw, hn, hws, hok, hts, hwl, hst, henv⟩⟩ := loop_inv (gd := fun _ => True) (pt := .nm 4) (mb := lb_law_terms_1)
    (fun j env st' => ∃ (s : Store) (ws : List (List Nat)) (ts : List Tm) (o5 o6 : Option Sl), Pw p st s ∧ ws.Nodup ∧ (∀ w ∈ ws, w ∈ wordsL ∧ w ∉ ts.map (·.2)) ∧ RuleOk ts ∧ ts.length = j ∧ ws.length + j = 7 ∧ st' = (s.push (.lst (sW ws))).push (.lst (ts.map pW)) ∧ env = [some (.l p), some (.v (.int (m : Nat))), some (.l st.l.length), some (.l (st.l.length + 1)), o5, o6]) (rangeW 0 n) 0
    [some (.l p), some (.v (.int (m : Nat))), some (.l st.l.length), some (.l (st.l.length + 1)), none, none] ((s0.push (.lst (sW wordsL))).push (.lst [])) ⟨s0, wordsL, [], none, none, x0, by decide, by simp, rule_nil, rfl, rfl, rfl, rfl⟩ (by
      rintro j w env st' hj ⟨s, ws, ts, o5, o6, hw, hn, hws, hok, hts, hwl, rfl, rfl⟩
      obtain ⟨hlt, rfl⟩ := range_at hj
      have hl := hw.len
      have sl : s.l.length = st.l.length := hl
      have hps : Pl s p := hw.pl
      have gw : ∀ (s : Store) (ws : List (List Nat)) (x : Lo), s.l.length = st.l.length → ((s.push (.lst (sW ws))).push x).lget st.l.length = some (sW ws) := fun s ws x h => by
        rw [st_push_lt (by rw [st_push_len]; omega), ← h]; exact st_push_get
      have gp : ∀ (s : Store) (x : Lo) (ys : List W), s.l.length = st.l.length → ((s.push x).push (.lst ys)).lget (st.l.length + 1) = some ys := fun s x ys h => push_get (by rw [st_push_len, h])
      have sw : ∀ (s : Store) (ws ws' : List (List Nat)) (x : Lo), s.l.length = st.l.length → ((s.push (.lst (sW ws))).push x).setl st.l.length (.lst (sW ws')) = (s.push (.lst (sW ws'))).push x := fun s ws ws' x h => by
        rw [st_push_setl (by rw [st_push_len]; omega), push_set h]
      have spp : ∀ (s : Store) (x : Lo) (ys zs : List W), s.l.length = st.l.length → ((s.push x).push (.lst ys)).setl (st.l.length + 1) (.lst zs) = (s.push x).push (.lst zs) := fun s x ys zs h => push_set (by rw [st_push_len, h])
      obtain ⟨r1, S1, f1, y1, p1, q1⟩ := take_ok (st := (s.push (.lst (sW ws))).push (.lst (ts.map pW))) (m := ws.length) hps.push.push (by omega) (wide_nat (by omega))
      obtain ⟨s1, rfl, x1⟩ := unpush2 y1 (by omega)
      have l1 : s1.l.length = st.l.length := by rw [x1.len, sl]
      obtain ⟨k, rfl⟩ := Int.eq_ofNat_of_zero_le p1
      have hk : k < ws.length := by omega
      have pk : lmPopAt (sW ws) [.v (.int (k : Int))] = some (.str (tx ws[k]), sW (ws.eraseIdx k)) := by
        rw [l_popAt (by omega) (by rw [sW_len]; omega) (by rw [sW_len]; omega), Int.toNat_natCast]
        unfold sW
        rw [List.getElem?_map, List.getElem?_map, List.getElem?_eq_getElem hk, erase_map, erase_map]; rfl
      obtain ⟨r2, S2, f2, y2, p2, q2⟩ := take_ok (st := (s1.push (.lst (sW (ws.eraseIdx k)))).push (.lst (ts.map pW))) (m := 2) x1.pl.push.push (by omega) (wide_nat (by omega))
      obtain ⟨s2, rfl, x2⟩ := unpush2 y2 (by omega)
      have l2 : s2.l.length = st.l.length := by rw [x2.len, l1]
      obtain ⟨sd, hsm, hsd⟩ := pick_side p2 q2
      have ap : lmAppend (ts.map pW) [.v (.tup [.str (tx sd), .str (tx ws[k])])] = some (.non, (ts ++ [(sd, ws[k])]).map pW) := by
        rw [l_append (by rw [List.length_map]; omega)]
        exact congrArg (fun z => some (W.non, z)) (pW_app (t := (sd, ws[k])))
      have hwk := hws _ (List.getElem_mem hk)
      refine ⟨trivial, _, b_nm, [some (.l p), some (.v (.int (m : Nat))), some (.l st.l.length), some (.l (st.l.length + 1)), some (.v (.int (0 + j))), some (.v (.str (tx ws[k])))], (s2.push (.lst (sW (ws.eraseIdx k)))).push (.lst ((ts ++ [(sd, ws[k])]).map pW)), .inl ?_, s2, ws.eraseIdx k, ts ++ [(sd, ws[k])], _, _, (hw.trans x1).trans x2, hn.sublist (List.eraseIdx_sublist _ _), ?_, rule_snoc hok hsm hwk.1 hwk.2, by rw [List.length_append, hts]; rfl, by rw [List.length_eraseIdx_of_lt hk]; omega, rfl, rfl⟩
      · unfold lb_law_terms_1
        simp! [gw s ws _ sl, sW_len, f1, gw s1 ws _ l1, pk, sw s1 ws _ _ l1, gp s1 _ _ l1, f2, hsd, gp s2 _ _ l2, ap, spp s2 _ _ _ l2]
      · intro w hwm
        have hwm' := hws w (List.mem_of_mem_eraseIdx hwm)
        refine ⟨hwm'.1, fun z => ?_⟩
        rw [List.map_append] at z
        rcases List.mem_append.mp z with z | z
        · exact hwm'.2 z
        · have e : w = ws[k] := by simpa using z
          exact mem_erase hn hk (e ▸ hwm)) (fun _ _ _ => trivial)
  rw [range_len, Nat.zero_add] at hts
  rw [hst, henv] at e5
  have sl : s.l.length = st.l.length := hw.len
  have cut : Store.mk (((s.push (.lst (sW ws))).push (.lst (ts.map pW))).l.take st.l.length) st.o = s := by
    rw [← sl, ← hw.o]
    show Store.mk (((s.l ++ [_]) ++ [_]).take s.l.length) s.o = s
    rw [List.append_assoc, List.take_left' rfl]
  have ff : fin .tr st (.rt (.l (st.l.length + 1)) ((s.push (.lst (sW ws))).push (.lst (ts.map pW)))) = .ok (.v (.lst (ts.map pW))) s := by
    rw [fin_lst (st1 := (s.push (.lst (sW ws))).push (.lst (ts.map pW))) (k := st.l.length + 1) (xs := ts.map pW) hw.o (by omega) (push_get (by rw [st_push_len, sl])), cut]
  refine ⟨ts, s, ?_, hw, hok, by omega⟩
  have ww : [W.str (PySem.Str.ofString "stay"), .str (PySem.Str.ofString "need"), .str (PySem.Str.ofString "left"), .str (PySem.Str.ofString "want"), .str (PySem.Str.ofString "here"), .str (PySem.Str.ofString "got"), .str (PySem.Str.ofString "slack")] = sW wordsL := words_W
  have wl : (sW wordsL).length ≤ big := by rw [sW_len]; decide
  unfold m_law_terms b_law_terms
  simp! [ww, wl, st_push_len, f0, k_itRN (n := n) (st := (s0.push (.lst (sW wordsL))).push (.lst [])) (by omega), e5, ff]
theorem pool_new (c : Int) (st : Store) : ∃ st', m_law_pool [.v (.int c)] st = .ok (.l st.l.length) st' ∧ Pl st' st.l.length ∧ st'.o = st.o := by
  obtain ⟨a, b, e⟩ := pool_ok c st
  exact ⟨_, e, ⟨a, b, 0, st_push_get⟩, rfl⟩
theorem pool_at (ns : List Int) (k : Nat) (st : Store) (ho : st.o = []) : ∃ c n st', m_law_cell [.v (.ro (ns.map W.int)), .v (.int (k : Nat))] st = .ok (.v (.int c)) st ∧ m_law_pool [.v (.int c)] st = .ok (.l n) st' ∧ Pl st' n ∧ st'.o = [] ∧ n = st.l.length := by
  obtain ⟨c, ec, _⟩ := cell_ok ns k st
  obtain ⟨st', ep, hP, hO⟩ := pool_new c st
  exact ⟨c, _, st', ec, ep, hP, by rw [hO, ho], rfl⟩
/-! ### the law's own numbers of cars -/
theorem law_measure_ok {c : Car} {w : List Nat} {st : Store} : m_law_measure [.v (carW c), .v (.str (tx w))] st = .ok (.v (.int (meas c w))) st := by
  have i0 : ∀ S, items S (.v (carW c)) = some [.int c.s, .int c.n, .int c.l, .int c.w] := fun _ => rfl
  unfold m_law_measure b_law_measure meas
  rw [stay_tx, need_tx, left_tx, want_tx, here_tx, got_tx]
  by_cases h1 : w = stayL
  · rw [if_pos h1]; simp! [tx_dec, h1, i0, fin_same]
  rw [if_neg h1]
  by_cases h2 : w = needL
  · rw [if_pos h2]; rw [h2] at h1; simp! [tx_dec, h2, h1, i0, fin_same]
  rw [if_neg h2]
  by_cases h3 : w = leftL
  · rw [if_pos h3]; rw [h3] at h1 h2; simp! [tx_dec, h3, h1, h2, i0, fin_same]
  rw [if_neg h3]
  by_cases h4 : w = wantL
  · rw [if_pos h4]; rw [h4] at h1 h2 h3; simp! [tx_dec, h4, h1, h2, h3, i0, fin_same]
  rw [if_neg h4]
  by_cases h5 : w = hereL
  · rw [if_pos h5]; rw [h5] at h1 h2 h3 h4; simp! [tx_dec, h5, h1, h2, h3, h4, i0, fin_same]
  rw [if_neg h5]
  by_cases h6 : w = gotL
  · rw [if_pos h6]; rw [h6] at h1 h2 h3 h4 h5; simp! [tx_dec, h6, h1, h2, h3, h4, h5, i0, fin_same]
  rw [if_neg h6]
  simp! [tx_dec, h6, h1, h2, h3, h4, h5, i0, fin_same]
theorem law_key_ok {ts : List Tm} {c : Car} {st : Store} (h : RuleOk ts) (hz : ts.length ≤ 10000) : m_law_key [.v (.lst (ts.map pW)), .v (carW c)] st = .ok (.v (.lst (keyW ts c))) st := by
  have hb : big = 16777216 := rfl
  obtain ⟨env', st', e, ⟨hst, o3, o4, he⟩⟩ := loop_pre (gd := fun _ => True) (pt := .nm 3) (mb := lb_law_key_1) pW (fun pre env st' => st' = st.push (.lst (keyW pre c)) ∧ ∃ o3 o4, env = [some (.v (.lst (ts.map pW))), some (.v (carW c)), some (.l st.l.length), o3, o4]) ts [some (.v (.lst (ts.map pW))), some (.v (carW c)), some (.l st.l.length), none, none] (st.push (.lst [])) ⟨rfl, none, none, rfl⟩ (by
    rintro pre t post env st' hz' ⟨rfl, o3, o4, rfl⟩
    have hm : t ∈ ts := by rw [hz']; simp
    have hpl : pre.length < ts.length := by rw [hz', List.length_append, List.length_cons]; omega
    obtain ⟨h1, h2⟩ := rule_side h hm
    have ms := law_measure_ok (c := c) (w := t.2) (st := st.push (.lst (keyW pre c)))
    have ip : ∀ s, items s (.v (pW t)) = some [.str (tx t.1), .str (tx t.2)] := fun _ => rfl
    have g1 : (st.push (.lst (keyW pre c))).lget st.l.length = some (keyW pre c) := st_push_get
    have ap : lmAppend (keyW pre c) [.v (.int (sgn t.1 (meas c t.2)))] = some (.non, keyW (pre ++ [t]) c) := by
      rw [l_append (by unfold keyW; rw [List.length_map]; omega), keyW_app]
    obtain ⟨g, g', _⟩ := sgn_side (x := meas c t.2) h1
    refine ⟨trivial, _, b_nm, [some (.v (.lst (ts.map pW))), some (.v (carW c)), some (.l st.l.length), some (.v (pW t)), some (.v (.int (sgn t.1 (meas c t.2))))], _, .inl ?_, rfl, _, _, rfl⟩
    unfold lb_law_key_1
    rw [most_tx]
    by_cases z : t.1 = mostL
    · rw [g z] at ap ⊢
      simp! [ip, ms, g1, tx_dec, z, ap, st_push_set]
    · rw [g' z] at ap ⊢
      simp! [ip, ms, g1, tx_dec, z, ap, st_push_set]) (fun _ _ _ => trivial)
  rw [hst, he] at e
  unfold m_law_key b_law_key
  simp! [e, fin_pushl]
/-! ### numbers compared one by one -/
theorem lexI_self : ∀ l : List Int, lexI l l = false
  | [] => rfl
  | x :: l => by unfold lexI; rw [if_pos rfl]; exact lexI_self l
theorem lexI_at : ∀ {xs ys : List Int} {j : Nat} {a b : Int}, xs.take j = ys.take j → xs[j]? = some a → ys[j]? = some b → a ≠ b → lexI xs ys = decide (a < b)
  | [], _, j, _, _, _, h, _, _ => by simp at h
  | _ :: _, [], j, _, _, _, _, h, _ => by simp at h
  | x :: xs, y :: ys, 0, a, b, _, h1, h2, hn => by
    simp at h1 h2
    subst h1 h2
    unfold lexI
    rw [if_neg hn]
  | x :: xs, y :: ys, j + 1, a, b, h, h1, h2, hn => by
    rw [List.take_succ_cons, List.take_succ_cons, List.cons.injEq] at h
    unfold lexI
    rw [if_pos h.1]
    exact lexI_at h.2 (by simpa using h1) (by simpa using h2) hn
theorem zip_all : ∀ {xs ys : List Int}, xs.length = ys.length → (∀ q ∈ xs.zip ys, q.1 = q.2) → xs = ys
  | [], [], _, _ => rfl
  | [], _ :: _, h, _ => by cases h
  | _ :: _, [], h, _ => by cases h
  | x :: xs, y :: ys, h, hq => by
    have h1 := hq (x, y) (by simp)
    have h2 := zip_all (xs := xs) (ys := ys) (by simpa using h) fun q hm => hq q (by simp [List.zip_cons_cons]; right; exact hm)
    rw [h2, show x = y from h1]
theorem ahead_ok {xs ys : List Int} {st : Store} (hl : xs.length = ys.length) (hz : xs.length ≤ 3000) : m_law_ahead [.v (.lst (xs.map W.int)), .v (.lst (ys.map W.int))] st = .ok (.v (.bl (lexI xs ys))) st := by
  have hb : big = 16777216 := rfl
  obtain ⟨r, e, hr⟩ := loop_gen (gd := fun _ => True) (pt := .nm 2) (mb := lb_law_ahead_1) (fun q : (Int × Int) × Nat => W.int q.2)
    (fun pre env st' => st' = st ∧ (∃ o, env = [some (.v (.lst (xs.map W.int))), some (.v (.lst (ys.map W.int))), o]) ∧ ∀ q ∈ pre, q.1.1 = q.1.2)
    (fun r => r = .rt (.v (.bl (lexI xs ys))) st) (xs.zip ys).zipIdx (xs.zip ys).zipIdx [] _ _ rfl ⟨rfl, ⟨none, rfl⟩, fun _ h => by cases h⟩ (by
      rintro pre q post env st' hz ⟨rfl, ⟨o, rfl⟩, hp⟩
      obtain ⟨a, b, ha, hb2, hc⟩ := idx_pre hz
      have hq := zip_mem (xs := xs.zip ys) (q := q) (by rw [hz]; simp)
      obtain ⟨i1, i2⟩ := List.getElem?_zip_eq_some.mp hq.1
      refine ⟨trivial, _, b_nm, ?_⟩
      unfold lb_law_ahead_1
      by_cases c : q.1.1 = q.1.2
      · refine .inl ⟨[some (.v (.lst (xs.map W.int))), some (.v (.lst (ys.map W.int))), some (.v (.int q.2))], st', .inl ?_, rfl, ⟨_, rfl⟩, fun y hy => ?_⟩
        · simp! [at_map i1, at_map i2, c]
        · rcases List.mem_append.mp hy with h | h
          · exact hp y h
          · rw [List.mem_singleton.mp h]; exact c
      · refine .inr (.inr ⟨.v (.bl (lexI xs ys)), st', ?_, rfl⟩)
        have ht : xs.take q.2 = ys.take q.2 := by
          have e1 : (xs.zip ys).take q.2 = a := by rw [ha, hc, List.take_left']; rfl
          have e2 : xs.take q.2 = ((xs.zip ys).take q.2).map Prod.fst := by rw [List.map_take, List.map_fst_zip (by omega)]
          have e3 : ys.take q.2 = ((xs.zip ys).take q.2).map Prod.snd := by rw [List.map_take, List.map_snd_zip (by omega)]
          rw [e2, e3, e1]
          apply List.map_congr_left
          intro z hz'
          obtain ⟨k, hk⟩ := List.getElem?_of_mem hz'
          have : (z, k) ∈ pre := by rw [hb2]; exact List.mk_mem_zipIdx_iff_getElem?.mpr hk
          exact hp _ this
        have := lexI_at ht i1 i2 c
        simp! [at_map i1, at_map i2, c, this]) (fun _ _ _ => trivial)
  have er : rangeW 0 (xs.map W.int).length = (xs.zip ys).zipIdx.map fun q => W.int q.2 := by
    rw [← range_idx, List.length_zip, List.length_map, hl, Nat.min_self]
  rw [← er] at e
  unfold m_law_ahead b_law_ahead
  rcases hr with ⟨env', st', rfl, hst, _, hp⟩ | rfl
  · have hx : xs = ys := by
      refine zip_all hl fun z hz' => ?_
      obtain ⟨k, hk⟩ := List.getElem?_of_mem hz'
      exact hp (z, k) (List.mk_mem_zipIdx_iff_getElem?.mpr hk)
    have : lexI xs ys = false := by rw [hx]; exact lexI_self ys
    subst hst
    simp! [k_itRN (n := (xs.map W.int).length) (st := st') (by rw [List.length_map]; omega), e, fin_same, this]
  · simp! [k_itRN (n := (xs.map W.int).length) (st := st) (by rw [List.length_map]; omega), e, fin_same]
/-! ### cars in the order of a rule -/
def kyN (ts : List Tm) (c : Car) : List Int := ts.map fun t => sgn t.1 (meas c t.2)
theorem keyW_int {ts : List Tm} {c : Car} : keyW ts c = (kyN ts c).map W.int := by unfold keyW kyN; rw [List.map_map]; rfl
def kAt (ts : List Tm) (cs : List Car) (i : Nat) : List Int := kyN ts (cs.getD i ⟨0, 0, 0, 0⟩)
theorem kAt_len {ts : List Tm} {cs : List Car} : ∀ i, (kAt ts cs i).length = ts.length := fun i => by unfold kAt kyN; rw [List.length_map]
def natW (xs : List Nat) : List W := xs.map fun i => W.int ((i : Nat) : Int)
theorem natW_len {xs : List Nat} : (natW xs).length = xs.length := by unfold natW; rw [List.length_map]
theorem natW_ints {xs : List Nat} : natW xs = (xs.map fun i => ((i : Nat) : Int)).map W.int := by unfold natW; rw [List.map_map]; rfl
def ordL (ts : List Tm) (cs : List Car) : List Nat := ordK (kAt ts cs) cs.length
theorem at_car {cs : List Car} {i : Nat} (h : i < cs.length) : atI (cs.map carW) (i : Int) = some (carW (cs.getD i ⟨0, 0, 0, 0⟩)) := by
  rw [atI_nat', List.getElem?_map, List.getElem?_eq_getElem h, List.getD_eq_getElem?_getD, List.getElem?_eq_getElem h]; rfl
theorem sort_ok {ts : List Tm} {cs : List Car} {x : Sl} {st : Store} (h : RuleOk ts) (hz : ts.length ≤ 10000) (hx : items st x = some (cs.map carW)) (hc : cs.length ≤ 10000) :
    mSortK (mCons (mLRg1 false (mCall fLen (mCons (mVar 1) mNil))) mNil) ky_Rule_order_1 [some (.v (ruleW ts)), some (x)] st = .ok (.l st.l.length) (st.push (.lst (natW (ordL ts cs)))) := by
  have hb : big = 16777216 := rfl
  have rg : lrgGo false 0 ((cs.length : Nat) : Int) st = .ok (.v (.lst (((List.range cs.length).map fun i => ((i : Nat) : Int)).map W.int))) st := by
    rw [lrg_v (by omega) (by omega) (by omega) (by omega), rgI_nat]
  have e2 : ((List.range cs.length).map fun i => ((i : Nat) : Int)).map W.int = (List.range cs.length).map fun i => W.int ((i : Nat) : Int) := by rw [List.map_map]; rfl
  have e3 : natW (ordL ts cs) = byK ((List.range cs.length).map (keyD (kAt ts cs))) ((List.range cs.length).map fun i => W.int ((i : Nat) : Int)) := (byK_ord kAt_len).symm
  rw [e3]
  refine e_sortK (s := .v (.lst ((List.range cs.length).map fun i => W.int ((i : Nat) : Int)))) (ws := (List.range cs.length).map (keyV (kAt ts cs))) ?_ rfl ?_ (wKeys_keyV _) keyD_alike
  · rw [← e2]
    simp! [hx, List.length_map, rg]
  · have key : ∀ i, i < cs.length → ky_Rule_order_1 ([some (.v (ruleW ts)), some (x)] ++ [some (.v (.int ((i : Nat) : Int)))]) st = .ok (.v (keyV (kAt ts cs) i)) st := fun i hi => by
      have ac := at_car hi
      have co := call_ok (c := cs.getD i ⟨0, 0, 0, 0⟩) (st := st) h hz
      rw [keyW_int] at co
      unfold ky_Rule_order_1 keyV kAt
      simp! [hx, ac, rule_is, co]
    have := keysOf_map (me := ky_Rule_order_1) (env := [some (.v (ruleW ts)), some (x)]) (st := st) (f := fun w => match w with | .int i => keyV (kAt ts cs) i.toNat | _ => .non) (ys := (List.range cs.length).map fun i => W.int ((i : Nat) : Int)) fun w hw => by
      obtain ⟨i, hi, rfl⟩ := List.mem_map.mp hw
      rw [List.mem_range] at hi
      rw [key i hi]
      show _ = Res.ok (Sl.v (keyV _ ((i : Nat) : Int).toNat)) st
      rw [Int.toNat_natCast]
    rw [this, List.map_map]
    congr 1
theorem order_ok {ts : List Tm} {cs : List Car} {x : Sl} {st : Store} (h : RuleOk ts) (hz : ts.length ≤ 10000) (hx : items st x = some (cs.map carW)) (hc : cs.length ≤ 10000) :
    m_Rule_order [.v (ruleW ts), x] st = .ok (.v (.lst (natW (ordL ts cs)))) st := by
  have e := sort_ok h hz hx hc
  unfold m_Rule_order b_Rule_order
  simp! [e, fin_pushl]
theorem rule_of {ts : List Tm} {st : Store} : isOf 2 "order" st (.v (ruleW ts)) = true := rfl
theorem rule_ofs {ts : List Tm} {st : Store} : isOf 2 "serve" st (.v (ruleW ts)) = true := rfl
theorem serve_ok {ts : List Tm} {cs : List Car} {x : Sl} {st : Store} {w : Nat} (h : RuleOk ts) (hz : ts.length ≤ 10000) (hx : items st x = some (cs.map carW)) (hc : cs.length ≤ 10000) :
    m_Rule_serve [.v (ruleW ts), x, .v (.int (w : Int))] st = .ok (.v (.lst ((sortI (((ordL ts cs).take w).map fun i => ((i : Nat) : Int))).map W.int))) st := by
  have e := order_ok h hz hx hc
  have fs := f_sortA (ns := ((ordL ts cs).take w).map fun i => ((i : Nat) : Int)) (x := .v (.lst (natW ((ordL ts cs).take w)))) (st := st) (by rw [natW_ints]; rfl)
  have ct : cutW (natW (ordL ts cs)) none (some (w : Int)) = natW ((ordL ts cs).take w) := by rw [cut_to]; unfold natW; rw [List.map_take]
  unfold m_Rule_serve b_Rule_serve
  simp! [rule_is, rule_of, e, ct, fs]
/-! ### the law's own order -/
theorem lexI_ahd : ∀ {a b : List Int}, a.length = b.length → lexI a b = ahd a b
  | [], [], _ => by simp [lexI, ahd]
  | a :: as, b :: bs, h => by
    unfold lexI ahd
    rw [lexI_ahd (by simpa using h)]
  | [], _ :: _, h => by simp at h
  | _ :: _, [], h => by simp at h
theorem insert_mid {α : Type} {xs : List α} {i : Nat} {y : α} : (xs.take i ++ [y] ++ xs.drop i).Perm (xs ++ [y]) := by
  have h : xs.take i ++ xs.drop i = xs := List.take_append_drop i xs
  have p1 : (xs.take i ++ [y] ++ xs.drop i).Perm (xs.take i ++ (xs.drop i ++ [y])) := by
    rw [List.append_assoc]
    exact List.Perm.append_left _ List.perm_append_comm
  rw [← List.append_assoc, h] at p1
  exact p1
/-- the place of a newcomer -/
theorem insert_up {ks : Nat → List Int} {m k i : Nat} {xs : List Nat} (hm : ∀ i, (ks i).length = m) (hp : xs.Pairwise fun a b => leK ks a b = true) (hk : ∀ x ∈ xs, x < k) (h1 : ∀ x ∈ xs.take i, ahd (ks k) (ks x) = false) (h2 : ∀ x, xs[i]? = some x → ahd (ks k) (ks x) = true) :
    (xs.take i ++ [k] ++ xs.drop i).Pairwise fun a b => leK ks a b = true := by
  have hsp : (xs.take i ++ xs.drop i).Pairwise fun a b => leK ks a b = true := by rw [List.take_append_drop]; exact hp
  rw [List.pairwise_append] at hsp
  obtain ⟨pa, pb, pc⟩ := hsp
  have low : ∀ x ∈ xs.take i, leK ks x k = true := fun x hx => by
    have hx1 := h1 x hx
    have hxk := hk x (List.mem_of_mem_take hx)
    rw [leK_iff]
    rcases ahd_tot (a := ks x) (b := ks k) (by rw [hm, hm]) with z | z | z
    · exact .inl z
    · exact .inr ⟨z, by omega⟩
    · rw [hx1] at z; cases z
  have high : ∀ x ∈ xs.drop i, leK ks k x = true := fun x hx => by
    cases hd : xs.drop i with
    | nil => rw [hd] at hx; cases hx
    | cons y r =>
      have hy : xs[i]? = some y := by
        have : (xs.drop i)[0]? = some y := by rw [hd]; rfl
        rw [List.getElem?_drop] at this
        simpa using this
      have hky : leK ks k y = true := leK_iff.mpr (.inl (h2 y hy))
      rw [hd] at hx pb
      rcases List.mem_cons.mp hx with rfl | hx
      · exact hky
      · exact leK_trans hm _ _ _ hky (List.rel_of_pairwise_cons pb hx)
  rw [List.pairwise_append, List.pairwise_append]
  refine ⟨⟨pa, List.pairwise_singleton _ _, fun a ha b hb => ?_⟩, pb, fun a ha b hb => ?_⟩
  · rw [List.mem_singleton.mp hb]; exact low a ha
  · rcases List.mem_append.mp ha with ha | ha
    · exact pc a ha b hb
    · rw [List.mem_singleton.mp ha]; exact high b hb
theorem tw_take {α : Type} {p : α → Bool} : ∀ xs : List α, xs.take (xs.takeWhile p).length = xs.takeWhile p
  | [] => rfl
  | x :: xs => by
    rw [List.takeWhile_cons]
    split
    · rw [List.length_cons, List.take_succ_cons, tw_take xs]
    · rfl
theorem tw_mem {α : Type} {p : α → Bool} : ∀ {xs : List α} {x : α}, x ∈ xs.takeWhile p → p x = true
  | y :: xs, x, h => by
    rw [List.takeWhile_cons] at h
    split at h
    · rename_i hy
      rcases List.mem_cons.mp h with rfl | h
      · exact hy
      · exact tw_mem h
    · cases h
theorem tw_stop {α : Type} {p : α → Bool} : ∀ {xs : List α} {y : α}, xs[(xs.takeWhile p).length]? = some y → p y = false
  | [], y, h => by simp at h
  | x :: xs, y, h => by
    rw [List.takeWhile_cons] at h
    split at h
    · exact tw_stop (xs := xs) (by simpa using h)
    · rename_i hx
      have e : x = y := by simpa using h
      rw [← e]; simpa using hx
theorem tw_le {α : Type} {p : α → Bool} {xs : List α} : (xs.takeWhile p).length ≤ xs.length := (List.takeWhile_prefix p).length_le
def keysL (ts : List Tm) (cs : List Car) : List W := cs.map fun c => W.lst (keyW ts c)
theorem keys_at {ts : List Tm} {cs : List Car} {i : Nat} (h : i < cs.length) : atI (keysL ts cs) (i : Int) = some (.lst ((kAt ts cs i).map W.int)) := by
  rw [atI_nat']; unfold keysL kAt
  rw [List.getElem?_map, List.getElem?_eq_getElem h, List.getD_eq_getElem?_getD, List.getElem?_eq_getElem h, ← keyW_int]; rfl
theorem nat_at {xs : List Nat} {i : Nat} (h : i < xs.length) : atI (natW xs) (i : Int) = some (.int ((xs[i] : Nat) : Int)) := by
  rw [atI_nat']; unfold natW
  rw [List.getElem?_map, List.getElem?_eq_getElem h]; rfl
theorem law_order_ok {ts : List Tm} {cs : List Car} {st : Store} (h : RuleOk ts) (hz : ts.length ≤ 1000) (hc : cs.length ≤ 1000) : m_law_order [.v (.lst (ts.map pW)), .v (.lst (cs.map carW))] st = .ok (.v (.lst (natW (ordL ts cs)))) st := by
  have hb : big = 16777216 := rfl
  have kl := kAt_len (ts := ts) (cs := cs)
  have lc := lc_all (gd := fun _ => True) (pt := .nm 6) (me := ce_law_order_1) (env := [some (.v (.lst (ts.map pW))), some (.v (.lst (cs.map carW))), none, none, none, none, none]) (st := st) carW (fun c => W.lst (keyW ts c)) cs (by omega) (fun _ => trivial) (fun c hcm => by
    have lk := fun acc => law_key_ok (c := c) (st := st.push (.lst acc)) h (by omega)
    refine ⟨_, b_nm, fun acc => ?_⟩
    unfold ce_law_order_1
    simp! [lk])
  obtain ⟨env', st', e, ⟨xs, o4, o5, hpm, hpw, hst, he⟩⟩ := loop_inv (gd := fun _ => True) (pt := .nm 4) (mb := lb_law_order_1)
    (fun k env st' => ∃ (xs : List Nat) (o4 o5 : Option Sl), xs.Perm (List.range k) ∧ (xs.Pairwise fun a b => leK (kAt ts cs) a b = true) ∧ st' = st.push (.lst (natW xs)) ∧ env = [some (.v (.lst (ts.map pW))), some (.v (.lst (cs.map carW))), some (.v (.lst (keysL ts cs))), some (.l st.l.length), o4, o5, none])
    (rangeW 0 cs.length) 0 [some (.v (.lst (ts.map pW))), some (.v (.lst (cs.map carW))), some (.v (.lst (keysL ts cs))), some (.l st.l.length), none, none, none] (st.push (.lst (natW []))) ⟨[], none, none, List.Perm.refl _, List.Pairwise.nil, rfl, rfl⟩ (by
      rintro k w env st' hk ⟨xs, o4, o5, hpm, hpw, rfl, rfl⟩
      obtain ⟨hlt, rfl⟩ := range_at hk
      rw [Nat.zero_add] at hpm ⊢
      have hxl : xs.length = k := by rw [hpm.length_eq, List.length_range]
      have hxk : ∀ x ∈ xs, x < k := fun x hx => List.mem_range.mp (hpm.mem_iff.mp hx)
      have g1 : (st.push (.lst (natW xs))).lget st.l.length = some (natW xs) := st_push_get
      have ka := keys_at (ts := ts) hlt
      let pb : Nat → Bool := fun x => !ahd (kAt ts cs k) (kAt ts cs x)
      have pl : (xs.takeWhile pb).length ≤ xs.length := tw_le
      obtain ⟨env2, st2, e2, ⟨i, hst2, he2, hi⟩⟩ := while_of (t := wt_law_order_1) (b := wb_law_order_1) (fun n env st2 => ∃ i : Nat, st2 = st.push (.lst (natW xs)) ∧ env = [some (.v (.lst (ts.map pW))), some (.v (.lst (cs.map carW))), some (.v (.lst (keysL ts cs))), some (.l st.l.length), some (.v (.int (0 + (k : Nat)))), some (.v (.int (i : Nat))), none] ∧ i + n = (xs.takeWhile pb).length)
        (xs.takeWhile pb).length [some (.v (.lst (ts.map pW))), some (.v (.lst (cs.map carW))), some (.v (.lst (keysL ts cs))), some (.l st.l.length), some (.v (.int (0 + (k : Nat)))), some (.v (.int ((0 : Nat) : Int))), none] (st.push (.lst (natW xs))) ⟨0, rfl, rfl, Nat.zero_add _⟩ (by
          rintro n env st2 ⟨i, rfl, rfl, hi⟩
          have z0 : (0 : Int) + (k : Nat) = (k : Nat) := by omega
          rw [z0]
          by_cases hil : i < xs.length
          · have na := nat_at (xs := xs) hil
            have hx1 := hxk _ (List.getElem_mem hil)
            have kx := keys_at (ts := ts) (cs := cs) (show xs[i] < cs.length by omega)
            have ao := ahead_ok (xs := kAt ts cs k) (ys := kAt ts cs xs[i]) (st := st.push (.lst (natW xs))) (by rw [kl, kl]) (by rw [kl]; omega)
            rw [lexI_ahd (by rw [kl, kl])] at ao
            have hlt2 : ((i : Nat) : Int) < ((xs.length : Nat) : Int) := by omega
            by_cases hpi : i < (xs.takeWhile pb).length
            · have hm : xs[i] ∈ xs.takeWhile pb := by
                have e9 : (xs.take (xs.takeWhile pb).length)[i]? = some xs[i] := by rw [List.getElem?_take, if_pos hpi, List.getElem?_eq_getElem hil]
                rw [tw_take] at e9
                exact List.mem_of_getElem? e9
              have hb2 : ahd (kAt ts cs k) (kAt ts cs xs[i]) = false := by have := tw_mem hm; simpa [pb] using this
              rw [hb2] at ao
              refine .inr ⟨?_, n - 1, [some (.v (.lst (ts.map pW))), some (.v (.lst (cs.map carW))), some (.v (.lst (keysL ts cs))), some (.l st.l.length), some (.v (.int (k : Nat))), some (.v (.int ((i + 1 : Nat) : Int))), none], st.push (.lst (natW xs)), by omega, ?_, i + 1, rfl, rfl, by omega⟩
              · unfold wt_law_order_1
                simp! [g1, natW_len, hlt2, ka, na, kx, ao]
              · unfold wb_law_order_1
                simp! [k_nx]
                rfl
            · have hpe : i = (xs.takeWhile pb).length := by omega
              have hb2 : ahd (kAt ts cs k) (kAt ts cs xs[i]) = true := by
                have := tw_stop (p := pb) (xs := xs) (y := xs[i]) (by rw [← hpe]; exact List.getElem?_eq_getElem hil)
                simpa [pb] using this
              rw [hb2] at ao
              refine .inl ⟨?_, by omega⟩
              unfold wt_law_order_1
              simp! [g1, natW_len, hlt2, ka, na, kx, ao]
          · have hlt2 : ¬ ((i : Nat) : Int) < ((xs.length : Nat) : Int) := by omega
            refine .inl ⟨?_, by omega⟩
            unfold wt_law_order_1
            simp! [g1, natW_len, hlt2])
      rw [Nat.add_zero] at hi
      have lk : ((k : Nat) : Int) = ((k : Nat) : Int) := rfl
      have ins : lmInsert (natW xs) [.v (.int ((i : Nat) : Int)), .v (.int (0 + (k : Nat)))] = some (.non, natW (xs.take i ++ [k] ++ xs.drop i)) := by
        have i63 : ((i : Nat) : Int) < 2 ^ 63 := by omega
        rw [l_insert (by rw [natW_len]; omega) (by omega) i63, Int.toNat_natCast]
        have z0 : (0 : Int) + (k : Nat) = (k : Nat) := by omega
        rw [z0]
        unfold natW
        rw [List.map_append, List.map_append, List.map_take, List.map_drop]; rfl
      refine ⟨trivial, _, b_nm, [some (.v (.lst (ts.map pW))), some (.v (.lst (cs.map carW))), some (.v (.lst (keysL ts cs))), some (.l st.l.length), some (.v (.int (0 + (k : Nat)))), some (.v (.int (i : Nat))), none], st.push (.lst (natW (xs.take i ++ [k] ++ xs.drop i))), .inl ?_, xs.take i ++ [k] ++ xs.drop i, _, _, ?_, ?_, rfl, rfl⟩
      · rw [hst2, he2] at e2
        unfold lb_law_order_1
        simp! [k_nx]
        have c0 : ((0 : Nat) : Int) = 0 := rfl
        rw [c0] at e2
        simp! [e2, g1, ins, st_push_set]
      · rw [List.range_succ]
        exact insert_mid.trans (hpm.append_right _)
      · exact insert_up kl hpw hxk (fun x hx => by rw [hi, tw_take] at hx; have := tw_mem hx; simpa [pb] using this) (fun x hx => by rw [hi] at hx; have := tw_stop (p := pb) hx; simpa [pb] using this)) (fun _ _ _ => trivial)
  rw [range_len, Nat.zero_add] at hpm
  rw [hst, he] at e
  have hx := ordK_is kl hpm hpw
  rw [hx] at e
  unfold m_law_order b_law_order
  have nn : natW [] = [] := rfl
  rw [nn] at e
  have kk : (cs.map fun c => W.lst (keyW ts c)) = keysL ts cs := rfl
  rw [kk] at lc
  simp! [lc, List.length_map, k_itRN (n := cs.length) (st := st.push (.lst [])) (by omega), e, fin_pushl]
  rfl
theorem rule_len {ts : List Tm} {st : Store} : m_Ruleu_lenu [.v (ruleW ts)] st = .ok (.v (.int ts.length)) st := by
  unfold m_Ruleu_lenu b_Ruleu_lenu
  simp! [rule_terms, List.length_map, fin_same]
theorem rule_list {ts : List Tm} {st : Store} (h : ts.length ≤ 10000) : listOwnF 2 "terms" m_Ruleu_lenu [.v (ruleW ts)] st = .ok (.v (.lst (ts.map pW))) st :=
  listOwnF_ok (t := .v (.tup (ts.map pW))) (i := ts.length) rule_is rule_terms rfl rule_len (by omega) (by have hb : big = 16777216 := rfl; omega)
theorem sum_le {m : Nat} : ∀ {ps : List (List Nat)}, (∀ p ∈ ps, p.length ≤ m) → (ps.map List.length).sum ≤ m * ps.length
  | [], _ => Nat.zero_le _
  | p :: ps, h => by
    have ih := sum_le (fun q hq => h q (List.mem_cons_of_mem _ hq))
    have := h p List.mem_cons_self
    rw [List.map_cons, List.sum_cons, List.length_cons, Nat.mul_succ]
    omega
/-! ### texts of rules -/
def firstL : List Nat := [102, 105, 114, 115, 116, 32, 99, 111, 109, 101]
theorem first_tx : PySem.Str.ofString "first come" = tx firstL := by decide +kernel
theorem sepc_tx : PySem.Str.ofString ", " = tx [44, 32] := by decide +kernel
theorem blank_tx : PySem.Str.ofString " " = tx [32] := by decide +kernel
theorem nil_tx : PySem.Str.ofString "" = tx [] := by decide +kernel
def pts (a : List Nat) : List (List Nat) := TL.spl [44, 32] 0 [] a
theorem split_pts {a : List Nat} : Txt.split (tx a) (tx [44, 32]) = (pts a).map tx := SX.split_S (by decide) (by decide)
theorem join_pts {a : List Nat} : joinC [44, 32] (pts a) = a := by
  have h := StrLaws.join_split (tx a) (tx [44, 32])
  rw [split_pts] at h
  have e := tx_join (s := [44, 32]) (ps := pts a)
  unfold Txt.join at e
  rw [StrLaws.glued_eq_join, h] at e
  exact (tx_inj.mp e).symm
theorem splitC {a : List Nat} {st : Store} (h : a.length + 2 ≤ big) : splitOf (tx a) (.v (.str (tx [44, 32]))) st = .ok (.v (.lst (sW (pts a)))) st := by
  rw [split_ok (by rw [tx_len]; rfl) (by rw [tx_len]; exact h), split_pts]; rfl
theorem spl_pos (S : List Nat) : ∀ (k : Nat) (acc a : List Nat), TL.spl S k acc a ≠ []
  | _, acc, [] => by unfold TL.spl; simp
  | 0, acc, c :: r => by
    unfold TL.spl
    split
    · simp
    · exact spl_pos S 0 _ r
  | k + 1, acc, c :: r => by unfold TL.spl; exact spl_pos S k acc r
theorem spl_count (S : List Nat) : ∀ (k : Nat) (acc a : List Nat), (TL.spl S k acc a).length ≤ a.length + 1 ∧ ∀ p ∈ TL.spl S k acc a, p.length ≤ acc.length + a.length
  | _, acc, [] => by
    unfold TL.spl
    exact ⟨by simp, fun p hp => by rw [List.mem_singleton.mp hp]; simp⟩
  | 0, acc, c :: r => by
    unfold TL.spl
    split
    · obtain ⟨h1, h2⟩ := spl_count S (S.length - 1) [] r
      refine ⟨by rw [List.length_cons, List.length_cons]; omega, fun p hp => ?_⟩
      rw [List.length_cons]
      rcases List.mem_cons.mp hp with rfl | hp
      · omega
      · have := h2 p hp
        simp at this
        omega
    · obtain ⟨h1, h2⟩ := spl_count S 0 (acc ++ [c]) r
      refine ⟨by rw [List.length_cons]; omega, fun p hp => ?_⟩
      have := h2 p hp
      rw [List.length_append, List.length_singleton] at this
      rw [List.length_cons]
      omega
  | k + 1, acc, c :: r => by
    unfold TL.spl
    obtain ⟨h1, h2⟩ := spl_count S k acc r
    exact ⟨by rw [List.length_cons]; omega, fun p hp => by have := h2 p hp; rw [List.length_cons]; omega⟩
theorem pts_ne {a : List Nat} : pts a ≠ [] := spl_pos _ _ _ _
theorem pts_len {a : List Nat} : (pts a).length ≤ a.length + 1 ∧ ∀ p ∈ pts a, p.length ≤ a.length := by
  obtain ⟨h1, h2⟩ := spl_count [44, 32] 0 [] a
  exact ⟨h1, fun p hp => by have := h2 p hp; simpa using this⟩
def partT (p : List Nat) : Tm := match spl 32 p with
  | [x, y] => (x, y)
  | _ => ([], [])
def wt1 (t : Tm) : List Nat := t.1 ++ ([32] ++ t.2)
theorem side_free {s : List Nat} (h : s ∈ sidesL) : 32 ∉ s ∧ 44 ∉ s ∧ s.length ≤ 5 ∧ s ≠ [] ∧ s.head? ≠ some 102 := by
  rcases side_iff.mp h with rfl | rfl <;> decide
theorem word_free {w : List Nat} (h : w ∈ wordsL) : 32 ∉ w ∧ 44 ∉ w ∧ w.length ≤ 5 := by
  rcases word_iff.mp h with rfl | rfl | rfl | rfl | rfl | rfl | rfl <;> decide
theorem partT_wt {t : Tm} (h1 : t.1 ∈ sidesL) (h2 : t.2 ∈ wordsL) : partT (wt1 t) = t := by
  have e : spl 32 (wt1 t) = [t.1, t.2] := spl_joinC (c := 32) (ps := [t.1, t.2]) (by
    intro p hp
    simp only [List.mem_cons, List.not_mem_nil, or_false] at hp
    rcases hp with rfl | rfl
    · exact (side_free h1).1
    · exact (word_free h2).1) (by simp)
  unfold partT; rw [e]
theorem wt_partT {p : List Nat} (h1 : (partT p).1 ∈ sidesL) : wt1 (partT p) = p := by
  unfold partT at h1 ⊢
  split at h1
  · rename_i x y e
    have := join_spl (c := 32) (a := p)
    rw [e] at this
    exact this
  · exact absurd h1 (by decide)
def wT (ts : List Tm) : List Nat := if ts = [] then firstL else joinC [44, 32] (ts.map wt1)
theorem wT_parts {a : List Nat} (h : RuleOk ((pts a).map partT)) : wT ((pts a).map partT) = a := by
  unfold wT
  rw [if_neg (by simpa using pts_ne), List.map_map]
  have e : (pts a).map (wt1 ∘ partT) = pts a := by
    conv => rhs; rw [← List.map_id (pts a)]
    exact List.map_congr_left fun p hp => wt_partT (rule_side h (List.mem_map_of_mem hp)).1
  rw [e, join_pts]
theorem joinC_cons {s p q : List Nat} {ps : List (List Nat)} : joinC s (p :: q :: ps) = p ++ (s ++ joinC s (q :: ps)) := rfl
theorem wT_first {ts : List Tm} (h : RuleOk ts) (hn : ts ≠ []) : wT ts ≠ firstL ∧ (pts (wT ts)).map partT = ts := by
  have free : ∀ p ∈ ts.map wt1, 44 ∉ p := fun p hp => by
    obtain ⟨t, ht, rfl⟩ := List.mem_map.mp hp
    obtain ⟨h1, h2⟩ := rule_side h ht
    unfold wt1
    intro z
    rcases List.mem_append.mp z with z | z
    · exact (side_free h1).2.1 z
    · rcases List.mem_append.mp z with z | z
      · simp at z
      · exact (word_free h2).2.1 z
  unfold wT
  rw [if_neg hn]
  constructor
  · obtain ⟨t, r, e⟩ := List.exists_cons_of_ne_nil hn
    obtain ⟨h1, _⟩ := rule_side h (t := t) (by rw [e]; simp)
    obtain ⟨c, d, ec⟩ := List.exists_cons_of_ne_nil (side_free h1).2.2.2.1
    have hc := (side_free h1).2.2.2.2
    rw [ec] at hc
    have hc' : c ≠ 102 := fun z => hc (by rw [z]; rfl)
    intro z
    have hh : (joinC [44, 32] (ts.map wt1)).head? = some c := by
      rw [e, List.map_cons]
      cases r with
      | nil => show (wt1 t).head? = _; unfold wt1; rw [ec]; rfl
      | cons u r => rw [List.map_cons, joinC_cons]; unfold wt1; rw [ec]; rfl
    rw [z] at hh
    exact hc' (by simpa [firstL] using hh.symm)
  · unfold pts
    rw [SX.spl_join (c := 44) (sep := [32]) (by simpa using hn) free, List.map_map]
    conv => rhs; rw [← List.map_id ts]
    exact List.map_congr_left fun t ht => partT_wt (rule_side h ht).1 (rule_side h ht).2
theorem first_parts {ts : List Tm} {a : List Nat} (e : (pts a).map partT = ts) : (pts a).length = ts.length := by rw [← e, List.length_map]
theorem parse_first {st : Store} : m_Rule_parse [.v (.cls 2), .v (.str (tx firstL))] st = .ok (.v (ruleW [])) st := by
  have mk := (rule_init (x := .v (.tup [])) (ts := []) (st := st) rfl (by decide)).1 rule_nil
  unfold m_Rule_parse b_Rule_parse
  rw [first_tx]
  simp! [tx_dec, mk, fin_same]
theorem parse_loop {a : List Nat} {st : Store} (hl : a.length ≤ 9000) : ∃ o3 o4, loopL (fun _ => True) (.nm 3) lb_Rule_parse_1 (sW (pts a)) [some (.v (.cls 2)), some (.v (.str (tx a))), some (.l st.l.length), none, none] (st.push (.lst [])) = .nx [some (.v (.cls 2)), some (.v (.str (tx a))), some (.l st.l.length), o3, o4] (st.push (.lst (((pts a).map partT).map pW))) := by
  have hb : big = 16777216 := rfl
  obtain ⟨hp1, hp2⟩ := pts_len (a := a)
  obtain ⟨env', st', e, ⟨hst, o3, o4, he⟩⟩ := loop_pre (gd := fun _ => True) (pt := .nm 3) (mb := lb_Rule_parse_1) (W.str ∘ tx) (fun pre env st' => st' = st.push (.lst ((pre.map partT).map pW)) ∧ ∃ o3 o4, env = [some (.v (.cls 2)), some (.v (.str (tx a))), some (.l st.l.length), o3, o4]) (pts a) [some (.v (.cls 2)), some (.v (.str (tx a))), some (.l st.l.length), none, none] (st.push (.lst [])) ⟨rfl, none, none, rfl⟩ (by
    rintro pre p post env st' hz ⟨rfl, o3, o4, rfl⟩
    have hm : p ∈ pts a := by rw [hz]; simp
    have hpl : pre.length < (pts a).length := by rw [hz, List.length_append, List.length_cons]; omega
    have hpp := hp2 p hm
    have g1 : (st.push (.lst ((pre.map partT).map pW))).lget st.l.length = some ((pre.map partT).map pW) := st_push_get
    have sp : ∀ S : Store, splitOf (tx p) (.v (.str (tx [32]))) S = .ok (.v (.lst (((spl 32 p).map tx).map W.str))) S := fun S => splitT (by omega)
    have ap : lmAppend ((pre.map partT).map pW) [.v (pW (partT p))] = some (.non, ((pre ++ [p]).map partT).map pW) := by
      rw [l_append (by rw [List.length_map, List.length_map]; omega), List.map_append, List.map_append]; rfl
    refine ⟨trivial, [some (.v (.cls 2)), some (.v (.str (tx a))), some (.l st.l.length), some (.v (.str (tx p))), o4], b_nm, [some (.v (.cls 2)), some (.v (.str (tx a))), some (.l st.l.length), some (.v (.str (tx p))), some (.v (.lst (((spl 32 p).map tx).map W.str)))], _, .inl ?_, rfl, _, _, rfl⟩
    unfold lb_Rule_parse_1
    rw [blank_tx, nil_tx]
    by_cases h2 : (spl 32 p).length = 2
    · obtain ⟨x, y, exy⟩ : ∃ x y, spl 32 p = [x, y] := by
        match spl 32 p, h2 with
        | [x, y], _ => exact ⟨x, y, rfl⟩
      have ep : pW (partT p) = .tup [.str (tx x), .str (tx y)] := by unfold partT; rw [exy]; rfl
      rw [ep] at ap
      rw [exy] at sp ⊢
      have two : ((0 + 1 + 1 : Nat) : Int) = 2 := rfl
      simp! [sp, g1, two, Nat.zero_add, Nat.reduceAdd, ap, st_push_set]
    · have h2' : ¬ ((spl 32 p).length : Int) = 2 := by omega
      have ep : pW (partT p) = .tup [.str (tx []), .str (tx [])] := by
        unfold partT
        split
        · rename_i x y exy
          rw [exy] at h2
          exact absurd rfl h2
        · rfl
      rw [ep] at ap
      simp! [sp, g1, List.length_map, h2', ap, st_push_set]) (fun _ _ _ => trivial)
  have es : sW (pts a) = (pts a).map (W.str ∘ tx) := by unfold sW; rw [List.map_map]
  exact ⟨o3, o4, by rw [es, e, hst, he]⟩
theorem rule_parse {a : List Nat} {st : Store} (hl : a.length ≤ 9000) (hf : a ≠ firstL) : (RuleOk ((pts a).map partT) → m_Rule_parse [.v (.cls 2), .v (.str (tx a))] st = .ok (.v (ruleW ((pts a).map partT))) st) ∧ ∀ k, FirstT ((pts a).map partT) k → m_Rule_parse [.v (.cls 2), .v (.str (tx a))] st = .ex 22 ["place"] [.int (k : Nat)] st := by
  have hb : big = 16777216 := rfl
  obtain ⟨o3, o4, e⟩ := parse_loop (st := st) hl
  have hz : ((pts a).map partT).length ≤ 10000 := by rw [List.length_map]; have := (pts_len (a := a)).1; omega
  obtain ⟨m1, m2⟩ := rule_init (x := .l st.l.length) (ts := (pts a).map partT) (st := st.push (.lst (((pts a).map partT).map pW))) st_push_get hz
  rw [st_push_o] at m1 m2
  have sp : splitOf (tx a) (.v (.str (tx [44, 32]))) (st.push (.lst [])) = .ok (.v (.lst (sW (pts a)))) (st.push (.lst [])) := splitC (by omega)
  refine ⟨fun hok => ?_, fun k hk => ?_⟩
  · have mk := m1 hok
    have ff : fin .tr st (.rt (.v (ruleW ((pts a).map partT))) (st.push (.lst (((pts a).map partT).map pW)))) = .ok (.v (ruleW ((pts a).map partT))) st := fin_pushv rfl rfl
    unfold m_Rule_parse b_Rule_parse
    rw [first_tx, sepc_tx]
    simp! [tx_dec, hf, sp, e, mk, ff]
  · have mk := m2 k hk
    have ff : ∀ env, fin .tr st (.ex 22 ["place"] [.int (k : Nat)] env (st.push (.lst (((pts a).map partT).map pW)))) = .ex 22 ["place"] [.int (k : Nat)] st := fun env => fin_pushx rfl rfl
    unfold m_Rule_parse b_Rule_parse
    rw [first_tx, sepc_tx]
    simp! [tx_dec, hf, sp, e, mk, ff]
theorem wt1_len {ts : List Tm} (h : RuleOk ts) : ∀ p ∈ ts.map wt1, p.length ≤ 11 := fun p hp => by
  obtain ⟨t, ht, rfl⟩ := List.mem_map.mp hp
  obtain ⟨h1, h2⟩ := rule_side h ht
  have := (side_free h1).2.2.1
  have := (word_free h2).2.2
  unfold wt1
  rw [List.length_append, List.length_append]
  show _ + (1 + _) ≤ _
  omega
theorem join_terms {ts : List Tm} {st : Store} (h : RuleOk ts) (hz : ts.length ≤ 10000) : joinOf (tx [44, 32]) (.v (.lst (ts.map fun t => W.str (tx (wt1 t))))) st = .ok (.v (.str (tx (joinC [44, 32] (ts.map wt1))))) st := by
  have s := sum_le (wt1_len h)
  rw [List.length_map] at s
  exact joinT (ps := ts.map wt1) (by rw [List.map_map, List.map_map]; rfl) (by rw [List.length_map]; show _ + _ * 2 ≤ _; omega)
theorem clean_ts {ts : List Tm} (h : RuleOk ts) : Clean 3 (.tup (ts.map pW)) := clean_tup fun x hx => by
  obtain ⟨t, ht, rfl⟩ := List.mem_map.mp hx
  obtain ⟨h1, h2⟩ := rule_side h ht
  refine clean_tup fun y hy => ?_
  simp only [List.mem_cons, List.not_mem_nil, or_false] at hy
  rcases hy with rfl | rfl
  · show PyData.strOk (tx t.1) = true
    rcases side_iff.mp h1 with z | z <;> rw [z] <;> decide +kernel
  · show PyData.strOk (tx t.2) = true
    rcases word_iff.mp h2 with z | z | z | z | z | z | z <;> rw [z] <;> decide +kernel
theorem bent_ok {st : Store} {p : Nat} {a zs : List Nat} (hp : Pl st p) (ha : a.length ≤ 90000) (h0 : 0 < zs.length) (hz : zs.length ≤ 1000) : ∃ cs st', m_law_bent [.l p, .v (.str (tx a)), .v (.str (tx zs))] st = .ok (.v (.str (tx cs))) st' ∧ Pw p st st' ∧ cs.length ≤ a.length + 1 ∧ ∀ c ∈ cs, c ∈ a ∨ c ∈ zs := by
  have hb : big = 16777216 := rfl
  obtain ⟨r1, s1, e1, w1, p1, q1⟩ := take_ok (m := (a.length : Int) + 1) hp (by omega) (wide_nat (by omega))
  obtain ⟨r2, s2, e2, w2, p2, q2⟩ := take_ok (m := zs.length) w1.pl (by omega) (wide_nat (by omega))
  obtain ⟨r3, s3, e3, w3, p3, q3⟩ := take_ok (m := 3) w2.pl (by omega) (wide_nat (by omega))
  obtain ⟨c, hc, ec⟩ := sign_at hz p2 q2 s2
  have hw := (w1.trans w2).trans w3
  obtain ⟨k, rfl⟩ := Int.eq_ofNat_of_zero_le p1
  have hk : k ≤ a.length := by omega
  have t1 : cutS (tx a) none (some (k : Int)) = tx (a.take k) := tx_take
  have t2 : cutS (tx a) (some (k : Int)) none = tx (a.drop k) := tx_drop
  have t3 : cutS (tx a) (some ((k : Int) + 1)) none = tx (a.drop (k + 1)) := tx_drop (k := k + 1)
  have sl : ∀ lo hi st, kSl3 (.v (.str (tx a))) lo (.ok hi st) = .ok (.v (.str (cutS (tx a) lo hi))) st := fun lo hi st => k_sl3S (by rw [tx_len]; omega)
  have ad : ∀ x y st, x.length + y.length ≤ 100000 → opAdd (.v (.str (tx x))) (.v (.str (tx y))) st = .ok (.v (.str (tx (x ++ y)))) st := fun x y st h => by
    rw [o_addS (by rw [tx_len, tx_len]; omega), tx_app]
  have l1 : (a.take k).length = k := by rw [List.length_take]; omega
  have l2 : (a.drop k).length = a.length - k := by rw [List.length_drop]
  have l3 : (a.drop (k + 1)).length ≤ a.length - k := by rw [List.length_drop]; omega
  have la : (a.take k ++ [c]).length = k + 1 := by rw [List.length_append, l1]; rfl
  have m1 : ∀ x ∈ a.take k, x ∈ a := fun x hx => List.mem_of_mem_take hx
  have m2 : ∀ n, ∀ x ∈ a.drop n, x ∈ a := fun n x hx => List.mem_of_mem_drop hx
  have b1 := fun st => ad (a.take k) [c] st (by rw [l1]; show k + 1 ≤ _; omega)
  have b2 := fun st => ad (a.take k ++ [c]) (a.drop k) st (by omega)
  have b3 := fun st => ad (a.take k ++ [c]) (a.drop (k + 1)) st (by omega)
  have b4 := fun st => ad (a.take k) (a.drop (k + 1)) st (by omega)
  unfold m_law_bent b_law_bent
  by_cases c0 : r3 = 0
  · refine ⟨a.take k ++ [c] ++ a.drop k, s3, ?_, hw, by rw [List.length_append]; omega, fun x hx => ?_⟩
    · simp! [len_tx (zs := a) (by omega), len_tx (zs := zs) (by omega), e1, e2, ec, e3, c0, sl, t1, t2, b1, b2, fin_eqv hw.len hw.o]
    · simp only [List.mem_append, List.mem_singleton] at hx
      rcases hx with (hx | rfl) | hx
      · exact .inl (m1 x hx)
      · exact .inr hc
      · exact .inl (m2 k x hx)
  · by_cases c1 : r3 = 1
    · refine ⟨a.take k ++ [c] ++ a.drop (k + 1), s3, ?_, hw, by rw [List.length_append]; omega, fun x hx => ?_⟩
      · simp! [len_tx (zs := a) (by omega), len_tx (zs := zs) (by omega), e1, e2, ec, e3, c1, sl, t1, t3, b1, b3, fin_eqv hw.len hw.o]
      · simp only [List.mem_append, List.mem_singleton] at hx
        rcases hx with (hx | rfl) | hx
        · exact .inl (m1 x hx)
        · exact .inr hc
        · exact .inl (m2 _ x hx)
    · refine ⟨a.take k ++ a.drop (k + 1), s3, ?_, hw, by rw [List.length_append]; omega, fun x hx => ?_⟩
      · simp! [len_tx (zs := a) (by omega), len_tx (zs := zs) (by omega), e1, e2, ec, e3, c0, c1, sl, t1, t3, b4, fin_eqv hw.len hw.o]
      · simp only [List.mem_append] at hx
        rcases hx with hx | hx
        · exact .inl (m1 x hx)
        · exact .inl (m2 _ x hx)
theorem signs_ok {st : Store} : ∃ zs, m_law_signs [] st = .ok (.v (.str (tx zs))) st ∧ 0 < zs.length ∧ zs.length ≤ 1000 := by
  obtain ⟨x, hx⟩ := tx_ex (PySem.Str.ofString " !\"#$&'()*+,-./0123456789:;<=>?@ABCDEFGHIJKLMNOPQRSTUVWXYZ[\\]^_`")
  obtain ⟨y, hy⟩ := tx_ex (PySem.Str.ofString "abcdefghijklmnopqrstuvwxyz{|}~")
  have lx : x.length = 64 := by rw [← tx_len (a := x), ← hx]; decide +kernel
  have ly : y.length = 30 := by rw [← tx_len (a := y), ← hy]; decide +kernel
  have hb : big = 16777216 := rfl
  have ad : opAdd (.v (.str (tx x))) (.v (.str (tx y))) st = .ok (.v (.str (tx (x ++ y)))) st := by
    rw [o_addS (by rw [tx_len, tx_len]; omega), tx_app]
  refine ⟨x ++ y, ?_, by rw [List.length_append]; omega, by rw [List.length_append]; omega⟩
  unfold m_law_signs b_law_signs
  simp! [hx, hy, ad, fin_same]
theorem terms_text_ok {ts : List Tm} {st : Store} (h : RuleOk ts) (hz : ts.length ≤ 10000) : m_law_terms_text [.v (.lst (ts.map pW))] st = .ok (.v (.str (tx (wT ts)))) st := by
  have hb : big = 16777216 := rfl
  unfold m_law_terms_text b_law_terms_text
  rw [first_tx, sepc_tx]
  by_cases hn : ts = []
  · have ew : wT ts = firstL := by unfold wT; rw [if_pos hn]
    rw [ew]
    subst hn
    simp! [Int.natCast_zero, fin_same]
  · have ew : wT ts = joinC [44, 32] (ts.map wt1) := by unfold wT; rw [if_neg hn]
    have h0 : ¬ ((ts.length : Int) = 0) := fun z => hn (List.eq_nil_of_length_eq_zero (by omega))
    rw [ew]
    have lc := lc_all (gd := fun _ => True) (pt := .nm 1) (me := ce_law_terms_text_1) (env := [some (.v (.lst (ts.map pW))), none]) (st := st) pW (fun t => .str (tx (wt1 t))) ts (by omega) (fun _ => trivial) (by
      intro t ht
      obtain ⟨h1, h2⟩ := rule_side h ht
      have l1 := (side_free h1).2.2.1
      have l2 := (word_free h2).2.2
      have ip : ∀ s, items s (.v (pW t)) = some [.str (tx t.1), .str (tx t.2)] := fun _ => rfl
      have ad : ∀ (x y : List Nat) st, x.length + y.length ≤ 1000 → opAdd (.v (.str (tx x))) (.v (.str (tx y))) st = .ok (.v (.str (tx (x ++ y)))) st := fun x y st h => by
        rw [o_addS (by rw [tx_len, tx_len]; omega), tx_app]
      have a1 := fun st => ad t.1 [32] st (by show _ + 1 ≤ _; omega)
      have a2 := fun st => ad (t.1 ++ [32]) t.2 st (by rw [List.length_append]; show _ + 1 + _ ≤ _; omega)
      have ew : wt1 t = t.1 ++ [32] ++ t.2 := by unfold wt1; rw [List.append_assoc]
      refine ⟨_, b_nm, fun acc => ?_⟩
      unfold ce_law_terms_text_1
      rw [blank_tx]
      simp! [ip, a1, a2, ew])
    simp! [List.length_map, h0, lc, join_terms h hz, fin_same]
/-! the law's own reader -/
/-! ### what is served, told and due -/
theorem served_eq {ts : List Tm} {cs : List Car} {w : Nat} : sortI (((ordL ts cs).take w).map fun i => ((i : Nat) : Int)) = ((List.range cs.length).filter fun k => decide (k ∈ (ordL ts cs).take w)).map fun i => ((i : Nat) : Int) := by
  refine (sortI_is ?_ ?_).symm
  · refine List.Perm.map _ ((List.perm_ext_iff_of_nodup (List.nodup_range.sublist List.filter_sublist) (ordK_nodup.sublist (List.take_sublist _ _))).mpr fun k => ?_)
    rw [List.mem_filter, List.mem_range, decide_eq_true_eq]
    exact ⟨fun h => h.2, fun h => ⟨ordK_mem.mp (List.mem_of_mem_take h), h⟩⟩
  · rw [List.pairwise_map]
    exact ((List.pairwise_lt_range (n := cs.length)).sublist List.filter_sublist).imp fun h => by omega
theorem nat_mem {xs : List Nat} {k : Nat} : ((k : Nat) : Int) ∈ xs.map (fun i => ((i : Nat) : Int)) ↔ k ∈ xs := by
  rw [List.mem_map]
  constructor
  · rintro ⟨a, h1, h2⟩
    have e : a = k := by omega
    exact e ▸ h1
  · exact fun hh => ⟨k, hh, rfl⟩
def grown (st st' : Store) : Prop := st'.l.take st.l.length = st.l ∧ st'.o = st.o ∧ st.l.length ≤ st'.l.length
theorem grown_push {st st' : Store} {x : Lo} (h : grown st st') : grown st (st'.push x) := by
  obtain ⟨h1, h2, h3⟩ := h
  refine ⟨?_, h2, ?_⟩
  · show (st'.l ++ [x]).take st.l.length = st.l
    rw [List.take_append_of_le_length h3]; exact h1
  · show st.l.length ≤ (st'.l ++ [x]).length
    rw [List.length_append]; omega
theorem grown_refl {st : Store} : grown st st := ⟨List.take_length, rfl, Nat.le_refl _⟩
theorem grown_fin {st st' : Store} {w : W} (h : grown st st') : fin .tr st (.rt (.v w) st') = .ok (.v w) st := by
  obtain ⟨h1, h2, h3⟩ := h
  rw [fin_cutv h2, h1]
theorem plain_natW {n : Nat} {xs : List Nat} (h : xs.length ≤ big) : Plain (n + 2) (.lst (natW xs)) := plain_lst (by rw [natW_len]; exact h) (fun w hw => by
  unfold natW at hw
  obtain ⟨c, _, rfl⟩ := List.mem_map.mp hw
  exact plain_int)
theorem plain_cars {n : Nat} {cs : List Car} (h : cs.length ≤ big) : Plain (n + 3) (.lst (cs.map carW)) := plain_lst (by rw [List.length_map]; exact h) (fun w hw => by
  obtain ⟨c, _, rfl⟩ := List.mem_map.mp hw
  exact plain_tup (by show 4 ≤ big; decide) (fun w hw => by
    rcases List.mem_cons.mp hw with rfl | hw
    · exact plain_int
    rcases List.mem_cons.mp hw with rfl | hw
    · exact plain_int
    rcases List.mem_cons.mp hw with rfl | hw
    · exact plain_int
    rw [List.mem_singleton.mp hw]
    exact plain_int))
/-! ### rules by name -/
def namesG : List (PySem.Str × PySem.Str) := [(PySem.Str.ofString "equal", PySem.Str.ofString "least got"), (PySem.Str.ofString "first come", PySem.Str.ofString "first come"), (PySem.Str.ofString "least slack", PySem.Str.ofString "least slack"), (PySem.Str.ofString "first leave", PySem.Str.ofString "least left")]
theorem rule_one {t : Tm} (h1 : t.1 ∈ sidesL) (h2 : t.2 ∈ wordsL) : RuleOk [t] := rule_snoc (ts := []) rule_nil h1 h2 (by simp)
theorem parse_one {t : Tm} {st : Store} (h1 : t.1 ∈ sidesL) (h2 : t.2 ∈ wordsL) : m_Rule_parse [.v (.cls 2), .v (.str (tx (wt1 t)))] st = .ok (.v (ruleW [t])) st := by
  have hr := rule_one h1 h2
  obtain ⟨a, b⟩ := wT_first hr (by simp)
  have e : wT [t] = wt1 t := by unfold wT; rw [if_neg (by simp)]; rfl
  rw [e] at a b
  have l := wt1_len hr (wt1 t) (by simp)
  have := (rule_parse (st := st) (a := wt1 t) (by omega) a).1
  rw [b] at this
  exact this hr
theorem named_ok {nm tt : PySem.Str} {ts : List Tm} {st : Store} (hl : namesG.lookup nm = some tt) (hp : m_Rule_parse [.v (.cls 2), .v (.str tt)] st = .ok (.v (ruleW ts)) st) : m_Rule_named [.v (.cls 2), .v (.str nm)] st = .ok (.v (ruleW ts)) st := by
  have fs : ∀ v, fin .tr st (.rt (.v v) st) = .ok (.v v) st := fun v => fin_same
  have e := e_cmethL (i := 0) (c := 2) (F := m_Rule_parse) (env := [some (.v (.cls 2)), some (.v (.str nm))]) (st := st) (a := mCons (mIxG namesG (mVar 1)) mNil) rfl
  have kx := k_ixG (st := st) hl
  have ec : ∀ (c : Nat) (F : MF) (a : MA) (env : Mz.Env) (S : Store), mCMeth c F a env S = (a env S).bind fun xs st1 => F (.v (.cls c) :: xs) st1 := fun _ _ _ _ _ => rfl
  unfold m_Rule_named b_Rule_named
  rw [show ([(PySem.Str.ofString "equal", PySem.Str.ofString "least got"), (PySem.Str.ofString "first come", PySem.Str.ofString "first come"), (PySem.Str.ofString "least slack", PySem.Str.ofString "least slack"), (PySem.Str.ofString "first leave", PySem.Str.ofString "least left")] : List (PySem.Str × PySem.Str)) = namesG from rfl]
  simp! [hl, Option.isSome_some, e, kx, hp, fs]
theorem named_no {nm : PySem.Str} {st : Store} (hl : namesG.lookup nm = none) : m_Rule_named [.v (.cls 2), .v (.str nm)] st = .ex 22 ["place"] [.int 0] st := by
  have f : ∀ env, fin .tr st (.ex 22 ["place"] [.int 0] env st) = .ex 22 ["place"] [.int 0] st := fun env => fin_ex
  unfold m_Rule_named b_Rule_named
  rw [show ([(PySem.Str.ofString "equal", PySem.Str.ofString "least got"), (PySem.Str.ofString "first come", PySem.Str.ofString "first come"), (PySem.Str.ofString "least slack", PySem.Str.ofString "least slack"), (PySem.Str.ofString "first leave", PySem.Str.ofString "least left")] : List (PySem.Str × PySem.Str)) = namesG from rfl]
  simp! [hl, Option.isSome_none, f]
theorem refused_ok {nm : PySem.Str} {st : Store} (hl : namesG.lookup nm = none) : m_law_refused [.v (.str nm)] st = .ok (.v (.bl true)) st := by
  have hb : big = 16777216 := rfl
  have pf : (("place" : Str) == "place") = true := by decide
  have e := named_no (st := st) hl
  have h1 : ∀ env, mXis [(22, true)] 22 ["place"] [.int 0] env st = .ok (.v (.bl true)) st := fun env => e_xis rfl
  have s1 := same_ok 12 (.lst [.int 0, .bl true]) (.v (.lst [.int 0, .bl true])) (.v (.lst [.int 0, .bl true])) st (plain_lst (by show 2 ≤ _; omega) (fun v hv => by
    simp only [List.mem_cons, List.not_mem_nil, or_false] at hv
    rcases hv with rfl | rfl
    · exact plain_int
    · exact plain_bl)) sees_v sees_v
  have s1 : m_law_same [.v (.lst [.int 0, .bl true]), .v (.lst [.int 0, .bl true])] st = .ok (.v (.bl true)) st := s1
  have kl : ∀ (a b : W) st, kLst2 (some [a, b]) st = .ok (.v (.lst [a, b])) st := fun a b st => k_lst2 (by show 2 ≤ _; omega)
  have fs : ∀ v, fin .tr st (.rt (.v v) st) = .ok (.v v) st := fun v => fin_same
  unfold m_law_refused b_law_refused tb_law_refused_1
  simp! [e, e_xf pf, h1, kl, s1, fs]
theorem lnamed_ok {nm : PySem.Str} {ts : List Tm} {cs : List Car} {w : Nat} {st : Store} (hn : ∀ s, m_Rule_named [.v (.cls 2), .v (.str nm)] s = .ok (.v (ruleW ts)) s) (h : RuleOk ts) (hz : ts.length ≤ 7) (hc : cs.length ≤ 100) : m_law_named [.v (.str nm), .v (.lst (ts.map pW)), .v (.lst (cs.map carW)), .v (.int (w : Int))] st = .ok (.v (.bl true)) st := by
  have hb : big = 16777216 := rfl
  have ol : (ordL ts cs).length = cs.length := ordK_len
  have lo := law_order_ok (st := st) (cs := cs) h (by omega) (by omega)
  have io : ∀ s, items s (.v (.lst (cs.map carW))) = some (cs.map carW) := fun _ => rfl
  have o3 := fun s => order_ok (st := s) h (by omega) (io s) (by omega)
  have pn : Plain 12 (.lst (natW (ordL ts cs))) := plain_natW (by omega)
  have s2 := fun s => same_ok 12 (.lst (natW (ordL ts cs))) (.v (.lst (natW (ordL ts cs)))) (.v (.lst (natW (ordL ts cs)))) s pn sees_v sees_v
  have s2 : ∀ s, m_law_same [.v (.lst (natW (ordL ts cs))), .v (.lst (natW (ordL ts cs)))] s = .ok (.v (.bl true)) s := s2
  have pp : ∀ {n : Nat} (t : Tm), Plain (n + 2) (pW t) := fun t => plain_tup (by show 2 ≤ big; decide) (by
    intro v hv
    simp only [List.mem_cons, List.not_mem_nil, or_false] at hv
    rcases hv with rfl | rfl <;> exact plain_str)
  have s1 : m_law_same [.v (.lst [.tup (ts.map pW), .lst (ts.map pW)]), .v (.lst [.tup (ts.map pW), .lst (ts.map pW)])] st = .ok (.v (.bl true)) st := same_ok 12 (.lst [.tup (ts.map pW), .lst (ts.map pW)]) _ _ st (plain_lst (by show 2 ≤ _; omega) (fun v hv => by
    simp only [List.mem_cons, List.not_mem_nil, or_false] at hv
    rcases hv with rfl | rfl
    · exact plain_tup (by rw [List.length_map]; omega) (fun v hv => by obtain ⟨t, _, rfl⟩ := List.mem_map.mp hv; exact pp t)
    · exact plain_lst (by rw [List.length_map]; omega) (fun v hv => by obtain ⟨t, _, rfl⟩ := List.mem_map.mp hv; exact pp t))) sees_v sees_v
  have kl : ∀ (a b : W) st, kLst2 (some [a, b]) st = .ok (.v (.lst [a, b])) st := fun a b st => k_lst2 (by show 2 ≤ _; omega)
  have rl := rule_list (ts := ts) (st := st) (by omega)
  have on : oneIs 2 [.v (ruleW ts)] st = true := rfl
  have oc : ∀ s, oneIs 2 [.v (.lst (cs.map carW))] s = false := fun _ => rfl
  have fl : ∀ s, fList [.v (.lst (cs.map carW))] s = .ok (.v (.lst (cs.map carW))) s := fun _ => rfl
  have ft : fTuple [.v (.lst (ts.map pW))] st = .ok (.v (.tup (ts.map pW))) st := rfl
  have ic : isclOf [(2, true)] ["NoneType", "int"] (.v (ruleW ts)) st = .ok (.v (.bl true)) st := rfl
  --E NA := law_named| name .v (.str nm); terms .v (.lst (ts.map pW)); cars .v (.lst (cs.map carW)); width .v (.int (w : Int)); told .v (ruleW ts); due .v (.lst (natW (ordL ts cs)))
  obtain ⟨env', st', e, hst, o6, o7, rfl⟩ := loop_pre (gd := fun _ => True) (pt := .nm 6) (mb := lb_law_named_1) (fun i : Nat => W.int ((i : Nat) : Int))
    (fun _ env st' => st' = st ∧ ∃ o6 o7, env = [some (.v (.str nm)), some (.v (.lst (ts.map pW))), some (.v (.lst (cs.map carW))), some (.v (.int (w : Int))), some (.v (ruleW ts)), some (.v (.lst (natW (ordL ts cs)))), o6, o7, none]) [w, 1] [some (.v (.str nm)), some (.v (.lst (ts.map pW))), some (.v (.lst (cs.map carW))), some (.v (.int (w : Int))), some (.v (ruleW ts)), some (.v (.lst (natW (ordL ts cs)))), none, none, none] st ⟨rfl, none, none, rfl⟩ (by
      rintro pre m post env S hw ⟨hS, o6, o7, rfl⟩
      have ct : cutW (natW (ordL ts cs)) none (some (m : Int)) = natW ((ordL ts cs).take m) := by rw [cut_to]; unfold natW; rw [List.map_take]
      have lc := lc_map (gd := fun _ => True) (pt := .nm 8) (mt := ct_law_named_1) (me := ce_law_named_1) (env := [some (.v (.str nm)), some (.v (.lst (ts.map pW))), some (.v (.lst (cs.map carW))), some (.v (.int (w : Int))), some (.v (ruleW ts)), some (.v (.lst (natW (ordL ts cs)))), some (.v (.int (m : Nat))), some (.v (.lst (natW ((ordL ts cs).take m)))), none]) (st := st)
        (fun i : Nat => W.int ((i : Nat) : Int)) (fun k => decide (k ∈ (ordL ts cs).take m)) (fun i : Nat => W.int ((i : Nat) : Int)) (List.range cs.length) (by rw [List.length_range]; omega) (fun _ => trivial) (fun k hk => by
          refine ⟨_, b_nm, fun acc => ⟨?_, fun _ => ?_⟩⟩
          · have oi := o_in_int (neg := false) (i := ((k : Nat) : Int)) (y := .v (.lst (natW ((ordL ts cs).take m)))) (st := st.push (.lst acc)) (hs := ((ordL ts cs).take m).map fun i => ((i : Nat) : Int)) (by rw [natW_ints]; rfl)
            have e9 : decide (((k : Nat) : Int) ∈ ((ordL ts cs).take m).map fun i => ((i : Nat) : Int)) = decide (k ∈ (ordL ts cs).take m) := by
              exact decide_eq_decide.mpr nat_mem
            rw [e9] at oi
            unfold ct_law_named_1
            simp! [oi]
          · unfold ce_law_named_1
            simp! [k_nx])
      have rw9 : rangeW 0 cs.length = (List.range cs.length).map fun i : Nat => W.int ((i : Nat) : Int) := by
        unfold rangeW
        exact List.map_congr_left fun i _ => by rw [Int.zero_add]
      have ri := k_itRN (n := cs.length) (st := st) (by omega)
      rw [rw9] at ri
      have hsv : (sortI (((ordL ts cs).take m).map fun i => ((i : Nat) : Int))).map W.int = ((List.range cs.length).filter fun k => decide (k ∈ (ordL ts cs).take m)).map fun i => W.int ((i : Nat) : Int) := by rw [served_eq, List.map_map]; rfl
      have v3 := serve_ok (st := st) (w := m) h (by omega) (io st) (by omega)
      rw [hsv] at v3
      have hfl : ((List.range cs.length).filter fun k => decide (k ∈ (ordL ts cs).take m)).length ≤ cs.length := by
        have := List.length_filter_le (fun k => decide (k ∈ (ordL ts cs).take m)) (List.range cs.length)
        rwa [List.length_range] at this
      generalize hSv : ((List.range cs.length).filter fun k => decide (k ∈ (ordL ts cs).take m)).map (fun i => W.int ((i : Nat) : Int)) = sv at *
      have svl : sv.length ≤ cs.length := by rw [← hSv, List.length_map]; exact hfl
      have psv : Plain 12 (.lst sv) := by
        rw [← hSv]
        exact plain_natW (n := 10) (by omega)
      have t2 : m_law_same [.v (.lst sv), .v (.lst sv)] st = .ok (.v (.bl true)) st := same_ok 12 (.lst sv) (.v (.lst sv)) (.v (.lst sv)) st psv sees_v sees_v
      refine ⟨trivial, _, b_nm, [some (.v (.str nm)), some (.v (.lst (ts.map pW))), some (.v (.lst (cs.map carW))), some (.v (.int (w : Int))), some (.v (ruleW ts)), some (.v (.lst (natW (ordL ts cs)))), some (.v (.int (m : Nat))), some (.v (.lst (natW ((ordL ts cs).take m)))), none], st, .inl ?_, rfl, _, _, rfl⟩
      rw [hS]
      unfold lb_law_named_1
      simp! [ct, List.length_map, ri, lc, rule_is, rule_ofs, oc, fl, v3, t2]) (fun _ _ _ => trivial)
  rw [hst] at e
  simp only [List.map_cons, List.map_nil] at e
  have c1 : ((1 : Nat) : Int) = 1 := rfl
  rw [c1] at e
  have sr : ∀ (xs : List W) st, srcOf (.v (.lst xs)) st = .ok ⟨xs, fun _ => True⟩ st := fun _ _ => rfl
  have fs : ∀ v, fin .tr st (.rt (.v v) st) = .ok (.v v) st := fun v => fin_same
  unfold m_law_named b_law_named sb_law_named_1 sb_law_named_2 sb_law_named_3 sb_law_named_4 sb_law_named_5 sb_law_named_6
  simp! [hn, ic, rule_terms, on, rl, kl, ft, s1, lo, rule_is, rule_of, oc, fl, o3, s2, sr, e, fs]
/-! ### the drawn text -/
def nmT : List PySem.Str := [PySem.Str.ofString "equal", PySem.Str.ofString "first come", PySem.Str.ofString "least slack", PySem.Str.ofString "first leave"]
def odT : List PySem.Str := [PySem.Str.ofString "", PySem.Str.ofString "Equal", PySem.Str.ofString "least left", PySem.Str.ofString "least got", PySem.Str.ofString "first", PySem.Str.ofString "first  come", PySem.Str.ofString "equal ", PySem.Str.ofString " equal", PySem.Str.ofString "most slack", PySem.Str.ofString "first leave, equal"]
theorem names_ok {st : Store} : m_law_names_of_rules [] st = .ok (.v (.lst [.str (PySem.Str.ofString "equal"), .str (PySem.Str.ofString "first come"), .str (PySem.Str.ofString "least slack"), .str (PySem.Str.ofString "first leave")])) st := by
  have hb : big = 16777216 := rfl
  have kl : ∀ (a b c d : W) st, kLst2 (some [a, b, c, d]) st = .ok (.v (.lst [a, b, c, d])) st := fun a b c d st => k_lst2 (by show 4 ≤ _; omega)
  have fs : ∀ v, fin .tr st (.rt (.v v) st) = .ok (.v v) st := fun v => fin_same
  unfold m_law_names_of_rules b_law_names_of_rules
  simp! [kl, fs]
theorem signs94 {st : Store} : ∃ zs, m_law_signs [] st = .ok (.v (.str (tx zs))) st ∧ zs.length = 94 := by
  obtain ⟨x, hx⟩ := tx_ex (PySem.Str.ofString " !\"#$&'()*+,-./0123456789:;<=>?@ABCDEFGHIJKLMNOPQRSTUVWXYZ[\\]^_`")
  obtain ⟨y, hy⟩ := tx_ex (PySem.Str.ofString "abcdefghijklmnopqrstuvwxyz{|}~")
  have lx : x.length = 64 := by rw [← tx_len (a := x), ← hx]; decide +kernel
  have ly : y.length = 30 := by rw [← tx_len (a := y), ← hy]; decide +kernel
  have hb : big = 16777216 := rfl
  have ad : opAdd (.v (.str (tx x))) (.v (.str (tx y))) st = .ok (.v (.str (tx (x ++ y)))) st := by
    rw [o_addS (by rw [tx_len, tx_len]; omega), tx_app]
  refine ⟨x ++ y, ?_, by rw [List.length_append]; omega⟩
  unfold m_law_signs b_law_signs
  simp! [hx, hy, ad, fin_same]
theorem text_ok {st : Store} {p : Nat} {way : Int} (hp : Pl st p) (h0 : 0 ≤ way) (h4 : way < 4) : ∃ cs st', m_law_text [.l p, .v (.int way)] st = .ok (.v (.str (tx cs))) st' ∧ Pw p st st' := by
  have hb : big = 16777216 := rfl
  rcases (show way = 0 ∨ way = 1 ∨ way = 2 ∨ way = 3 by omega) with rfl | rfl | rfl | rfl
  · obtain ⟨r1, s1, e1, w1, p1, q1⟩ := take_ok (m := 4) hp (by omega) (wide_nat (by omega))
    obtain ⟨a, ea, ha, _⟩ := pick (ss := nmT) (n := 11) (by decide +kernel) p1 (by show r1 < 4; omega)
    unfold nmT at ea
    simp only [List.map_cons, List.map_nil] at ea
    obtain ⟨zs, hz, hz0, hz1⟩ := signs_ok (st := s1)
    obtain ⟨cs, u, f, w, _, _⟩ := bent_ok (a := a) (zs := zs) w1.pl (by omega) hz0 hz1
    have ww := w1.trans w
    refine ⟨cs, u, ?_, ww⟩
    unfold m_law_text b_law_text sb_law_text_1
    simp! [names_ok, e1, ea, hz, f, fin_eqv ww.len ww.o]
  · obtain ⟨zs, hz, hzl⟩ := signs94 (st := st)
    obtain ⟨r, s1, e1, w1, p1, q1⟩ := take_ok (m := 21) hp (by omega) (wide_nat (by omega))
    obtain ⟨cs, s2, e2, w2, l2, hc⟩ := lc_draw (gd := fun _ => True) (pt := .nm 4) (me := ce_law_text_1) (env := [some (.l p), some (.v (.int 1)), some (.v (.str (tx zs))), none, none]) (st := s1) (fun c : Nat => .str (tx [c])) (fun c => c ∈ zs) (rangeW 0 r.toNat) w1.pl (by rw [range_len]; omega) (fun _ => trivial) (by
      intro x hx
      obtain ⟨k, hk, rfl⟩ := mem_range hx
      refine ⟨_, b_nm, fun s acc hs _ => ?_⟩
      obtain ⟨r', s', e, w, q, q2⟩ := takeP (x := .lst acc) (m := 94) hs (by omega) (wide_nat (by omega))
      obtain ⟨c, hc, ec⟩ := sign_at (zs := zs) (by omega) q (by omega) (s'.push (.lst acc))
      refine ⟨c, s', ?_, w, hc⟩
      unfold ce_law_text_1
      simp! [e, ec])
    rw [range_len] at l2
    have ww := w1.trans w2
    refine ⟨cs, s2, ?_, ww⟩
    have jn := join_none (cs := cs) (st := s2) (by omega)
    unfold m_law_text b_law_text sb_law_text_1 sb_law_text_2
    simp! [hz, none_is, e1, k_itR1 (n := r) (st := s1) (by omega) (by omega), e2, jn, fin_eqv ww.len ww.o]
  · obtain ⟨r1, s1, e1, w1, p1, q1⟩ := take_ok (m := 10) hp (by omega) (wide_nat (by omega))
    obtain ⟨cs, ec, hl, _⟩ := pick (ss := odT) (n := 40) (by decide +kernel) p1 (by show r1 < 10; omega)
    unfold odT at ec
    simp only [List.map_cons, List.map_nil] at ec
    have ad : ∀ xs ys S, xs.length + ys.length ≤ 100 → opAdd (.v (.lst xs)) (.v (.lst ys)) S = .ok (.v (.lst (xs ++ ys))) S := fun xs ys S h => o_addL (by omega)
    refine ⟨cs, s1, ?_, w1⟩
    unfold m_law_text b_law_text sb_law_text_1 sb_law_text_2 sb_law_text_3
    simp! [ad, e1, ec, fin_eqv w1.len w1.o]
  · obtain ⟨ts, s0, e0, w0, hok, htl⟩ := terms_ok (m := 2) hp (by decide)
    have e0' : m_law_terms [.l p, .v (.int 2)] st = .ok (.v (.lst (ts.map pW))) s0 := e0
    have tt := terms_text_ok (st := s0) hok (by omega)
    refine ⟨wT ts, s0, ?_, w0⟩
    unfold m_law_text b_law_text sb_law_text_1 sb_law_text_2 sb_law_text_3 sb_law_text_4
    simp! [e0', tt, fin_eqv w0.len w0.o]
/-! ### the law -/
theorem law_true (ns : List Int) (hns : ns.length ≤ 63) : ∃ st', m_law [.v (.ro (ns.map W.int))] emp = .ok (.v (.bl true)) st' := by
  have hb : big = 16777216 := rfl
  obtain ⟨c1, n1, u1, ec1, ep1, P1, O1, _⟩ := pool_at ns 1 emp rfl
  have ec1 : m_law_cell [.v (.ro (ns.map W.int)), .v (.int 1)] emp = .ok (.v (.int c1)) emp := ec1
  obtain ⟨c0, ec0, _⟩ := cell_ok ns 0 u1
  have ec0 : m_law_cell [.v (.ro (ns.map W.int)), .v (.int 0)] u1 = .ok (.v (.int c0)) u1 := ec0
  obtain ⟨a, s1, e1, w1⟩ := text_ok (way := c0 % 4) P1 (by omega) (by omega)
  obtain ⟨c2, n2, u2, ec2, ep2, P2, O2, _⟩ := pool_at ns 2 s1 (by rw [w1.o, O1])
  have ec2 : m_law_cell [.v (.ro (ns.map W.int)), .v (.int 2)] s1 = .ok (.v (.int c2)) s1 := ec2
  obtain ⟨r, s2, e2, w2, p2, q2⟩ := take_ok (m := 14) P2 (by omega) (wide_nat (by omega))
  --E A := law| script .v (.ro (ns.map W.int)); text .v (.str (tx a)); pool .l n2
  obtain ⟨cs, s3, e3, w3, hl3, _⟩ := lc_draw (gd := fun _ => True) (pt := .nm 5) (me := ce_law_1) (env := [some (.v (.ro (ns.map W.int))), some (.v (.str (tx a))), some (.l n2), none, none, none]) (st := s2) carW CarOk (rangeW 0 r.toNat) w2.pl (by rw [range_len]; omega) (fun _ => trivial) (by
    intro x hx
    refine ⟨_, b_nm, fun s acc hs hl => ?_⟩
    obtain ⟨c, s', e, w, hc, _⟩ := car_ok (st := s.push (.lst acc)) (m := 12) hs.push (by omega) (by omega)
    obtain ⟨s2, rfl, w2⟩ := w.unpush hs.lt
    refine ⟨c, s2, ?_, w2, hc⟩
    unfold ce_law_1
    simp! [e])
  rw [range_len] at hl3
  obtain ⟨c3, n3, u3, ec3, ep3, P3, O3, _⟩ := pool_at ns 3 s3 (by rw [w3.o, w2.o, O2])
  have ec3 : m_law_cell [.v (.ro (ns.map W.int)), .v (.int 3)] s3 = .ok (.v (.int c3)) s3 := ec3
  obtain ⟨wd, s4, e4, w4, p4, q4⟩ := take_ok (m := 16) P3 (by omega) (wide_nat (by omega))
  obtain ⟨w, rfl⟩ : ∃ w : Nat, wd = w := ⟨wd.toNat, by omega⟩
  have hcl : cs.length ≤ 100 := by omega
  have sl : leastL ∈ sidesL := by decide
  have N1 : ∀ s, m_Rule_named [.v (.cls 2), .v (.str (PySem.Str.ofString "equal"))] s = .ok (.v (ruleW [(leastL, gotL)])) s := fun s => named_ok (tt := PySem.Str.ofString "least got") (by decide +kernel) (by
    rw [show PySem.Str.ofString "least got" = tx (wt1 (leastL, gotL)) by decide +kernel]
    exact parse_one (t := (leastL, gotL)) (by decide) (by decide))
  have N2 : ∀ s, m_Rule_named [.v (.cls 2), .v (.str (PySem.Str.ofString "first come"))] s = .ok (.v (ruleW [])) s := fun s => named_ok (tt := PySem.Str.ofString "first come") (by decide +kernel) (by
    rw [first_tx]
    exact parse_first)
  have N3 : ∀ s, m_Rule_named [.v (.cls 2), .v (.str (PySem.Str.ofString "least slack"))] s = .ok (.v (ruleW [(leastL, slackL)])) s := fun s => named_ok (tt := PySem.Str.ofString "least slack") (by decide +kernel) (by
    rw [show PySem.Str.ofString "least slack" = tx (wt1 (leastL, slackL)) by decide +kernel]
    exact parse_one (t := (leastL, slackL)) (by decide) (by decide))
  have N4 : ∀ s, m_Rule_named [.v (.cls 2), .v (.str (PySem.Str.ofString "first leave"))] s = .ok (.v (ruleW [(leastL, leftL)])) s := fun s => named_ok (tt := PySem.Str.ofString "least left") (by decide +kernel) (by
    rw [show PySem.Str.ofString "least left" = tx (wt1 (leastL, leftL)) by decide +kernel]
    exact parse_one (t := (leastL, leftL)) (by decide) (by decide))
  have L1 : m_law_named [.v (.str (PySem.Str.ofString "equal")), .v (.lst [.tup [.str (PySem.Str.ofString "least"), .str (PySem.Str.ofString "got")]]), .v (.lst (cs.map carW)), .v (.int (w : Int))] s4 = .ok (.v (.bl true)) s4 := by
    rw [least_tx, got_tx]
    exact lnamed_ok (ts := [(leastL, gotL)]) N1 (rule_one (by decide) (by decide)) (by decide) hcl
  have L2 : m_law_named [.v (.str (PySem.Str.ofString "first come")), .v (.lst []), .v (.lst (cs.map carW)), .v (.int (w : Int))] s4 = .ok (.v (.bl true)) s4 :=
    lnamed_ok (ts := []) N2 rule_nil (by decide) hcl
  have L3 : m_law_named [.v (.str (PySem.Str.ofString "least slack")), .v (.lst [.tup [.str (PySem.Str.ofString "least"), .str (PySem.Str.ofString "slack")]]), .v (.lst (cs.map carW)), .v (.int (w : Int))] s4 = .ok (.v (.bl true)) s4 := by
    rw [least_tx, slack_tx]
    exact lnamed_ok (ts := [(leastL, slackL)]) N3 (rule_one (by decide) (by decide)) (by decide) hcl
  have L4 : m_law_named [.v (.str (PySem.Str.ofString "first leave")), .v (.lst [.tup [.str (PySem.Str.ofString "least"), .str (PySem.Str.ofString "left")]]), .v (.lst (cs.map carW)), .v (.int (w : Int))] s4 = .ok (.v (.bl true)) s4 := by
    rw [least_tx, left_tx]
    exact lnamed_ok (ts := [(leastL, leftL)]) N4 (rule_one (by decide) (by decide)) (by decide) hcl
  have kl1 : ∀ (a : W) st, kLst2 (some [a]) st = .ok (.v (.lst [a])) st := fun a st => k_lst2 (by show 1 ≤ _; omega)
  have kt : ∀ (a b : W) st, kTup2 (some [a, b]) st = .ok (.v (.tup [a, b])) st := fun a b st => k_tup2 (by show 2 ≤ _; omega)
  obtain ⟨m1, h1⟩ := tx_ex (PySem.Str.ofString "equal")
  obtain ⟨m2, h2⟩ := tx_ex (PySem.Str.ofString "first come")
  obtain ⟨m3, h3⟩ := tx_ex (PySem.Str.ofString "least slack")
  obtain ⟨m4, h4⟩ := tx_ex (PySem.Str.ofString "first leave")
  have oi : opIn true (.v (.str (tx a))) (.v (.lst [.str (PySem.Str.ofString "equal"), .str (PySem.Str.ofString "first come"), .str (PySem.Str.ofString "least slack"), .str (PySem.Str.ofString "first leave")])) s4 = .ok (.v (.bl (!decide (a ∈ [m1, m2, m3, m4])))) s4 := by
    rw [h1, h2, h3, h4]
    exact in_strs (neg := true) (w := a) (ws := [m1, m2, m3, m4]) rfl
  have rest : a ∉ [m1, m2, m3, m4] → m_law_refused [.v (.str (tx a))] s4 = .ok (.v (.bl true)) s4 := fun hn => by
    have ne : ∀ m s, PySem.Str.ofString s = tx m → m ∈ [m1, m2, m3, m4] → (tx a == PySem.Str.ofString s) = false := fun m s h hm => beq_eq_false_iff_ne.mpr fun e => hn (by rw [h, tx_inj] at e; rw [e]; exact hm)
    refine refused_ok ?_
    unfold namesG
    rw [List.lookup_cons, ne m1 _ h1 (by simp), List.lookup_cons, ne m2 _ h2 (by simp), List.lookup_cons, ne m3 _ h3 (by simp), List.lookup_cons, ne m4 _ h4 (by simp)]
    rfl
  obtain ⟨st', ff⟩ := fin_true (s := s4) (by rw [w4.o, O3])
  refine ⟨st', ?_⟩
  unfold m_law b_law sb_law_1 sb_law_2 sb_law_3 sb_law_4 sb_law_5 sb_law_6 sb_law_7 sb_law_8 sb_law_9
  by_cases z : a ∈ [m1, m2, m3, m4]
  · rw [decide_eq_true z] at oi
    simp! [ec1, ep1, ec0, e1, ec2, ep2, e2, k_itR1 (n := r) (st := s2) (by omega) (by omega), e3, ec3, ep3, e4, kl1, kt, L1, L2, L3, names_ok, oi, L4, ff]
  · have rf := rest z
    rw [decide_eq_false z] at oi
    simp! [ec1, ep1, ec0, e1, ec2, ep2, e2, k_itR1 (n := r) (st := s2) (by omega) (by omega), e3, ec3, ep3, e4, kl1, kt, L1, L2, L3, names_ok, oi, rf, L4, ff]
end K14

set_option Elab.async false
set_option linter.all false
set_option maxRecDepth 100000
set_option maxHeartbeats 4000000
namespace K14
open PySem PySem.Spec PyProof.Rows L2 Mz

def top (i : Nat) : Stmt := PySem.Challenge.pw_onecable_k14_named_rules.main.body.getD i (.Pass ⟨0, 0, 0, 0⟩)
abbrev s_law_take : Stmt := top 12
abbrev s_law_car : Stmt := top 20
abbrev s_law_cell : Stmt := top 10
abbrev s_Ruleu_iteru : Stmt := inClass (top 8) 8
abbrev s_Ruleu_lenu : Stmt := inClass (top 8) 7
abbrev s_Ruleu_initu : Stmt := inClass (top 8) 0
abbrev s_Rule_parse : Stmt := inClass (top 8) 1
abbrev s_Rule_named : Stmt := inClass (top 8) 2
abbrev s_measure : Stmt := top 7
abbrev s_Ruleu_callu : Stmt := inClass (top 8) 3
abbrev s_Rule_order : Stmt := inClass (top 8) 4
abbrev s_Rule_serve : Stmt := inClass (top 8) 5
abbrev s_law_ahead : Stmt := top 18
abbrev s_law_measure : Stmt := top 16
abbrev s_law_key : Stmt := top 17
abbrev s_law_order : Stmt := top 19
abbrev s_law_same : Stmt := top 13
abbrev s_law_named : Stmt := top 26
abbrev s_law_names_of_rules : Stmt := top 23
abbrev s_law_pool : Stmt := top 11
abbrev s_law_refused : Stmt := top 25
abbrev s_law_bent : Stmt := top 22
abbrev s_law_signs : Stmt := top 21
abbrev s_law_terms : Stmt := top 14
abbrev s_law_terms_text : Stmt := top 15
abbrev s_law_text : Stmt := top 24
abbrev s_law : Stmt := top 27
abbrev s_BadRuleu_initu : Stmt := inClass (top 2) 0
structure Tt (P : Program) (w : World) (K : PySem.W.Frag) (mg : Str → Option Value) (cl : Nat → Addr) (base : Heap) where
  f_law_take : Addr
  fd_law_take : FuncData
  F_law_take : Fun K "_law_take" "_law_take" s_law_take f_law_take fd_law_take
  b_law_take : Binds K fd_law_take ["_law_pool_here", "_law_many"] []
  g_law_take : mg "_law_take" = some (.ref f_law_take)
  f_law_car : Addr
  fd_law_car : FuncData
  F_law_car : Fun K "_law_car" "_law_car" s_law_car f_law_car fd_law_car
  b_law_car : Binds K fd_law_car ["_law_pool_here", "_law_longest"] []
  g_law_car : mg "_law_car" = some (.ref f_law_car)
  f_law_cell : Addr
  fd_law_cell : FuncData
  F_law_cell : Fun K "_law_cell" "_law_cell" s_law_cell f_law_cell fd_law_cell
  b_law_cell : Binds K fd_law_cell ["_law_script", "_law_at"] []
  g_law_cell : mg "_law_cell" = some (.ref f_law_cell)
  f_Ruleu_iteru : Addr
  fd_Ruleu_iteru : FuncData
  F_Ruleu_iteru : Fun K "__iter__" "Rule.__iter__" s_Ruleu_iteru f_Ruleu_iteru fd_Ruleu_iteru
  b_Ruleu_iteru : Binds K fd_Ruleu_iteru ["self"] []
  f_Ruleu_lenu : Addr
  fd_Ruleu_lenu : FuncData
  F_Ruleu_lenu : Fun K "__len__" "Rule.__len__" s_Ruleu_lenu f_Ruleu_lenu fd_Ruleu_lenu
  b_Ruleu_lenu : Binds K fd_Ruleu_lenu ["self"] []
  f_Ruleu_initu : Addr
  fd_Ruleu_initu : FuncData
  F_Ruleu_initu : Fun K "__init__" "Rule.__init__" s_Ruleu_initu f_Ruleu_initu fd_Ruleu_initu
  b_Ruleu_initu : Binds K fd_Ruleu_initu ["self", "terms"] []
  f_Rule_parse : Addr
  fd_Rule_parse : FuncData
  F_Rule_parse : Fun K "parse" "Rule.parse" s_Rule_parse f_Rule_parse fd_Rule_parse
  b_Rule_parse : Binds K fd_Rule_parse ["cls", "text"] []
  f_Rule_named : Addr
  fd_Rule_named : FuncData
  F_Rule_named : Fun K "named" "Rule.named" s_Rule_named f_Rule_named fd_Rule_named
  b_Rule_named : Binds K fd_Rule_named ["cls", "name"] []
  f_measure : Addr
  fd_measure : FuncData
  F_measure : Fun K "measure" "measure" s_measure f_measure fd_measure
  b_measure : Binds K fd_measure ["car", "word"] []
  g_measure : mg "measure" = some (.ref f_measure)
  f_Ruleu_callu : Addr
  fd_Ruleu_callu : FuncData
  F_Ruleu_callu : Fun K "__call__" "Rule.__call__" s_Ruleu_callu f_Ruleu_callu fd_Ruleu_callu
  b_Ruleu_callu : Binds K fd_Ruleu_callu ["self", "car"] []
  f_Rule_order : Addr
  fd_Rule_order : FuncData
  F_Rule_order : Fun K "order" "Rule.order" s_Rule_order f_Rule_order fd_Rule_order
  b_Rule_order : Binds K fd_Rule_order ["self", "cars"] []
  f_Rule_serve : Addr
  fd_Rule_serve : FuncData
  F_Rule_serve : Fun K "serve" "Rule.serve" s_Rule_serve f_Rule_serve fd_Rule_serve
  b_Rule_serve : Binds K fd_Rule_serve ["self", "cars", "width"] []
  f_law_ahead : Addr
  fd_law_ahead : FuncData
  F_law_ahead : Fun K "_law_ahead" "_law_ahead" s_law_ahead f_law_ahead fd_law_ahead
  b_law_ahead : Binds K fd_law_ahead ["_law_one", "_law_two"] []
  g_law_ahead : mg "_law_ahead" = some (.ref f_law_ahead)
  f_law_measure : Addr
  fd_law_measure : FuncData
  F_law_measure : Fun K "_law_measure" "_law_measure" s_law_measure f_law_measure fd_law_measure
  b_law_measure : Binds K fd_law_measure ["_law_car_here", "_law_word"] []
  g_law_measure : mg "_law_measure" = some (.ref f_law_measure)
  f_law_key : Addr
  fd_law_key : FuncData
  F_law_key : Fun K "_law_key" "_law_key" s_law_key f_law_key fd_law_key
  b_law_key : Binds K fd_law_key ["_law_terms_here", "_law_car_here"] []
  g_law_key : mg "_law_key" = some (.ref f_law_key)
  f_law_order : Addr
  fd_law_order : FuncData
  F_law_order : Fun K "_law_order" "_law_order" s_law_order f_law_order fd_law_order
  b_law_order : Binds K fd_law_order ["_law_terms_here", "_law_cars"] []
  g_law_order : mg "_law_order" = some (.ref f_law_order)
  f_law_same : Addr
  fd_law_same : FuncData
  F_law_same : Fun K "_law_same" "_law_same" s_law_same f_law_same fd_law_same
  b_law_same : Binds K fd_law_same ["_law_told", "_law_due"] []
  g_law_same : mg "_law_same" = some (.ref f_law_same)
  f_law_named : Addr
  fd_law_named : FuncData
  F_law_named : Fun K "_law_named" "_law_named" s_law_named f_law_named fd_law_named
  b_law_named : Binds K fd_law_named ["_law_name", "_law_terms_here", "_law_cars", "_law_width"] []
  g_law_named : mg "_law_named" = some (.ref f_law_named)
  f_law_names_of_rules : Addr
  fd_law_names_of_rules : FuncData
  F_law_names_of_rules : Fun K "_law_names_of_rules" "_law_names_of_rules" s_law_names_of_rules f_law_names_of_rules fd_law_names_of_rules
  b_law_names_of_rules : Binds K fd_law_names_of_rules [] []
  g_law_names_of_rules : mg "_law_names_of_rules" = some (.ref f_law_names_of_rules)
  f_law_pool : Addr
  fd_law_pool : FuncData
  F_law_pool : Fun K "_law_pool" "_law_pool" s_law_pool f_law_pool fd_law_pool
  b_law_pool : Binds K fd_law_pool ["_law_cell_here"] []
  g_law_pool : mg "_law_pool" = some (.ref f_law_pool)
  f_law_refused : Addr
  fd_law_refused : FuncData
  F_law_refused : Fun K "_law_refused" "_law_refused" s_law_refused f_law_refused fd_law_refused
  b_law_refused : Binds K fd_law_refused ["_law_text_here"] []
  g_law_refused : mg "_law_refused" = some (.ref f_law_refused)
  f_law_bent : Addr
  fd_law_bent : FuncData
  F_law_bent : Fun K "_law_bent" "_law_bent" s_law_bent f_law_bent fd_law_bent
  b_law_bent : Binds K fd_law_bent ["_law_pool_here", "_law_text_here", "_law_signs_here"] []
  g_law_bent : mg "_law_bent" = some (.ref f_law_bent)
  f_law_signs : Addr
  fd_law_signs : FuncData
  F_law_signs : Fun K "_law_signs" "_law_signs" s_law_signs f_law_signs fd_law_signs
  b_law_signs : Binds K fd_law_signs [] []
  g_law_signs : mg "_law_signs" = some (.ref f_law_signs)
  f_law_terms : Addr
  fd_law_terms : FuncData
  F_law_terms : Fun K "_law_terms" "_law_terms" s_law_terms f_law_terms fd_law_terms
  b_law_terms : Binds K fd_law_terms ["_law_pool_here", "_law_most"] []
  g_law_terms : mg "_law_terms" = some (.ref f_law_terms)
  f_law_terms_text : Addr
  fd_law_terms_text : FuncData
  F_law_terms_text : Fun K "_law_terms_text" "_law_terms_text" s_law_terms_text f_law_terms_text fd_law_terms_text
  b_law_terms_text : Binds K fd_law_terms_text ["_law_terms_here"] []
  g_law_terms_text : mg "_law_terms_text" = some (.ref f_law_terms_text)
  f_law_text : Addr
  fd_law_text : FuncData
  F_law_text : Fun K "_law_text" "_law_text" s_law_text f_law_text fd_law_text
  b_law_text : Binds K fd_law_text ["_law_pool_here", "_law_way"] []
  g_law_text : mg "_law_text" = some (.ref f_law_text)
  f_law : Addr
  fd_law : FuncData
  F_law : Fun K "law" "law" s_law f_law fd_law
  b_law : Binds K fd_law ["_law_script"] []
  g_law : mg "law" = some (.ref f_law)
  z_ValueError : mg "ValueError" = none
  z_abs : mg "abs" = none
  z_bool : mg "bool" = none
  z_enumerate : mg "enumerate" = none
  z_int : mg "int" = none
  z_isinstance : mg "isinstance" = none
  z_iter : mg "iter" = none
  z_len : mg "len" = none
  z_list : mg "list" = none
  z_range : mg "range" = none
  z_sorted : mg "sorted" = none
  z_str : mg "str" = none
  z_super : mg "super" = none
  z_tuple : mg "tuple" = none
  C_2 : ClF K (cl 2)
  gc_2 : mg "Rule" = some (.ref (cl 2))
  mk_2 : Mk K (cl 2) f_Ruleu_initu
  na_2_terms : NoAttr K (cl 2) "terms"
  mt_Ruleu_iteru : Meth K (cl 2) "__iter__" f_Ruleu_iteru
  mt_Ruleu_lenu : Meth K (cl 2) "__len__" f_Ruleu_lenu
  mt_Rule_order : Meth K (cl 2) "order" f_Rule_order
  mt_Rule_serve : Meth K (cl 2) "serve" f_Rule_serve
  mt_Ruleu_callu : Meth K (cl 2) "__call__" f_Ruleu_callu
  fi_Ruleu_callu : PySem.W.fnIn K f_Ruleu_callu = true
  cm_2 : Value
  cr_2 : ClX.CRead K (cl 2) cm_2
  cp_Rule_named : Addr
  ct_Rule_named : ClX.CMet K (cl 2) cm_2 "named" cp_Rule_named f_Rule_named
  cp_Rule_parse : Addr
  ct_Rule_parse : ClX.CMet K (cl 2) cm_2 "parse" cp_Rule_parse f_Rule_parse
  ki_2_2 : PySem.W.kitOne K (.ref (cl 2)) (.ref (cl 2)) = some true
  kt_NoneType_2 : PySem.W.kitOne K (.type "NoneType") (.ref (cl 2)) = some false
  kt_int_2 : PySem.W.kitOne K (.type "int") (.ref (cl 2)) = some false
  ca_SIDES : Addr
  cg_SIDES : mg "SIDES" = some (.ref ca_SIDES)
  cq_SIDES : GTs K ca_SIDES [PySem.Str.ofString "least", PySem.Str.ofString "most"]
  ca_WORDS : Addr
  cg_WORDS : mg "WORDS" = some (.ref ca_WORDS)
  cq_WORDS : GTs K ca_WORDS [PySem.Str.ofString "stay", PySem.Str.ofString "need", PySem.Str.ofString "left", PySem.Str.ofString "want", PySem.Str.ofString "here", PySem.Str.ofString "got", PySem.Str.ofString "slack"]
  da_NAMED : Addr
  dg_NAMED : mg "NAMED" = some (.ref da_NAMED)
  dk_NAMED : GDct K w da_NAMED [(PySem.Str.ofString "equal", PySem.Str.ofString "least got"), (PySem.Str.ofString "first come", PySem.Str.ofString "first come"), (PySem.Str.ofString "least slack", PySem.Str.ofString "least slack"), (PySem.Str.ofString "first leave", PySem.Str.ofString "least left")]
  fx_22 : Addr
  ex_22 : PySem.ExF.Ex1Txt K mg P (cl 22) fx_22 "BadRule.__init__" "place" "term is not valid here"
  xc_22 : XcF K (cl 22)
  nf_22_place : PySem.W.findIn K (.ref (cl 22)) "place" = some none
  xo_22_CableError : PySem.W.kitOne K (.ref (cl 22)) (.ref (cl 20)) = some true
  xo_22_ValueError : PySem.W.kitOne K (.ref (cl 22)) (.type "ValueError") = some true
  gx_22 : mg "BadRule" = some (.ref (cl 22))
  xk_22 : PySem.W.keepIn K (.ref (cl 22)) = true
  xr1_22 : PySem.W.subIn K (.ref (cl 22)) (.type "BaseException") = some true
  xr2_22 : PySem.W.typeIn K (.ref (cl 22)) = some (.type "type")
  gx_20 : mg "CableError" = some (.ref (cl 20))
  xk_20 : PySem.W.keepIn K (.ref (cl 20)) = true
  xr1_20 : PySem.W.subIn K (.ref (cl 20)) (.type "BaseException") = some true
  xr2_20 : PySem.W.typeIn K (.ref (cl 20)) = some (.type "type")
  xm_22_22 : PySem.W.exmOne K (.ref (cl 22)) (.ref (cl 22)) = some true
  co_0 : Addr
  FC_Rule_order : FunC K "order" "Rule.order" s_Rule_order f_Rule_order fd_Rule_order co_0
  TB_0 : LamX.TabB base mg co_0 (cl 900)
  tn_0 : cl 900 ≠ 0
  td : cl 900 ≠ cl 901
section
variable {P : Program} {w : World} {K : PySem.W.Frag} {mg : Str → Option Value} {base : Heap} {cl : Nat → Addr}
theorem sc_law_take : FnScope N_law_take ["_law_pool_here", "_law_many"] (defScope s_law_take) := ⟨rfl, rfl, rfl, by decide +kernel, rfl, by decide +kernel, by decide +kernel⟩
theorem ok_law_take (T : Tt P w K mg cl base) : FnOk P w K mg base (L2.CX P w) 1 T.f_law_take T.fd_law_take ["_law_pool_here", "_law_many"] (spM ⟨K, cl⟩ 2 m_law_take) := by
  refine fun_ok (md := .tr) (mb := b_law_take) T.F_law_take sc_law_take rfl rfl (fun cdv A outer st H E hr => ?_)
  have nd := sc_law_take.nd
  have tk : Takes (cxOf (L2.CX P w) P w K mg base N_law_take "_law_take" (defScope s_law_take) T.f_law_take cdv A outer st H E) (fun c d _ H' => E c d H') := takes_of rfl rfl rfl rfl
  exact (is_cons (is_setI (ie_op op_addAll s_add (ie_ix ix_seq s_ix (ie_var 0) ie_int (fun _ _ => rfl)) ie_int) (ie_var 0) ie_int (pg_sub (ie_var 0) ie_int set_list))
    (is_cons (is_if (it_cmp op_gt s_gt (ie_ix ix_seq s_ix (ie_var 0) ie_int (fun _ _ => rfl)) ie_int (nomark _)) (is_cons (is_asg 2 nd (ie_op op_mod s_mod (ie_callTy call_int1 s_int rfl T.z_int (by decide +kernel) (ia_cons (ie_ix ix_seq s_ix (ie_var 0) ie_int (fun _ _ => rfl)) ia_nil)) (ie_var 1)))
    (is_cons (is_setI (ie_op op_fdivW s_div (ie_ix ix_seq s_ix (ie_var 0) ie_int (fun _ _ => rfl)) (ie_var 1)) (ie_var 0) ie_int (pg_sub (ie_var 0) ie_int set_list))
    (is_one (is_ret (ie_var 2))))) is_nil)
    (is_cons (is_asg 3 nd (ie_op op_mod s_mod (ie_callTy call_int1 s_int rfl T.z_int (by decide +kernel) (ia_cons (ie_op op_mul s_mul (ie_op op_addAll s_add (ie_ix ix_seq s_ix (ie_var 0) ie_int (fun _ _ => rfl)) (ie_op op_mul s_mul ie_int (ie_ix ix_seq s_ix (ie_var 0) ie_int (fun _ _ => rfl)))) ie_int) ia_nil)) ie_int))
    (is_cons (is_asg 3 nd (ie_op op_mod s_mod (ie_callTy call_int1 s_int rfl T.z_int (by decide +kernel) (ia_cons (ie_op op_addAll s_add (ie_op op_mul s_mul (ie_var 3) ie_int) (ie_op op_mul s_mul ie_int (ie_ix ix_seq s_ix (ie_var 0) ie_int (fun _ _ => rfl)))) ia_nil)) ie_int))
    (is_one (is_ret (ie_op op_mod s_mod (ie_callTy call_int1 s_int rfl T.z_int (by decide +kernel) (ia_cons (ie_op op_fdivW s_div (ie_var 3) ie_int) ia_nil)) (ie_var 1))))))))
theorem ar_law_take : Ar m_law_take 2 := ar_fn
theorem sc_law_car : FnScope N_law_car ["_law_pool_here", "_law_longest"] (defScope s_law_car) := ⟨rfl, rfl, rfl, by decide +kernel, rfl, by decide +kernel, by decide +kernel⟩
theorem ok_law_car (T : Tt P w K mg cl base) : FnOk P w K mg base (L2.CX P w) 2 T.f_law_car T.fd_law_car ["_law_pool_here", "_law_longest"] (spM ⟨K, cl⟩ 2 m_law_car) := by
  refine fun_ok (md := .tr) (mb := b_law_car) T.F_law_car sc_law_car rfl rfl (fun cdv A outer st H E hr => ?_)
  have nd := sc_law_car.nd
  have tk : Takes (cxOf (L2.CX P w) P w K mg base N_law_car "_law_car" (defScope s_law_car) T.f_law_car cdv A outer st H E) (fun c d _ H' => E c d H') := takes_of rfl rfl rfl rfl
  exact (is_cons (is_asg 2 nd (ie_op op_addAll s_add ie_int (ie_call (ok_law_take T) ar_law_take tk (hr.mono (by decide)) rfl T.g_law_take T.F_law_take.kp T.b_law_take (ia_cons (ie_var 0) (ia_cons (ie_var 1) ia_nil)))))
    (is_cons (is_asg 3 nd (ie_op op_addAll s_add ie_int (ie_call (ok_law_take T) ar_law_take tk (hr.mono (by decide)) rfl T.g_law_take T.F_law_take.kp T.b_law_take (ia_cons (ie_var 0) (ia_cons (ie_var 2) ia_nil)))))
    (is_cons (is_asg 4 nd (ie_op op_addAll s_add ie_int (ie_call (ok_law_take T) ar_law_take tk (hr.mono (by decide)) rfl T.g_law_take T.F_law_take.kp T.b_law_take (ia_cons (ie_var 0) (ia_cons (ie_var 2) ia_nil)))))
    (is_cons (is_asg 5 nd (ie_op op_addAll s_add (ie_op op_sub s_sub (ie_var 2) (ie_var 4)) ie_int))
    (is_cons (is_if (it_cmp op_lt s_lt (ie_var 3) (ie_var 5) (nomark _)) (is_one (is_asg 5 nd (ie_var 3))) is_nil)
    (is_one (is_ret (ie_tup (ia_cons (ie_var 2) (ia_cons (ie_var 3) (ia_cons (ie_var 4) (ia_cons (ie_op op_sub s_sub (ie_var 3) (ie_call (ok_law_take T) ar_law_take tk (hr.mono (by decide)) rfl T.g_law_take T.F_law_take.kp T.b_law_take (ia_cons (ie_var 0) (ia_cons (ie_var 5) ia_nil)))) ia_nil))))))))))))
theorem ar_law_car : Ar m_law_car 2 := ar_fn
theorem sc_law_cell : FnScope N_law_cell ["_law_script", "_law_at"] (defScope s_law_cell) := ⟨rfl, rfl, rfl, by decide +kernel, rfl, by decide +kernel, by decide +kernel⟩
theorem ok_law_cell (T : Tt P w K mg cl base) : FnOk P w K mg base (L2.CX P w) 1 T.f_law_cell T.fd_law_cell ["_law_script", "_law_at"] (spM ⟨K, cl⟩ 2 m_law_cell) := by
  refine fun_ok (md := .tr) (mb := b_law_cell) T.F_law_cell sc_law_cell rfl rfl (fun cdv A outer st H E hr => ?_)
  have nd := sc_law_cell.nd
  have tk : Takes (cxOf (L2.CX P w) P w K mg base N_law_cell "_law_cell" (defScope s_law_cell) T.f_law_cell cdv A outer st H E) (fun c d _ H' => E c d H') := takes_of rfl rfl rfl rfl
  exact (is_cons (is_if (it_cmp op_lt s_lt (ie_var 1) (ie_callB c_len s_len rfl T.z_len (by decide +kernel) (ia_cons (ie_var 0) ia_nil)) (nomark _)) (is_one (is_ret (ie_callB call_abs s_abs rfl T.z_abs (by decide +kernel) (ia_cons (ie_callTy call_int1 s_int rfl T.z_int (by decide +kernel) (ia_cons (ie_ix ix_seq s_ix (ie_var 0) (ie_var 1) (fun _ _ => rfl)) ia_nil)) ia_nil)))) is_nil)
    (is_one (is_ret ie_int)))
theorem ar_law_cell : Ar m_law_cell 2 := ar_fn
theorem sc_Ruleu_iteru : FnScope N_Ruleu_iteru ["self"] (defScope s_Ruleu_iteru) := ⟨rfl, rfl, rfl, by decide +kernel, rfl, by decide +kernel, by decide +kernel⟩
theorem ok_Ruleu_iteru (T : Tt P w K mg cl base) : FnOk P w K mg base (L2.CX P w) 1 T.f_Ruleu_iteru T.fd_Ruleu_iteru ["self"] (spIter K (cl 2) "terms") := iter_ok T.F_Ruleu_iteru sc_Ruleu_iteru T.C_2.cl T.na_2_terms fun cdv A outer st H E => pss_one (ps_ret (pe_callB call_iterA rfl T.z_iter PyProof.Rows.boot_iter (pa_cons (pe_fld (pe_var (i := 0) rfl (by first | exact Or.inl rfl | exact Or.inr (Or.inl rfl) | exact Or.inr (Or.inr rfl)) (by decide) (by decide)) rfl) pa_nil)))
theorem sc_Ruleu_lenu : FnScope N_Ruleu_lenu ["self"] (defScope s_Ruleu_lenu) := ⟨rfl, rfl, rfl, by decide +kernel, rfl, by decide +kernel, by decide +kernel⟩
theorem ok_Ruleu_lenu (T : Tt P w K mg cl base) : FnOk P w K mg base (L2.CX P w) 1 T.f_Ruleu_lenu T.fd_Ruleu_lenu ["self"] (spM ⟨K, cl⟩ 1 m_Ruleu_lenu) := by
  refine fun_ok (md := .tr) (mb := b_Ruleu_lenu) T.F_Ruleu_lenu sc_Ruleu_lenu rfl rfl (fun cdv A outer st H E hr => ?_)
  have nd := sc_Ruleu_lenu.nd
  have tk : Takes (cxOf (L2.CX P w) P w K mg base N_Ruleu_lenu "Rule.__len__" (defScope s_Ruleu_lenu) T.f_Ruleu_lenu cdv A outer st H E) (fun c d _ H' => E c d H') := takes_of rfl rfl rfl rfl
  exact (is_one (is_ret (ie_callB c_len s_len rfl T.z_len (by decide +kernel) (ia_cons (ie_attr [2] (ie_var 0) (al_cons ⟨T.C_2.cl, T.na_2_terms⟩ al_nil)) ia_nil))))
theorem ar_Ruleu_lenu : Ar m_Ruleu_lenu 1 := ar_fn
theorem sc_Ruleu_initu : FnScope N_Ruleu_initu ["self", "terms"] (defScope s_Ruleu_initu) := ⟨rfl, rfl, rfl, by decide +kernel, rfl, by decide +kernel, by decide +kernel⟩
theorem ok_Ruleu_initu (T : Tt P w K mg cl base) : FnOk P w K mg base (L2.CX P w) 1 T.f_Ruleu_initu T.fd_Ruleu_initu ["self", "terms"] (spM ⟨K, cl⟩ 2 m_Ruleu_initu) := by
  refine fun_ok (md := .ini) (mb := b_Ruleu_initu) T.F_Ruleu_initu sc_Ruleu_initu rfl rfl (fun cdv A outer st H E hr => ?_)
  have nd := sc_Ruleu_initu.nd
  have tk : Takes (cxOf (L2.CX P w) P w K mg base N_Ruleu_initu "Rule.__init__" (defScope s_Ruleu_initu) T.f_Ruleu_initu cdv A outer st H E) (fun c d _ H' => E c d H') := takes_of rfl rfl rfl rfl
  exact (is_cons (is_setA [2] (ie_callTy call_tuple_of s_tuple rfl T.z_tuple (by decide +kernel) (ia_cons (ie_lc (own := [("side", 2), ("word", 3)]) rfl nd (ii_seq (ie_var 1)) (blkOk_by (own := [("side", 2), ("word", 3)]) (N := N_Ruleu_initu) (sc := defScope s_Ruleu_initu) (by decide +kernel)) (fun _ _ _ _ _ => (pg_tup rfl (pgs_cons (pg_name (i := 2) nd rfl (by first | exact Or.inl rfl | exact Or.inr rfl)) (pgs_cons (pg_name (i := 3) nd rfl (by first | exact Or.inl rfl | exact Or.inr rfl)) pgs_nil)))) (go_tp rfl (gos_cons go_nm (gos_cons go_nm gos_nil))) (fun _ _ _ _ _ => its_nil) (fun _ _ _ _ _ => (ie_tup (ia_cons (ie_var 2) (ia_cons (ie_var 3) ia_nil)))) (by decide)) ia_nil)) (ie_var 0) (al_cons ⟨T.C_2.cl, T.na_2_terms⟩ al_nil))
    (is_cons (is_asg 4 nd (ie_lstM ia_nil))
    (is_one (is_for (passes_of rfl) rfl (ii_enum rfl T.z_enumerate (ia_cons (ie_attr [2] (ie_var 0) (al_cons ⟨T.C_2.cl, T.na_2_terms⟩ al_nil)) ia_nil)) (pg_tup rfl (pgs_cons (pg_name (i := 5) nd rfl (by first | exact Or.inl rfl | exact Or.inr rfl)) (pgs_cons (pg_tup rfl (pgs_cons (pg_name (i := 2) nd rfl (by first | exact Or.inl rfl | exact Or.inr rfl)) (pgs_cons (pg_name (i := 3) nd rfl (by first | exact Or.inl rfl | exact Or.inr rfl)) pgs_nil))) pgs_nil))) (go_tp rfl (gos_cons go_nm (gos_cons (go_tp rfl (gos_cons go_nm (gos_cons go_nm gos_nil))) gos_nil))) (is_cons (is_if (PW.pt (iw_or (it_cmp op_notIn_seq s_in (ie_var 2) (ie_glT rfl T.cg_SIDES T.cq_SIDES rfl) (by rfl)) (iw_or (it_cmp op_notIn_seq s_in (ie_var 3) (ie_glT rfl T.cg_WORDS T.cq_WORDS rfl) (by rfl)) (iw_or1 (it_cmp op_in_seq s_in (ie_var 3) (ie_var 4) (by rfl)))))) (is_one (is_raise1 T.ex_22 T.gx_22 hr (ie_var 5) rfl rfl tk)) is_nil)
    (is_one (is_expr (ie_lm lm_append PySem.F.slot_list_append PySem.F.type_list_append mt_append (ie_var 4) (ia_cons (ie_var 3) ia_nil)))))))))
theorem ar_Ruleu_initu : Ar m_Ruleu_initu 2 := ar_fn
theorem sc_Rule_parse : FnScope N_Rule_parse ["cls", "text"] (defScope s_Rule_parse) := ⟨rfl, rfl, rfl, by decide +kernel, rfl, by decide +kernel, by decide +kernel⟩
theorem ok_Rule_parse (T : Tt P w K mg cl base) : FnOk P w K mg base (L2.CX P w) 3 T.f_Rule_parse T.fd_Rule_parse ["cls", "text"] (spM ⟨K, cl⟩ 2 m_Rule_parse) := by
  refine fun_ok (md := .tr) (mb := b_Rule_parse) T.F_Rule_parse sc_Rule_parse rfl rfl (fun cdv A outer st H E hr => ?_)
  have nd := sc_Rule_parse.nd
  have tk : Takes (cxOf (L2.CX P w) P w K mg base N_Rule_parse "Rule.parse" (defScope s_Rule_parse) T.f_Rule_parse cdv A outer st H E) (fun c d _ H' => E c d H') := takes_of rfl rfl rfl rfl
  exact (is_cons (is_if (it_cmp (op_eqAll hr.units) s_eq (ie_var 1) ie_str (nomark _)) (is_one (is_ret (ie_makeL (i := 0) (c := 2) T.mk_2 (ok_Ruleu_initu T) ar_Ruleu_initu tk (hr.mono (by decide)) T.b_Ruleu_initu rfl (by first | exact Or.inl rfl | exact Or.inr rfl) (ia_cons (ie_tup ia_nil) ia_nil)))) is_nil)
    (is_cons (is_asg 2 nd (ie_lstM ia_nil))
    (is_cons (is_for (passes_of rfl) rfl (ii_seq (ie_split (ie_var 1) ie_str)) (pg_name (i := 3) nd rfl (by first | exact Or.inl rfl | exact Or.inr rfl)) go_nm (is_cons (is_asg 4 nd (ie_split (ie_var 3) ie_str))
    (is_one (is_expr (ie_lm lm_append PySem.F.slot_list_append PySem.F.type_list_append mt_append (ie_var 2) (ia_cons (ie_if (it_cmp (op_eqAll hr.units) s_eq (ie_callB c_len s_len rfl T.z_len (by decide +kernel) (ia_cons (ie_var 4) ia_nil)) ie_int (nomark _)) (ie_tup (ia_cons (ie_ix ix_seq s_ix (ie_var 4) ie_int (fun _ _ => rfl)) (ia_cons (ie_ix ix_seq s_ix (ie_var 4) ie_int (fun _ _ => rfl)) ia_nil))) (ie_tup (ia_cons ie_str (ia_cons ie_str ia_nil)))) ia_nil))))))
    (is_one (is_ret (ie_makeL (i := 0) (c := 2) T.mk_2 (ok_Ruleu_initu T) ar_Ruleu_initu tk (hr.mono (by decide)) T.b_Ruleu_initu rfl (by first | exact Or.inl rfl | exact Or.inr rfl) (ia_cons (ie_var 2) ia_nil)))))))
theorem ar_Rule_parse : Ar m_Rule_parse 2 := ar_fn
theorem sc_Rule_named : FnScope N_Rule_named ["cls", "name"] (defScope s_Rule_named) := ⟨rfl, rfl, rfl, by decide +kernel, rfl, by decide +kernel, by decide +kernel⟩
theorem ok_Rule_named (T : Tt P w K mg cl base) : FnOk P w K mg base (L2.CX P w) 4 T.f_Rule_named T.fd_Rule_named ["cls", "name"] (spM ⟨K, cl⟩ 2 m_Rule_named) := by
  refine fun_ok (md := .tr) (mb := b_Rule_named) T.F_Rule_named sc_Rule_named rfl rfl (fun cdv A outer st H E hr => ?_)
  have nd := sc_Rule_named.nd
  have tk : Takes (cxOf (L2.CX P w) P w K mg base N_Rule_named "Rule.named" (defScope s_Rule_named) T.f_Rule_named cdv A outer st H E) (fun c d _ H' => E c d H') := takes_of rfl rfl rfl rfl
  exact (is_cons (is_if (it_inG true T.dk_NAMED rfl T.dg_NAMED (ie_var 1)) (is_one (is_raise1 T.ex_22 T.gx_22 hr ie_int rfl rfl tk)) is_nil)
    (is_one (is_ret (ie_cmethL (i := 0) (c := 2) T.cr_2 T.ct_Rule_parse (ok_Rule_parse T) ar_Rule_parse tk (hr.mono (by decide)) T.b_Rule_parse rfl (by first | exact Or.inl rfl | exact Or.inr rfl) (ia_cons (ie_ixG T.dk_NAMED rfl T.dg_NAMED (ie_var 1)) ia_nil)))))
theorem ar_Rule_named : Ar m_Rule_named 2 := ar_fn
theorem sc_measure : FnScope N_measure ["car", "word"] (defScope s_measure) := ⟨rfl, rfl, rfl, by decide +kernel, rfl, by decide +kernel, by decide +kernel⟩
theorem ok_measure (T : Tt P w K mg cl base) : FnOk P w K mg base (L2.CX P w) 1 T.f_measure T.fd_measure ["car", "word"] (spM ⟨K, cl⟩ 2 m_measure) := by
  refine fun_ok (md := .tr) (mb := b_measure) T.F_measure sc_measure rfl rfl (fun cdv A outer st H E hr => ?_)
  have nd := sc_measure.nd
  have tk : Takes (cxOf (L2.CX P w) P w K mg base N_measure "measure" (defScope s_measure) T.f_measure cdv A outer st H E) (fun c d _ H' => E c d H') := takes_of rfl rfl rfl rfl
  exact (is_cons (is_asgP (ie_var 0) (pg_tup rfl (pgs_cons (pg_name (i := 2) nd rfl (by first | exact Or.inl rfl | exact Or.inr rfl)) (pgs_cons (pg_name (i := 3) nd rfl (by first | exact Or.inl rfl | exact Or.inr rfl)) (pgs_cons (pg_name (i := 4) nd rfl (by first | exact Or.inl rfl | exact Or.inr rfl)) (pgs_cons (pg_name (i := 5) nd rfl (by first | exact Or.inl rfl | exact Or.inr rfl)) pgs_nil))))) (go_tp rfl (gos_cons go_nm (gos_cons go_nm (gos_cons go_nm (gos_cons go_nm gos_nil))))))
    (is_cons (is_asg 6 nd (ie_disp (ks := [PySem.Str.ofString "stay", PySem.Str.ofString "need", PySem.Str.ofString "left", PySem.Str.ofString "want", PySem.Str.ofString "here", PySem.Str.ofString "got", PySem.Str.ofString "slack"]) (pps_consS (ie_var 2) (pps_consS (ie_var 3) (pps_consS (ie_var 4) (pps_consS (ie_var 5) (pps_consS (ie_op op_sub s_sub (ie_var 2) (ie_var 4)) (pps_consS (ie_op op_sub s_sub (ie_var 3) (ie_var 5)) (pps_consS (ie_op op_sub s_sub (ie_var 4) (ie_var 5)) pps_nilS))))))) rfl rfl (by simp) (by decide) rfl (by decide) (by decide +kernel)))
    (is_one (is_ret (ie_dx (Nat.lt_of_le_of_lt (Nat.add_le_add_left (by decide : 1 ≤ 64) _) hr.units) (ie_var 6) (ie_var 1) (fun _ _ => rfl))))))
theorem ar_measure : Ar m_measure 2 := ar_fn
theorem sc_Ruleu_callu : FnScope N_Ruleu_callu ["self", "car"] (defScope s_Ruleu_callu) := ⟨rfl, rfl, rfl, by decide +kernel, rfl, by decide +kernel, by decide +kernel⟩
theorem ok_Ruleu_callu (T : Tt P w K mg cl base) : FnOk P w K mg base (L2.CX P w) 2 T.f_Ruleu_callu T.fd_Ruleu_callu ["self", "car"] (spM ⟨K, cl⟩ 2 m_Ruleu_callu) := by
  refine fun_ok (md := .tr) (mb := b_Ruleu_callu) T.F_Ruleu_callu sc_Ruleu_callu rfl rfl (fun cdv A outer st H E hr => ?_)
  have nd := sc_Ruleu_callu.nd
  have tk : Takes (cxOf (L2.CX P w) P w K mg base N_Ruleu_callu "Rule.__call__" (defScope s_Ruleu_callu) T.f_Ruleu_callu cdv A outer st H E) (fun c d _ H' => E c d H') := takes_of rfl rfl rfl rfl
  exact (is_cons (is_asg 2 nd (ie_lstM ia_nil))
    (is_cons (is_for (passes_of rfl) rfl (ii_seq (ie_attr [2] (ie_var 0) (al_cons ⟨T.C_2.cl, T.na_2_terms⟩ al_nil))) (pg_tup rfl (pgs_cons (pg_name (i := 3) nd rfl (by first | exact Or.inl rfl | exact Or.inr rfl)) (pgs_cons (pg_name (i := 4) nd rfl (by first | exact Or.inl rfl | exact Or.inr rfl)) pgs_nil))) (go_tp rfl (gos_cons go_nm (gos_cons go_nm gos_nil))) (is_cons (is_asg 5 nd (ie_call (ok_measure T) ar_measure tk (hr.mono (by decide)) rfl T.g_measure T.F_measure.kp T.b_measure (ia_cons (ie_var 1) (ia_cons (ie_var 4) ia_nil))))
    (is_one (is_expr (ie_lm lm_append PySem.F.slot_list_append PySem.F.type_list_append mt_append (ie_var 2) (ia_cons (ie_if (it_cmp (op_eqAll hr.units) s_eq (ie_var 3) ie_str (nomark _)) (ie_var 5) (ie_un un_neg s_neg (ie_var 5))) ia_nil))))))
    (is_one (is_ret (ie_callTy call_tuple_of s_tuple rfl T.z_tuple (by decide +kernel) (ia_cons (ie_var 2) ia_nil))))))
theorem ar_Ruleu_callu : Ar m_Ruleu_callu 2 := ar_fn
theorem sc_Rule_order : FnScope N_Rule_order ["self", "cars"] (defScope s_Rule_order) := ⟨rfl, rfl, rfl, by decide +kernel, rfl, by decide +kernel, by decide +kernel⟩
theorem ok_Rule_order (T : Tt P w K mg cl base) : FnOk P w K mg base (L2.CX P w) 8 T.f_Rule_order T.fd_Rule_order ["self", "cars"] (spM ⟨K, cl⟩ 2 m_Rule_order) := by
  refine fun_okC (md := .tr) (mb := b_Rule_order) T.FC_Rule_order sc_Rule_order rfl rfl (fun A outer st H E hr => ?_)
  have nd := sc_Rule_order.nd
  have tk : Takes (cxOf (L2.CX P w) P w K mg base N_Rule_order "Rule.order" (defScope s_Rule_order) T.f_Rule_order (.ref T.co_0) A outer st H E) (fun c d _ H' => E c d H') := takes_of rfl rfl rfl rfl
  exact (is_one (is_ret (ie_sortK (k := 3) (j := 0) (x := "index") T.TB_0 rfl (by decide) T.tn_0 T.td rfl (lam1_by rfl) (show ("index" : Str) ∉ N_Rule_order by decide +kernel) hr rfl T.z_sorted (ia_cons (ie_lrg1 false rfl rfl T.z_list rfl T.z_range (ie_callB c_len s_len rfl T.z_len (by decide +kernel) (ia_cons (ie_var 1) ia_nil))) ia_nil) (fun s H f c' hr => (ie_tup (ia_cons (ie_callO (c := 2) (i := 0) T.mt_Ruleu_callu.at_ T.mt_Ruleu_callu.fn T.fi_Ruleu_callu (ok_Ruleu_callu T) ar_Ruleu_callu takes0 (hr.mono (by decide)) T.b_Ruleu_callu (ia_cons (ie_ix ix_seq s_ix (ie_var 1) (ie_var 2) (fun _ _ => rfl)) ia_nil)) (ia_cons (ie_var 2) ia_nil)))))))
theorem ar_Rule_order : Ar m_Rule_order 2 := ar_fn
theorem sc_Rule_serve : FnScope N_Rule_serve ["self", "cars", "width"] (defScope s_Rule_serve) := ⟨rfl, rfl, rfl, by decide +kernel, rfl, by decide +kernel, by decide +kernel⟩
theorem ok_Rule_serve (T : Tt P w K mg cl base) : FnOk P w K mg base (L2.CX P w) 9 T.f_Rule_serve T.fd_Rule_serve ["self", "cars", "width"] (spM ⟨K, cl⟩ 3 m_Rule_serve) := by
  refine fun_ok (md := .tr) (mb := b_Rule_serve) T.F_Rule_serve sc_Rule_serve rfl rfl (fun cdv A outer st H E hr => ?_)
  have nd := sc_Rule_serve.nd
  have tk : Takes (cxOf (L2.CX P w) P w K mg base N_Rule_serve "Rule.serve" (defScope s_Rule_serve) T.f_Rule_serve cdv A outer st H E) (fun c d _ H' => E c d H') := takes_of rfl rfl rfl rfl
  exact (is_one (is_ret (ie_callB cr_sortedA s_sortA rfl T.z_sorted (by decide +kernel) (ia_cons (ie_sl (ie_meth (c := 2) (ie_var 0) T.C_2.cl T.mt_Rule_order (ok_Rule_order T) ar_Rule_order tk (hr.mono (by decide)) T.b_Rule_order (ia_cons (ie_var 1) ia_nil)) io_none (io_some (ie_var 2))) ia_nil))))
theorem ar_Rule_serve : Ar m_Rule_serve 3 := ar_fn
theorem sc_law_ahead : FnScope N_law_ahead ["_law_one", "_law_two"] (defScope s_law_ahead) := ⟨rfl, rfl, rfl, by decide +kernel, rfl, by decide +kernel, by decide +kernel⟩
theorem ok_law_ahead (T : Tt P w K mg cl base) : FnOk P w K mg base (L2.CX P w) 1 T.f_law_ahead T.fd_law_ahead ["_law_one", "_law_two"] (spM ⟨K, cl⟩ 2 m_law_ahead) := by
  refine fun_ok (md := .tr) (mb := b_law_ahead) T.F_law_ahead sc_law_ahead rfl rfl (fun cdv A outer st H E hr => ?_)
  have nd := sc_law_ahead.nd
  have tk : Takes (cxOf (L2.CX P w) P w K mg base N_law_ahead "_law_ahead" (defScope s_law_ahead) T.f_law_ahead cdv A outer st H E) (fun c d _ H' => E c d H') := takes_of rfl rfl rfl rfl
  exact (is_cons (is_for (passes_of rfl) rfl (ii_range1 rfl T.z_range (ia_cons (ie_callB c_len s_len rfl T.z_len (by decide +kernel) (ia_cons (ie_var 0) ia_nil)) ia_nil)) (pg_name (i := 2) nd rfl (by first | exact Or.inl rfl | exact Or.inr rfl)) go_nm (is_one (is_if (it_cmp (op_neAll hr.units) s_ne (ie_ix ix_seq s_ix (ie_var 0) (ie_var 2) (fun _ _ => rfl)) (ie_ix ix_seq s_ix (ie_var 1) (ie_var 2) (fun _ _ => rfl)) (nomark _)) (is_one (is_ret (ie_cmp op_lt s_lt (ie_ix ix_seq s_ix (ie_var 0) (ie_var 2) (fun _ _ => rfl)) (ie_ix ix_seq s_ix (ie_var 1) (ie_var 2) (fun _ _ => rfl)) (nomark _)))) is_nil)))
    (is_one (is_ret ie_bl)))
theorem ar_law_ahead : Ar m_law_ahead 2 := ar_fn
theorem sc_law_measure : FnScope N_law_measure ["_law_car_here", "_law_word"] (defScope s_law_measure) := ⟨rfl, rfl, rfl, by decide +kernel, rfl, by decide +kernel, by decide +kernel⟩
theorem ok_law_measure (T : Tt P w K mg cl base) : FnOk P w K mg base (L2.CX P w) 1 T.f_law_measure T.fd_law_measure ["_law_car_here", "_law_word"] (spM ⟨K, cl⟩ 2 m_law_measure) := by
  refine fun_ok (md := .tr) (mb := b_law_measure) T.F_law_measure sc_law_measure rfl rfl (fun cdv A outer st H E hr => ?_)
  have nd := sc_law_measure.nd
  have tk : Takes (cxOf (L2.CX P w) P w K mg base N_law_measure "_law_measure" (defScope s_law_measure) T.f_law_measure cdv A outer st H E) (fun c d _ H' => E c d H') := takes_of rfl rfl rfl rfl
  exact (is_cons (is_if (it_cmp (op_eqAll hr.units) s_eq (ie_var 1) ie_str (nomark _)) (is_one (is_ret (ie_ix ix_seq s_ix (ie_var 0) ie_int (fun _ _ => rfl)))) is_nil)
    (is_cons (is_if (it_cmp (op_eqAll hr.units) s_eq (ie_var 1) ie_str (nomark _)) (is_one (is_ret (ie_ix ix_seq s_ix (ie_var 0) ie_int (fun _ _ => rfl)))) is_nil)
    (is_cons (is_if (it_cmp (op_eqAll hr.units) s_eq (ie_var 1) ie_str (nomark _)) (is_one (is_ret (ie_ix ix_seq s_ix (ie_var 0) ie_int (fun _ _ => rfl)))) is_nil)
    (is_cons (is_if (it_cmp (op_eqAll hr.units) s_eq (ie_var 1) ie_str (nomark _)) (is_one (is_ret (ie_ix ix_seq s_ix (ie_var 0) ie_int (fun _ _ => rfl)))) is_nil)
    (is_cons (is_if (it_cmp (op_eqAll hr.units) s_eq (ie_var 1) ie_str (nomark _)) (is_one (is_ret (ie_op op_sub s_sub (ie_ix ix_seq s_ix (ie_var 0) ie_int (fun _ _ => rfl)) (ie_ix ix_seq s_ix (ie_var 0) ie_int (fun _ _ => rfl))))) is_nil)
    (is_cons (is_if (it_cmp (op_eqAll hr.units) s_eq (ie_var 1) ie_str (nomark _)) (is_one (is_ret (ie_op op_sub s_sub (ie_ix ix_seq s_ix (ie_var 0) ie_int (fun _ _ => rfl)) (ie_ix ix_seq s_ix (ie_var 0) ie_int (fun _ _ => rfl))))) is_nil)
    (is_one (is_ret (ie_op op_sub s_sub (ie_ix ix_seq s_ix (ie_var 0) ie_int (fun _ _ => rfl)) (ie_ix ix_seq s_ix (ie_var 0) ie_int (fun _ _ => rfl)))))))))))
theorem ar_law_measure : Ar m_law_measure 2 := ar_fn
theorem sc_law_key : FnScope N_law_key ["_law_terms_here", "_law_car_here"] (defScope s_law_key) := ⟨rfl, rfl, rfl, by decide +kernel, rfl, by decide +kernel, by decide +kernel⟩
theorem ok_law_key (T : Tt P w K mg cl base) : FnOk P w K mg base (L2.CX P w) 2 T.f_law_key T.fd_law_key ["_law_terms_here", "_law_car_here"] (spM ⟨K, cl⟩ 2 m_law_key) := by
  refine fun_ok (md := .tr) (mb := b_law_key) T.F_law_key sc_law_key rfl rfl (fun cdv A outer st H E hr => ?_)
  have nd := sc_law_key.nd
  have tk : Takes (cxOf (L2.CX P w) P w K mg base N_law_key "_law_key" (defScope s_law_key) T.f_law_key cdv A outer st H E) (fun c d _ H' => E c d H') := takes_of rfl rfl rfl rfl
  exact (is_cons (is_asg 2 nd (ie_lstM ia_nil))
    (is_cons (is_for (passes_of rfl) rfl (ii_seq (ie_var 0)) (pg_name (i := 3) nd rfl (by first | exact Or.inl rfl | exact Or.inr rfl)) go_nm (is_cons (is_asg 4 nd (ie_call (ok_law_measure T) ar_law_measure tk (hr.mono (by decide)) rfl T.g_law_measure T.F_law_measure.kp T.b_law_measure (ia_cons (ie_var 1) (ia_cons (ie_ix ix_seq s_ix (ie_var 3) ie_int (fun _ _ => rfl)) ia_nil))))
    (is_cons (is_if (it_cmp (op_eqAll hr.units) s_eq (ie_ix ix_seq s_ix (ie_var 3) ie_int (fun _ _ => rfl)) ie_str (nomark _)) (is_one (is_asg 4 nd (ie_op op_sub s_sub ie_int (ie_var 4)))) is_nil)
    (is_one (is_expr (ie_lm lm_append PySem.F.slot_list_append PySem.F.type_list_append mt_append (ie_var 2) (ia_cons (ie_var 4) ia_nil)))))))
    (is_one (is_ret (ie_var 2)))))
theorem ar_law_key : Ar m_law_key 2 := ar_fn
theorem sc_law_order : FnScope N_law_order ["_law_terms_here", "_law_cars"] (defScope s_law_order) := ⟨rfl, rfl, rfl, by decide +kernel, rfl, by decide +kernel, by decide +kernel⟩
theorem ok_law_order (T : Tt P w K mg cl base) : FnOk P w K mg base (L2.CX P w) 3 T.f_law_order T.fd_law_order ["_law_terms_here", "_law_cars"] (spM ⟨K, cl⟩ 2 m_law_order) := by
  refine fun_ok (md := .tr) (mb := b_law_order) T.F_law_order sc_law_order rfl rfl (fun cdv A outer st H E hr => ?_)
  have nd := sc_law_order.nd
  have tk : Takes (cxOf (L2.CX P w) P w K mg base N_law_order "_law_order" (defScope s_law_order) T.f_law_order cdv A outer st H E) (fun c d _ H' => E c d H') := takes_of rfl rfl rfl rfl
  exact (is_cons (is_setLc (i := 2) (own := [("_law_car_here", 6)]) rfl nd rfl rfl (sw_true rfl rfl rfl (by decide +kernel)) (ii_seq (ie_var 1)) (blkOk_by (own := [("_law_car_here", 6)]) (N := N_law_order) (sc := defScope s_law_order) (by decide +kernel)) (fun _ _ _ _ _ => (pg_name (i := 6) nd rfl (by first | exact Or.inl rfl | exact Or.inr rfl))) go_nm (fun _ _ _ _ _ => its_nil) (fun _ _ _ _ _ => (ie_call (ok_law_key T) ar_law_key takes0 (hr.mono (by decide)) rfl T.g_law_key T.F_law_key.kp T.b_law_key (ia_cons (ie_var 0) (ia_cons (ie_var 6) ia_nil)))) (by decide))
    (is_cons (is_asg 3 nd (ie_lstM ia_nil))
    (is_cons (is_for (passes_of rfl) rfl (ii_range1 rfl T.z_range (ia_cons (ie_callB c_len s_len rfl T.z_len (by decide +kernel) (ia_cons (ie_var 1) ia_nil)) ia_nil)) (pg_name (i := 4) nd rfl (by first | exact Or.inl rfl | exact Or.inr rfl)) go_nm (is_cons (is_asg 5 nd ie_int)
    (is_cons (is_while (passes_of rfl) (PW.pt (iw_and (it_cmp op_lt s_lt (ie_var 5) (ie_callB c_len s_len rfl T.z_len (by decide +kernel) (ia_cons (ie_var 3) ia_nil)) (nomark _)) (iw_and1 (it_not (it_val (ie_call (ok_law_ahead T) ar_law_ahead tk (hr.mono (by decide)) rfl T.g_law_ahead T.F_law_ahead.kp T.b_law_ahead (ia_cons (ie_ix ix_seq s_ix (ie_var 2) (ie_var 4) (fun _ _ => rfl)) (ia_cons (ie_ix ix_seq s_ix (ie_var 2) (ie_ix ix_seq s_ix (ie_var 3) (ie_var 5) (fun _ _ => rfl)) (fun _ _ => rfl)) ia_nil)))))))) (is_one (is_asg 5 nd (ie_op op_addAll s_add (ie_var 5) ie_int))))
    (is_one (is_expr (ie_lm lm_insert PySem.F.slot_list_insert PySem.F.type_list_insert mt_insert (ie_var 3) (ia_cons (ie_var 5) (ia_cons (ie_var 4) ia_nil))))))))
    (is_one (is_ret (ie_var 3))))))
theorem ar_law_order : Ar m_law_order 2 := ar_fn
theorem sc_law_same : FnScope N_law_same ["_law_told", "_law_due"] (defScope s_law_same) := ⟨rfl, rfl, rfl, by decide +kernel, rfl, by decide +kernel, by decide +kernel⟩
theorem arS_law_same : ∀ n, Ar (r_law_same n) 2
  | 0 => fun _ _ _ => rfl
  | _ + 1 => ar_fn
theorem okS_law_same (T : Tt P w K mg cl base) : ∀ n, FnOk P w K mg base (L2.CX P w) (n + 1) T.f_law_same T.fd_law_same ["_law_told", "_law_due"] (spM ⟨K, cl⟩ 2 (r_law_same n))
  | 0 => ⟨fun _ _ _ _ ⟨_, _, _, _, _, _, _, p⟩ => p.elim, fun _ _ _ _ _ _ _ _ _ _ _ _ _ ⟨_, _, _, _, _, _, _, p⟩ => p.elim⟩
  | j + 1 => by
    have ih := okS_law_same T j
    have arS := arS_law_same j
    have e : j + 1 + 1 = (j + 1) + 1 := by omega
    rw [e]
    refine fun_ok (md := .tr) (mb := b_law_same (r_law_same j)) T.F_law_same sc_law_same rfl rfl (fun cdv A outer st H E hr => ?_)
    have nd := sc_law_same.nd
    have tk : Takes (cxOf (L2.CX P w) P w K mg base N_law_same "_law_same" (defScope s_law_same) T.f_law_same cdv A outer st H E) (fun c d _ H' => E c d H') := takes_of rfl rfl rfl rfl
    exact (is_cons (is_if (it_cmp op_isAll s_is (ie_var 1) ie_non (nomark _)) (is_one (is_ret (ie_cmp op_isAll s_is (ie_var 0) ie_non (nomark _)))) is_nil)
    (is_cons (is_if (it_cmp op_isAll s_is (ie_var 1) ie_bl (nomark _)) (is_one (is_ret (ie_cmp op_isAll s_is (ie_var 0) ie_bl (nomark _)))) is_nil)
    (is_cons (is_if (it_cmp op_isAll s_is (ie_var 1) ie_bl (nomark _)) (is_one (is_ret (ie_cmp op_isAll s_is (ie_var 0) ie_bl (nomark _)))) is_nil)
    (is_cons (is_if (it_val (ie_isTy (ie_var 1) rfl T.z_isinstance rfl T.z_int (by decide +kernel))) (is_one (is_ret (ie_and (ie_isTy (ie_var 0) rfl T.z_isinstance rfl T.z_int (by decide +kernel)) (ie_and (ie_not (ie_isTy (ie_var 0) rfl T.z_isinstance rfl T.z_bool (by decide +kernel))) (ie_one (ie_cmp (op_eqAll hr.units) s_eq (ie_var 0) (ie_var 1) (nomark _))))))) is_nil)
    (is_cons (is_if (it_val (ie_isTy (ie_var 1) rfl T.z_isinstance rfl T.z_str (by decide +kernel))) (is_one (is_ret (ie_and (ie_isTy (ie_var 0) rfl T.z_isinstance rfl T.z_str (by decide +kernel)) (ie_one (ie_cmp (op_eqAll hr.units) s_eq (ie_var 0) (ie_var 1) (nomark _)))))) is_nil)
    (is_cons (is_if (PW.pt (iw_and (it_val (ie_isTy (ie_var 1) rfl T.z_isinstance rfl T.z_tuple (by decide +kernel))) (iw_and1 (it_not (it_val (ie_isTy (ie_var 0) rfl T.z_isinstance rfl T.z_tuple (by decide +kernel))))))) (is_one (is_ret ie_bl)) is_nil)
    (is_cons (is_if (PW.pt (iw_and (it_val (ie_isTy (ie_var 1) rfl T.z_isinstance rfl T.z_list (by decide +kernel))) (iw_and1 (it_not (it_val (ie_isTy (ie_var 0) rfl T.z_isinstance rfl T.z_list (by decide +kernel))))))) (is_one (is_ret ie_bl)) is_nil)
    (is_cons (is_if (it_cmp (op_neAll hr.units) s_ne (ie_callB c_len s_len rfl T.z_len (by decide +kernel) (ia_cons (ie_var 0) ia_nil)) (ie_callB c_len s_len rfl T.z_len (by decide +kernel) (ia_cons (ie_var 1) ia_nil)) (nomark _)) (is_one (is_ret ie_bl)) is_nil)
    (is_cons (is_for (passes_of rfl) rfl (ii_range1 rfl T.z_range (ia_cons (ie_callB c_len s_len rfl T.z_len (by decide +kernel) (ia_cons (ie_var 1) ia_nil)) ia_nil)) (pg_name (i := 2) nd rfl (by first | exact Or.inl rfl | exact Or.inr rfl)) go_nm (is_one (is_if (it_not (it_val (ie_call ih arS tk hr rfl T.g_law_same T.F_law_same.kp T.b_law_same (ia_cons (ie_ix ix_seq s_ix (ie_var 0) (ie_var 2) (fun _ _ => rfl)) (ia_cons (ie_ix ix_seq s_ix (ie_var 1) (ie_var 2) (fun _ _ => rfl)) ia_nil))))) (is_one (is_ret ie_bl)) is_nil)))
    (is_one (is_ret ie_bl)))))))))))
theorem ok_law_same (T : Tt P w K mg cl base) : FnOk P w K mg base (L2.CX P w) 13 T.f_law_same T.fd_law_same ["_law_told", "_law_due"] (spM ⟨K, cl⟩ 2 m_law_same) := okS_law_same T 12
theorem ar_law_same : Ar m_law_same 2 := arS_law_same 12
theorem sc_law_named : FnScope N_law_named ["_law_name", "_law_terms_here", "_law_cars", "_law_width"] (defScope s_law_named) := ⟨rfl, rfl, rfl, by decide +kernel, rfl, by decide +kernel, by decide +kernel⟩
theorem ok_law_named (T : Tt P w K mg cl base) : FnOk P w K mg base (L2.CX P w) 14 T.f_law_named T.fd_law_named ["_law_name", "_law_terms_here", "_law_cars", "_law_width"] (spM ⟨K, cl⟩ 4 m_law_named) := by
  refine fun_ok (md := .tr) (mb := b_law_named) T.F_law_named sc_law_named rfl rfl (fun cdv A outer st H E hr => ?_)
  have nd := sc_law_named.nd
  have tk : Takes (cxOf (L2.CX P w) P w K mg base N_law_named "_law_named" (defScope s_law_named) T.f_law_named cdv A outer st H E) (fun c d _ H' => E c d H') := takes_of rfl rfl rfl rfl
  exact (is_cons (is_asg 4 nd (ie_cmeth (c := 2) rfl T.gc_2 T.cr_2 T.ct_Rule_named (ok_Rule_named T) ar_Rule_named tk (hr.mono (by decide)) T.b_Rule_named (ia_cons (ie_var 0) ia_nil)))
    (is_cons (is_if (PW.pt (iw_or (it_not (it_val (ie_isCl (c := 2) [(2, true)] ["NoneType", "int"] (ie_var 4) rfl T.z_isinstance rfl T.gc_2 (lk_cons ⟨T.C_2, T.ki_2_2⟩ lk_nil) (at_cons T.kt_NoneType_2 (at_cons T.kt_int_2 at_nil))))) (iw_or1 (it_not (it_val (ie_call (ok_law_same T) ar_law_same tk (hr.mono (by decide)) rfl T.g_law_same T.F_law_same.kp T.b_law_same (ia_cons (ie_lst (ia_cons (ie_attr [2] (ie_var 4) (al_cons ⟨T.C_2.cl, T.na_2_terms⟩ al_nil)) (ia_cons (ie_callTyM (cam_or (oneIs 2) (cam_list (c := 2) (n := 9) (fl := "terms") rfl T.mt_Ruleu_iteru.at_ T.mt_Ruleu_iteru.fn T.mt_Ruleu_lenu.at_ T.mt_Ruleu_lenu.fn ((ok_Ruleu_iteru T).mono (by decide)) T.b_Ruleu_iteru ((ok_Ruleu_lenu T).mono (by decide)) T.b_Ruleu_lenu (hr.mono (by decide))) (cam_std call_list_of s_list)) rfl T.z_list (by decide +kernel) (ia_cons (ie_var 4) ia_nil)) ia_nil))) (ia_cons (ie_lst (ia_cons (ie_callTy call_tuple_of s_tuple rfl T.z_tuple (by decide +kernel) (ia_cons (ie_var 1) ia_nil)) (ia_cons (ie_var 1) ia_nil))) ia_nil)))))))) (is_one (is_ret ie_bl)) is_nil)
    (is_cons (is_asg 5 nd (ie_call (ok_law_order T) ar_law_order tk (hr.mono (by decide)) rfl T.g_law_order T.F_law_order.kp T.b_law_order (ia_cons (ie_var 1) (ia_cons (ie_var 2) ia_nil))))
    (is_cons (is_if (it_not (it_val (ie_call (ok_law_same T) ar_law_same tk (hr.mono (by decide)) rfl T.g_law_same T.F_law_same.kp T.b_law_same (ia_cons (ie_meth (c := 2) (ie_var 4) T.C_2.cl T.mt_Rule_order (ok_Rule_order T) ar_Rule_order tk (hr.mono (by decide)) T.b_Rule_order (ia_cons (ie_callTyM (cam_or (oneIs 2) (cam_list (c := 2) (n := 9) (fl := "terms") rfl T.mt_Ruleu_iteru.at_ T.mt_Ruleu_iteru.fn T.mt_Ruleu_lenu.at_ T.mt_Ruleu_lenu.fn ((ok_Ruleu_iteru T).mono (by decide)) T.b_Ruleu_iteru ((ok_Ruleu_lenu T).mono (by decide)) T.b_Ruleu_lenu (hr.mono (by decide))) (cam_std call_list_of s_list)) rfl T.z_list (by decide +kernel) (ia_cons (ie_var 2) ia_nil)) ia_nil)) (ia_cons (ie_var 5) ia_nil))))) (is_one (is_ret ie_bl)) is_nil)
    (is_cons (is_for (passes_of rfl) rfl (ii_seq (ie_lst (ia_cons (ie_var 3) (ia_cons ie_int ia_nil)))) (pg_name (i := 6) nd rfl (by first | exact Or.inl rfl | exact Or.inr rfl)) go_nm (is_cons (is_asg 7 nd (ie_sl (ie_var 5) io_none (io_some (ie_var 6))))
    (is_one (is_if (it_not (it_val (ie_call (ok_law_same T) ar_law_same tk (hr.mono (by decide)) rfl T.g_law_same T.F_law_same.kp T.b_law_same (ia_cons (ie_meth (c := 2) (ie_var 4) T.C_2.cl T.mt_Rule_serve (ok_Rule_serve T) ar_Rule_serve tk (hr.mono (by decide)) T.b_Rule_serve (ia_cons (ie_callTyM (cam_or (oneIs 2) (cam_list (c := 2) (n := 9) (fl := "terms") rfl T.mt_Ruleu_iteru.at_ T.mt_Ruleu_iteru.fn T.mt_Ruleu_lenu.at_ T.mt_Ruleu_lenu.fn ((ok_Ruleu_iteru T).mono (by decide)) T.b_Ruleu_iteru ((ok_Ruleu_lenu T).mono (by decide)) T.b_Ruleu_lenu (hr.mono (by decide))) (cam_std call_list_of s_list)) rfl T.z_list (by decide +kernel) (ia_cons (ie_var 2) ia_nil)) (ia_cons (ie_var 6) ia_nil))) (ia_cons (ie_lc (own := [("_law_k", 8)]) rfl nd (ii_range1 rfl T.z_range (ia_cons (ie_callB c_len s_len rfl T.z_len (by decide +kernel) (ia_cons (ie_var 2) ia_nil)) ia_nil)) (blkOk_by (own := [("_law_k", 8)]) (N := N_law_named) (sc := defScope s_law_named) (by decide +kernel)) (fun _ _ _ _ _ => (pg_name (i := 8) nd rfl (by first | exact Or.inl rfl | exact Or.inr rfl))) go_nm (fun _ _ _ _ _ => (its_one (it_cmp op_in_seq s_in (ie_var 8) (ie_var 7) (by rfl)))) (fun _ _ _ _ _ => (ie_var 8)) (by decide)) ia_nil))))) (is_one (is_ret ie_bl)) is_nil))))
    (is_one (is_ret ie_bl)))))))
theorem ar_law_named : Ar m_law_named 4 := ar_fn
theorem sc_law_names_of_rules : FnScope N_law_names_of_rules [] (defScope s_law_names_of_rules) := ⟨rfl, rfl, rfl, by decide +kernel, rfl, by decide +kernel, by decide +kernel⟩
theorem ok_law_names_of_rules (T : Tt P w K mg cl base) : FnOk P w K mg base (L2.CX P w) 1 T.f_law_names_of_rules T.fd_law_names_of_rules [] (spM ⟨K, cl⟩ 0 m_law_names_of_rules) := by
  refine fun_ok (md := .tr) (mb := b_law_names_of_rules) T.F_law_names_of_rules sc_law_names_of_rules rfl rfl (fun cdv A outer st H E hr => ?_)
  have nd := sc_law_names_of_rules.nd
  have tk : Takes (cxOf (L2.CX P w) P w K mg base N_law_names_of_rules "_law_names_of_rules" (defScope s_law_names_of_rules) T.f_law_names_of_rules cdv A outer st H E) (fun c d _ H' => E c d H') := takes_of rfl rfl rfl rfl
  exact (is_one (is_ret (ie_lst (ia_cons ie_str (ia_cons ie_str (ia_cons ie_str (ia_cons ie_str ia_nil)))))))
theorem ar_law_names_of_rules : Ar m_law_names_of_rules 0 := ar_fn
theorem sc_law_pool : FnScope N_law_pool ["_law_cell_here"] (defScope s_law_pool) := ⟨rfl, rfl, rfl, by decide +kernel, rfl, by decide +kernel, by decide +kernel⟩
theorem ok_law_pool (T : Tt P w K mg cl base) : FnOk P w K mg base (L2.CX P w) 1 T.f_law_pool T.fd_law_pool ["_law_cell_here"] (spM ⟨K, cl⟩ 1 m_law_pool) := by
  refine fun_ok (md := .kp) (mb := b_law_pool) T.F_law_pool sc_law_pool rfl rfl (fun cdv A outer st H E hr => ?_)
  have nd := sc_law_pool.nd
  have tk : Takes (cxOf (L2.CX P w) P w K mg base N_law_pool "_law_pool" (defScope s_law_pool) T.f_law_pool cdv A outer st H E) (fun c d _ H' => E c d H') := takes_of rfl rfl rfl rfl
  exact (is_cons (is_if (it_cmp op_ge s_ge (ie_var 0) (ie_op op_pow s_pow ie_int ie_int) (nomark _)) (is_one (is_ret (ie_lstM (ia_cons (ie_var 0) (ia_cons (ie_var 0) (ia_cons ie_int ia_nil)))))) is_nil)
    (is_one (is_ret (ie_lstM (ia_cons ie_int (ia_cons (ie_var 0) (ia_cons ie_int ia_nil)))))))
theorem ar_law_pool : Ar m_law_pool 1 := ar_fn
theorem sc_law_refused : FnScope N_law_refused ["_law_text_here"] (defScope s_law_refused) := ⟨rfl, rfl, rfl, by decide +kernel, rfl, by decide +kernel, by decide +kernel⟩
theorem ok_law_refused (T : Tt P w K mg cl base) : FnOk P w K mg base (L2.CX P w) 14 T.f_law_refused T.fd_law_refused ["_law_text_here"] (spM ⟨K, cl⟩ 1 m_law_refused) := by
  refine fun_ok (md := .tr) (mb := b_law_refused) T.F_law_refused sc_law_refused rfl rfl (fun cdv A outer st H E hr => ?_)
  have nd := sc_law_refused.nd
  have tk : Takes (cxOf (L2.CX P w) P w K mg base N_law_refused "_law_refused" (defScope s_law_refused) T.f_law_refused cdv A outer st H E) (fun c d _ H' => E c d H') := takes_of rfl rfl rfl rfl
  exact (is_cons (is_asg 1 nd ie_non)
    (is_cons (is_asg 2 nd ie_non)
    (is_cons (is_tryAs (k := 22) (i := 3) [(22, true)] rfl rfl nd rfl rfl ⟨rfl, by decide, .inl T.gx_22⟩ tk (lk_cons T.xm_22_22 lk_nil) (fun W pn xe tk po => (is_one (is_asg 1 nd (ie_cmeth (c := 2) rfl T.gc_2 T.cr_2 T.ct_Rule_named (ok_Rule_named T) ar_Rule_named tk (hr.mono (by decide)) T.b_Rule_named (ia_cons (ie_var 0) ia_nil))))) (fun a oe cls d pn hz hf => (xs_one (x_asg 2 (by decide) nd (x_lst (x_cons (x_fld (lk_cons (fun _ => ⟨T.xc_22.xf, T.nf_22_place⟩) lk_nil) hz hf rfl (by first | exact Or.inl rfl | exact Or.inr (Or.inl rfl) | exact Or.inr (Or.inr rfl))) (x_cons (x_and (x_is (lk_cons ⟨T.xc_22, T.xo_22_CableError⟩ lk_nil) hz hf rfl (by first | exact Or.inl rfl | exact Or.inr (Or.inl rfl) | exact Or.inr (Or.inr rfl)) (pe_glob (v := .ref (cl 20)) rfl T.gx_20 rfl) (fun _ h => h) rfl T.z_isinstance) (x_one (x_is (lk_cons ⟨T.xc_22, T.xo_22_ValueError⟩ lk_nil) hz hf rfl (by first | exact Or.inl rfl | exact Or.inr (Or.inl rfl) | exact Or.inr (Or.inr rfl)) (pe_bltn (v := .ty "ValueError") rfl T.z_ValueError (by decide +kernel) rfl) (fun _ h => h) rfl T.z_isinstance))) x_nil)))))))
    (is_one (is_ret (ie_and (ie_cmp op_isAll s_is (ie_var 1) ie_non (nomark _)) (ie_one (ie_call (ok_law_same T) ar_law_same tk (hr.mono (by decide)) rfl T.g_law_same T.F_law_same.kp T.b_law_same (ia_cons (ie_var 2) (ia_cons (ie_lst (ia_cons ie_int (ia_cons ie_bl ia_nil))) ia_nil))))))))))
theorem ar_law_refused : Ar m_law_refused 1 := ar_fn
theorem sc_law_bent : FnScope N_law_bent ["_law_pool_here", "_law_text_here", "_law_signs_here"] (defScope s_law_bent) := ⟨rfl, rfl, rfl, by decide +kernel, rfl, by decide +kernel, by decide +kernel⟩
theorem ok_law_bent (T : Tt P w K mg cl base) : FnOk P w K mg base (L2.CX P w) 2 T.f_law_bent T.fd_law_bent ["_law_pool_here", "_law_text_here", "_law_signs_here"] (spM ⟨K, cl⟩ 3 m_law_bent) := by
  refine fun_ok (md := .tr) (mb := b_law_bent) T.F_law_bent sc_law_bent rfl rfl (fun cdv A outer st H E hr => ?_)
  have nd := sc_law_bent.nd
  have tk : Takes (cxOf (L2.CX P w) P w K mg base N_law_bent "_law_bent" (defScope s_law_bent) T.f_law_bent cdv A outer st H E) (fun c d _ H' => E c d H') := takes_of rfl rfl rfl rfl
  exact (is_cons (is_asg 3 nd (ie_call (ok_law_take T) ar_law_take tk (hr.mono (by decide)) rfl T.g_law_take T.F_law_take.kp T.b_law_take (ia_cons (ie_var 0) (ia_cons (ie_op op_addAll s_add (ie_callB c_len s_len rfl T.z_len (by decide +kernel) (ia_cons (ie_var 1) ia_nil)) ie_int) ia_nil))))
    (is_cons (is_asg 4 nd (ie_ix ix_seq s_ix (ie_var 2) (ie_call (ok_law_take T) ar_law_take tk (hr.mono (by decide)) rfl T.g_law_take T.F_law_take.kp T.b_law_take (ia_cons (ie_var 0) (ia_cons (ie_callB c_len s_len rfl T.z_len (by decide +kernel) (ia_cons (ie_var 2) ia_nil)) ia_nil))) (fun _ _ => rfl)))
    (is_cons (is_asg 5 nd (ie_call (ok_law_take T) ar_law_take tk (hr.mono (by decide)) rfl T.g_law_take T.F_law_take.kp T.b_law_take (ia_cons (ie_var 0) (ia_cons ie_int ia_nil))))
    (is_cons (is_if (it_cmp (op_eqAll hr.units) s_eq (ie_var 5) ie_int (nomark _)) (is_one (is_ret (ie_op op_addAll s_add (ie_op op_addAll s_add (ie_sl (ie_var 1) io_none (io_some (ie_var 3))) (ie_var 4)) (ie_sl (ie_var 1) (io_some (ie_var 3)) io_none)))) is_nil)
    (is_cons (is_if (it_cmp (op_eqAll hr.units) s_eq (ie_var 5) ie_int (nomark _)) (is_one (is_ret (ie_op op_addAll s_add (ie_op op_addAll s_add (ie_sl (ie_var 1) io_none (io_some (ie_var 3))) (ie_var 4)) (ie_sl (ie_var 1) (io_some (ie_op op_addAll s_add (ie_var 3) ie_int)) io_none)))) is_nil)
    (is_one (is_ret (ie_op op_addAll s_add (ie_sl (ie_var 1) io_none (io_some (ie_var 3))) (ie_sl (ie_var 1) (io_some (ie_op op_addAll s_add (ie_var 3) ie_int)) io_none)))))))))
theorem ar_law_bent : Ar m_law_bent 3 := ar_fn
theorem sc_law_signs : FnScope N_law_signs [] (defScope s_law_signs) := ⟨rfl, rfl, rfl, by decide +kernel, rfl, by decide +kernel, by decide +kernel⟩
theorem ok_law_signs (T : Tt P w K mg cl base) : FnOk P w K mg base (L2.CX P w) 1 T.f_law_signs T.fd_law_signs [] (spM ⟨K, cl⟩ 0 m_law_signs) := by
  refine fun_ok (md := .tr) (mb := b_law_signs) T.F_law_signs sc_law_signs rfl rfl (fun cdv A outer st H E hr => ?_)
  have nd := sc_law_signs.nd
  have tk : Takes (cxOf (L2.CX P w) P w K mg base N_law_signs "_law_signs" (defScope s_law_signs) T.f_law_signs cdv A outer st H E) (fun c d _ H' => E c d H') := takes_of rfl rfl rfl rfl
  exact (is_cons (is_asg 0 nd ie_str)
    (is_one (is_ret (ie_op op_addAll s_add (ie_var 0) ie_str))))
theorem ar_law_signs : Ar m_law_signs 0 := ar_fn
theorem sc_law_terms : FnScope N_law_terms ["_law_pool_here", "_law_most"] (defScope s_law_terms) := ⟨rfl, rfl, rfl, by decide +kernel, rfl, by decide +kernel, by decide +kernel⟩
theorem ok_law_terms (T : Tt P w K mg cl base) : FnOk P w K mg base (L2.CX P w) 2 T.f_law_terms T.fd_law_terms ["_law_pool_here", "_law_most"] (spM ⟨K, cl⟩ 2 m_law_terms) := by
  refine fun_ok (md := .tr) (mb := b_law_terms) T.F_law_terms sc_law_terms rfl rfl (fun cdv A outer st H E hr => ?_)
  have nd := sc_law_terms.nd
  have tk : Takes (cxOf (L2.CX P w) P w K mg base N_law_terms "_law_terms" (defScope s_law_terms) T.f_law_terms cdv A outer st H E) (fun c d _ H' => E c d H') := takes_of rfl rfl rfl rfl
  exact (is_cons (is_asg 2 nd (ie_lstM (ia_cons ie_str (ia_cons ie_str (ia_cons ie_str (ia_cons ie_str (ia_cons ie_str (ia_cons ie_str (ia_cons ie_str ia_nil)))))))))
    (is_cons (is_asg 3 nd (ie_lstM ia_nil))
    (is_cons (is_for (passes_of rfl) rfl (ii_range1 rfl T.z_range (ia_cons (ie_call (ok_law_take T) ar_law_take tk (hr.mono (by decide)) rfl T.g_law_take T.F_law_take.kp T.b_law_take (ia_cons (ie_var 0) (ia_cons (ie_op op_addAll s_add (ie_var 1) ie_int) ia_nil))) ia_nil)) (pg_name (i := 4) nd rfl (by first | exact Or.inl rfl | exact Or.inr rfl)) go_nm (is_cons (is_asg 5 nd (ie_lm lm_popAt PySem.F.slot_list_pop PySem.F.type_list_pop mt_popAt (ie_var 2) (ia_cons (ie_call (ok_law_take T) ar_law_take tk (hr.mono (by decide)) rfl T.g_law_take T.F_law_take.kp T.b_law_take (ia_cons (ie_var 0) (ia_cons (ie_callB c_len s_len rfl T.z_len (by decide +kernel) (ia_cons (ie_var 2) ia_nil)) ia_nil))) ia_nil)))
    (is_one (is_expr (ie_lm lm_append PySem.F.slot_list_append PySem.F.type_list_append mt_append (ie_var 3) (ia_cons (ie_tup (ia_cons (ie_ix ix_seq s_ix (ie_lst (ia_cons ie_str (ia_cons ie_str ia_nil))) (ie_call (ok_law_take T) ar_law_take tk (hr.mono (by decide)) rfl T.g_law_take T.F_law_take.kp T.b_law_take (ia_cons (ie_var 0) (ia_cons ie_int ia_nil))) (fun _ _ => rfl)) (ia_cons (ie_var 5) ia_nil))) ia_nil))))))
    (is_one (is_ret (ie_var 3))))))
theorem ar_law_terms : Ar m_law_terms 2 := ar_fn
theorem sc_law_terms_text : FnScope N_law_terms_text ["_law_terms_here"] (defScope s_law_terms_text) := ⟨rfl, rfl, rfl, by decide +kernel, rfl, by decide +kernel, by decide +kernel⟩
theorem ok_law_terms_text (T : Tt P w K mg cl base) : FnOk P w K mg base (L2.CX P w) 1 T.f_law_terms_text T.fd_law_terms_text ["_law_terms_here"] (spM ⟨K, cl⟩ 1 m_law_terms_text) := by
  refine fun_ok (md := .tr) (mb := b_law_terms_text) T.F_law_terms_text sc_law_terms_text rfl rfl (fun cdv A outer st H E hr => ?_)
  have nd := sc_law_terms_text.nd
  have tk : Takes (cxOf (L2.CX P w) P w K mg base N_law_terms_text "_law_terms_text" (defScope s_law_terms_text) T.f_law_terms_text cdv A outer st H E) (fun c d _ H' => E c d H') := takes_of rfl rfl rfl rfl
  exact (is_cons (is_if (it_cmp (op_eqAll hr.units) s_eq (ie_callB c_len s_len rfl T.z_len (by decide +kernel) (ia_cons (ie_var 0) ia_nil)) ie_int (nomark _)) (is_one (is_ret ie_str)) is_nil)
    (is_one (is_ret (ie_join ie_str (ie_lc (own := [("_law_term", 1)]) rfl nd (ii_seq (ie_var 0)) (blkOk_by (own := [("_law_term", 1)]) (N := N_law_terms_text) (sc := defScope s_law_terms_text) (by decide +kernel)) (fun _ _ _ _ _ => (pg_name (i := 1) nd rfl (by first | exact Or.inl rfl | exact Or.inr rfl))) go_nm (fun _ _ _ _ _ => its_nil) (fun _ _ _ _ _ => (ie_op op_addAll s_add (ie_op op_addAll s_add (ie_ix ix_seq s_ix (ie_var 1) ie_int (fun _ _ => rfl)) ie_str) (ie_ix ix_seq s_ix (ie_var 1) ie_int (fun _ _ => rfl)))) (by decide))))))
theorem ar_law_terms_text : Ar m_law_terms_text 1 := ar_fn
theorem sc_law_text : FnScope N_law_text ["_law_pool_here", "_law_way"] (defScope s_law_text) := ⟨rfl, rfl, rfl, by decide +kernel, rfl, by decide +kernel, by decide +kernel⟩
theorem ok_law_text (T : Tt P w K mg cl base) : FnOk P w K mg base (L2.CX P w) 3 T.f_law_text T.fd_law_text ["_law_pool_here", "_law_way"] (spM ⟨K, cl⟩ 2 m_law_text) := by
  refine fun_ok (md := .tr) (mb := b_law_text) T.F_law_text sc_law_text rfl rfl (fun cdv A outer st H E hr => ?_)
  have nd := sc_law_text.nd
  have tk : Takes (cxOf (L2.CX P w) P w K mg base N_law_text "_law_text" (defScope s_law_text) T.f_law_text cdv A outer st H E) (fun c d _ H' => E c d H') := takes_of rfl rfl rfl rfl
  exact (is_cons (is_if (it_cmp (op_eqAll hr.units) s_eq (ie_var 1) ie_int (nomark _)) (is_one (is_ret (ie_call (ok_law_bent T) ar_law_bent tk (hr.mono (by decide)) rfl T.g_law_bent T.F_law_bent.kp T.b_law_bent (ia_cons (ie_var 0) (ia_cons (ie_ix ix_seq s_ix (ie_call0 (ok_law_names_of_rules T) tk (hr.mono (by decide)) rfl T.g_law_names_of_rules T.F_law_names_of_rules.kp T.b_law_names_of_rules) (ie_call (ok_law_take T) ar_law_take tk (hr.mono (by decide)) rfl T.g_law_take T.F_law_take.kp T.b_law_take (ia_cons (ie_var 0) (ia_cons ie_int ia_nil))) (fun _ _ => rfl)) (ia_cons (ie_call0 (ok_law_signs T) tk (hr.mono (by decide)) rfl T.g_law_signs T.F_law_signs.kp T.b_law_signs) ia_nil)))))) is_nil)
    (is_cons (is_if (it_cmp (op_eqAll hr.units) s_eq (ie_var 1) ie_int (nomark _)) (is_cons (is_asg 2 nd (ie_call0 (ok_law_signs T) tk (hr.mono (by decide)) rfl T.g_law_signs T.F_law_signs.kp T.b_law_signs))
    (is_one (is_ret (ie_join ie_str (ie_lc (own := [("_law_k", 4)]) rfl nd (ii_range1 rfl T.z_range (ia_cons (ie_call (ok_law_take T) ar_law_take tk (hr.mono (by decide)) rfl T.g_law_take T.F_law_take.kp T.b_law_take (ia_cons (ie_var 0) (ia_cons ie_int ia_nil))) ia_nil)) (blkOk_by (own := [("_law_k", 4)]) (N := N_law_text) (sc := defScope s_law_text) (by decide +kernel)) (fun _ _ _ _ _ => (pg_name (i := 4) nd rfl (by first | exact Or.inl rfl | exact Or.inr rfl))) go_nm (fun _ _ _ _ _ => its_nil) (fun _ _ _ _ _ => (ie_ix ix_seq s_ix (ie_var 2) (ie_call (ok_law_take T) ar_law_take takes0 (hr.mono (by decide)) rfl T.g_law_take T.F_law_take.kp T.b_law_take (ia_cons (ie_var 0) (ia_cons ie_int ia_nil))) (fun _ _ => rfl))) (by decide)))))) is_nil)
    (is_cons (is_if (it_cmp (op_eqAll hr.units) s_eq (ie_var 1) ie_int (nomark _)) (is_cons (is_asg 3 nd (ie_lst (ia_cons ie_str (ia_cons ie_str (ia_cons ie_str (ia_cons ie_str (ia_cons ie_str (ia_cons ie_str (ia_cons ie_str (ia_cons ie_str (ia_cons ie_str ia_nil)))))))))))
    (is_one (is_ret (ie_ix ix_seq s_ix (ie_op op_addAll s_add (ie_var 3) (ie_lst (ia_cons ie_str ia_nil))) (ie_call (ok_law_take T) ar_law_take tk (hr.mono (by decide)) rfl T.g_law_take T.F_law_take.kp T.b_law_take (ia_cons (ie_var 0) (ia_cons ie_int ia_nil))) (fun _ _ => rfl))))) is_nil)
    (is_one (is_ret (ie_call (ok_law_terms_text T) ar_law_terms_text tk (hr.mono (by decide)) rfl T.g_law_terms_text T.F_law_terms_text.kp T.b_law_terms_text (ia_cons (ie_call (ok_law_terms T) ar_law_terms tk (hr.mono (by decide)) rfl T.g_law_terms T.F_law_terms.kp T.b_law_terms (ia_cons (ie_var 0) (ia_cons ie_int ia_nil))) ia_nil)))))))
theorem ar_law_text : Ar m_law_text 2 := ar_fn
theorem sc_law : FnScope N_law ["_law_script"] (defScope s_law) := ⟨rfl, rfl, rfl, by decide +kernel, rfl, by decide +kernel, by decide +kernel⟩
theorem ok_law (T : Tt P w K mg cl base) : FnOk P w K mg base (L2.CX P w) 15 T.f_law T.fd_law ["_law_script"] (spM ⟨K, cl⟩ 1 m_law) := by
  refine fun_ok (md := .tr) (mb := b_law) T.F_law sc_law rfl rfl (fun cdv A outer st H E hr => ?_)
  have nd := sc_law.nd
  have tk : Takes (cxOf (L2.CX P w) P w K mg base N_law "law" (defScope s_law) T.f_law cdv A outer st H E) (fun c d _ H' => E c d H') := takes_of rfl rfl rfl rfl
  exact (is_cons (is_asg 1 nd (ie_call (ok_law_text T) ar_law_text tk (hr.mono (by decide)) rfl T.g_law_text T.F_law_text.kp T.b_law_text (ia_cons (ie_call (ok_law_pool T) ar_law_pool tk (hr.mono (by decide)) rfl T.g_law_pool T.F_law_pool.kp T.b_law_pool (ia_cons (ie_call (ok_law_cell T) ar_law_cell tk (hr.mono (by decide)) rfl T.g_law_cell T.F_law_cell.kp T.b_law_cell (ia_cons (ie_var 0) (ia_cons ie_int ia_nil))) ia_nil)) (ia_cons (ie_op op_mod s_mod (ie_callTy call_int1 s_int rfl T.z_int (by decide +kernel) (ia_cons (ie_call (ok_law_cell T) ar_law_cell tk (hr.mono (by decide)) rfl T.g_law_cell T.F_law_cell.kp T.b_law_cell (ia_cons (ie_var 0) (ia_cons ie_int ia_nil))) ia_nil)) ie_int) ia_nil))))
    (is_cons (is_asg 2 nd (ie_call (ok_law_pool T) ar_law_pool tk (hr.mono (by decide)) rfl T.g_law_pool T.F_law_pool.kp T.b_law_pool (ia_cons (ie_call (ok_law_cell T) ar_law_cell tk (hr.mono (by decide)) rfl T.g_law_cell T.F_law_cell.kp T.b_law_cell (ia_cons (ie_var 0) (ia_cons ie_int ia_nil))) ia_nil)))
    (is_cons (is_setLc (i := 3) (own := [("_law_k", 5)]) rfl nd rfl rfl (sw_true rfl rfl rfl (by decide +kernel)) (ii_range1 rfl T.z_range (ia_cons (ie_call (ok_law_take T) ar_law_take tk (hr.mono (by decide)) rfl T.g_law_take T.F_law_take.kp T.b_law_take (ia_cons (ie_var 2) (ia_cons ie_int ia_nil))) ia_nil)) (blkOk_by (own := [("_law_k", 5)]) (N := N_law) (sc := defScope s_law) (by decide +kernel)) (fun _ _ _ _ _ => (pg_name (i := 5) nd rfl (by first | exact Or.inl rfl | exact Or.inr rfl))) go_nm (fun _ _ _ _ _ => its_nil) (fun _ _ _ _ _ => (ie_call (ok_law_car T) ar_law_car takes0 (hr.mono (by decide)) rfl T.g_law_car T.F_law_car.kp T.b_law_car (ia_cons (ie_var 2) (ia_cons ie_int ia_nil)))) (by decide))
    (is_cons (is_asg 4 nd (ie_call (ok_law_take T) ar_law_take tk (hr.mono (by decide)) rfl T.g_law_take T.F_law_take.kp T.b_law_take (ia_cons (ie_call (ok_law_pool T) ar_law_pool tk (hr.mono (by decide)) rfl T.g_law_pool T.F_law_pool.kp T.b_law_pool (ia_cons (ie_call (ok_law_cell T) ar_law_cell tk (hr.mono (by decide)) rfl T.g_law_cell T.F_law_cell.kp T.b_law_cell (ia_cons (ie_var 0) (ia_cons ie_int ia_nil))) ia_nil)) (ia_cons ie_int ia_nil))))
    (is_cons (is_if (it_not (it_val (ie_call (ok_law_named T) ar_law_named tk (hr.mono (by decide)) rfl T.g_law_named T.F_law_named.kp T.b_law_named (ia_cons ie_str (ia_cons (ie_lst (ia_cons (ie_tup (ia_cons ie_str (ia_cons ie_str ia_nil))) ia_nil)) (ia_cons (ie_var 3) (ia_cons (ie_var 4) ia_nil))))))) (is_one (is_ret ie_bl)) is_nil)
    (is_cons (is_if (it_not (it_val (ie_call (ok_law_named T) ar_law_named tk (hr.mono (by decide)) rfl T.g_law_named T.F_law_named.kp T.b_law_named (ia_cons ie_str (ia_cons (ie_lst ia_nil) (ia_cons (ie_var 3) (ia_cons (ie_var 4) ia_nil))))))) (is_one (is_ret ie_bl)) is_nil)
    (is_cons (is_if (it_not (it_val (ie_call (ok_law_named T) ar_law_named tk (hr.mono (by decide)) rfl T.g_law_named T.F_law_named.kp T.b_law_named (ia_cons ie_str (ia_cons (ie_lst (ia_cons (ie_tup (ia_cons ie_str (ia_cons ie_str ia_nil))) ia_nil)) (ia_cons (ie_var 3) (ia_cons (ie_var 4) ia_nil))))))) (is_one (is_ret ie_bl)) is_nil)
    (is_cons (is_if (PW.pt (iw_and (it_cmp op_notIn_seq s_in (ie_var 1) (ie_call0 (ok_law_names_of_rules T) tk (hr.mono (by decide)) rfl T.g_law_names_of_rules T.F_law_names_of_rules.kp T.b_law_names_of_rules) (by rfl)) (iw_and1 (it_not (it_val (ie_call (ok_law_refused T) ar_law_refused tk (hr.mono (by decide)) rfl T.g_law_refused T.F_law_refused.kp T.b_law_refused (ia_cons (ie_var 1) ia_nil))))))) (is_one (is_ret ie_bl)) is_nil)
    (is_one (is_ret (ie_call (ok_law_named T) ar_law_named tk (hr.mono (by decide)) rfl T.g_law_named T.F_law_named.kp T.b_law_named (ia_cons ie_str (ia_cons (ie_lst (ia_cons (ie_tup (ia_cons ie_str (ia_cons ie_str ia_nil))) ia_nil)) (ia_cons (ie_var 3) (ia_cons (ie_var 4) ia_nil)))))))))))))))
theorem ar_law : Ar m_law 1 := ar_fn
end
theorem all_mk {P : Program} {w : World} {K : PySem.W.Frag} {h : Heap} {mg : Str → Option Value} {fa : Addr} (ht : ∀ ns : List Int, ns.length ≤ 63 → ∃ st', m_law [.v (.ro (ns.map W.int))] emp = .ok (.v (.bl true)) st') (X : K.In h) (G : h.Ns mainGlobals mg) (hfa : mg "law" = some (.ref fa))  {lc0 lp0 : Addr} {lo0 : Value} {ld0 : Option Addr} {lv0 : Array Value} {ls0 : Array (Option Value)} {ga0 : Addr} {gd0 : Option Addr} {gn0 : Nat} {gs0 : Array (Option Value)} {gt0_0 : Tok} {gt0_1 : Tok} {ga1 : Addr} {gd1 : Option Addr} {gn1 : Nat} {gs1 : Array (Option Value)} {gt1_0 : Tok} {gt1_1 : Tok} {gt1_2 : Tok} {gt1_3 : Tok} {gt1_4 : Tok} {gt1_5 : Tok} {gt1_6 : Tok} {gb0 : Addr} {gm0 : Nat} {gk0_0 gv0_0 : Tok} {gk0_1 gv0_1 : Tok} {gk0_2 gv0_2 : Tok} {gk0_3 gv0_3 : Tok} {fx22 cda22 cc22 N22 : Addr} {nm22 qn22 : Str} {bs22 bm22 : List Value} {sn22 : List Str} {sb22 : List Value} {ab22 : Bool} {co22 : Option Bool} {dd22 od_22 an_22 cdd22 cld22 : Option Addr} {m022 m122 m222 m322 m522 : Option Value} {oc_22 doc22 pm_22 ct_22 ccl22 cl_22 : Value} {osl22 ccs22 csl22 : Array (Option Value)} {vs22 : Array Value} {fi_22 : Str} {tf22 : Tok} {q2 : Addr} {q22 : Addr} {q20 : Addr} {cp0 : Addr} {cr0 : List Value} {cp1 : Addr} {cr1 : List Value}{f1 f2 f3 f4 f5 f6 f7 f8 f9 f10 f11 f12 f13 f14 f15 f16 f17 f18 f19 f20 f21 f22 f23 f24 f25 f26 f27 : Addr} {od1 an1 od2 an2 od3 an3 od4 an4 od5 an5 od6 an6 od7 an7 od8 an8 od9 an9 od10 an10 od11 an11 od12 an12 od13 an13 od14 an14 od15 an15 od16 an16 od17 an17 od18 an18 od19 an19 od20 an20 od21 an21 od22 an22 od23 an23 od24 an24 od25 an25 od26 an26 od27 an27 : Option Addr} {sl1 sl2 sl3 sl4 sl5 sl6 sl7 sl8 sl9 sl10 sl11 sl12 sl13 sl14 sl15 sl16 sl17 sl18 sl19 sl20 sl21 sl22 sl23 sl24 sl25 sl26 sl27 : Array (Option Value)} {oc1 kV1 dc1 pm1 cd1 ct1 oc2 kV2 dc2 pm2 cd2 ct2 oc3 kV3 dc3 pm3 cd3 ct3 oc4 kV4 dc4 pm4 cd4 ct4 oc5 kV5 dc5 pm5 cd5 ct5 oc6 kV6 dc6 pm6 cd6 ct6 oc7 kV7 dc7 pm7 cd7 ct7 oc8 kV8 dc8 pm8 cd8 ct8 oc9 kV9 dc9 pm9 cd9 ct9 oc10 kV10 dc10 pm10 cd10 ct10 oc11 kV11 dc11 pm11 ct11 oc12 kV12 dc12 pm12 cd12 ct12 oc13 kV13 dc13 pm13 cd13 ct13 oc14 kV14 dc14 pm14 cd14 ct14 oc15 kV15 dc15 pm15 cd15 ct15 oc16 kV16 dc16 pm16 cd16 ct16 oc17 kV17 dc17 pm17 cd17 ct17 oc18 kV18 dc18 pm18 cd18 ct18 oc19 kV19 dc19 pm19 cd19 ct19 oc20 kV20 dc20 pm20 cd20 ct20 oc21 kV21 dc21 pm21 cd21 ct21 oc22 kV22 dc22 pm22 cd22 ct22 oc23 kV23 dc23 pm23 cd23 ct23 oc24 kV24 dc24 pm24 cd24 ct24 oc25 kV25 dc25 pm25 cd25 ct25 oc26 kV26 dc26 pm26 cd26 ct26 oc27 kV27 dc27 pm27 cd27 ct27 : Value}
    (qa2 : PySem.W.nsIn K mainGlobals "Rule" = some (some (.ref q2))) (qb2 : PySem.W.plainGet K q2 Str.empty = true) (qc2 : PySem.W.hasDictIn K q2 = true) (qd2 : PySem.W.plainOver K q2 = true) (qe2 : PySem.W.findIn K (.ref q2) "__setattr__" = some (some (.builtin "object.__setattr__")))
    (qf2 : PySem.W.findIn K (.ref q2) "__class__" = some (some (.builtin "object.__class__"))) (qg2 : PySem.W.specialIn K (.builtin "object.__class__") "__get__" = some (some (.builtin "getset_descriptor.__get__"))) (qh2 : PySem.W.takesIn K (.builtin "object.__class__") = some true) (qi2 : PySem.W.mroIn K q2 (.type "object") = some true) (qj2 : PySem.W.selfFirst K q2 = true)
    (a1 : PySem.W.nsIn K mainGlobals "_law_take" = some (some (.ref f1)))
    (l1 : K.lookup f1 = some ⟨oc1, od1, .func (PySem.W.fnOf "_law_take" "_law_take" (defArgs s_law_take) (defBody s_law_take) (defScope s_law_take) .none kV1 dc1 pm1 an1 cd1 ct1), sl1⟩) (c1 : PySem.W.codeIn K cd1 "_law_take" = true) (k1 : PySem.W.keepIn K (.ref f1) = true)
    (a2 : PySem.W.nsIn K mainGlobals "_law_car" = some (some (.ref f2)))
    (l2 : K.lookup f2 = some ⟨oc2, od2, .func (PySem.W.fnOf "_law_car" "_law_car" (defArgs s_law_car) (defBody s_law_car) (defScope s_law_car) .none kV2 dc2 pm2 an2 cd2 ct2), sl2⟩) (c2 : PySem.W.codeIn K cd2 "_law_car" = true) (k2 : PySem.W.keepIn K (.ref f2) = true)
    (a3 : PySem.W.nsIn K mainGlobals "_law_cell" = some (some (.ref f3)))
    (l3 : K.lookup f3 = some ⟨oc3, od3, .func (PySem.W.fnOf "_law_cell" "_law_cell" (defArgs s_law_cell) (defBody s_law_cell) (defScope s_law_cell) .none kV3 dc3 pm3 an3 cd3 ct3), sl3⟩) (c3 : PySem.W.codeIn K cd3 "_law_cell" = true) (k3 : PySem.W.keepIn K (.ref f3) = true)
    (a4 : PySem.W.findIn K (.ref q2) "__iter__" = some (some (.ref f4)))
    (l4 : K.lookup f4 = some ⟨oc4, od4, .func (PySem.W.fnOf "__iter__" "Rule.__iter__" (defArgs s_Ruleu_iteru) (defBody s_Ruleu_iteru) (defScope s_Ruleu_iteru) .none kV4 dc4 pm4 an4 cd4 ct4), sl4⟩) (c4 : PySem.W.codeIn K cd4 "Rule.__iter__" = true) (k4 : PySem.W.keepIn K (.ref f4) = true)
    (a5 : PySem.W.findIn K (.ref q2) "__len__" = some (some (.ref f5)))
    (l5 : K.lookup f5 = some ⟨oc5, od5, .func (PySem.W.fnOf "__len__" "Rule.__len__" (defArgs s_Ruleu_lenu) (defBody s_Ruleu_lenu) (defScope s_Ruleu_lenu) .none kV5 dc5 pm5 an5 cd5 ct5), sl5⟩) (c5 : PySem.W.codeIn K cd5 "Rule.__len__" = true) (k5 : PySem.W.keepIn K (.ref f5) = true)
    (a6 : PySem.W.findIn K (.ref q2) "__init__" = some (some (.ref f6)))
    (l6 : K.lookup f6 = some ⟨oc6, od6, .func (PySem.W.fnOf "__init__" "Rule.__init__" (defArgs s_Ruleu_initu) (defBody s_Ruleu_initu) (defScope s_Ruleu_initu) .none kV6 dc6 pm6 an6 cd6 ct6), sl6⟩) (c6 : PySem.W.codeIn K cd6 "Rule.__init__" = true) (k6 : PySem.W.keepIn K (.ref f6) = true)
    (a7 : PySem.W.isFn K (.ref f7) = true)
    (l7 : K.lookup f7 = some ⟨oc7, od7, .func (PySem.W.fnOf "parse" "Rule.parse" (defArgs s_Rule_parse) (defBody s_Rule_parse) (defScope s_Rule_parse) .none kV7 dc7 pm7 an7 cd7 ct7), sl7⟩) (c7 : PySem.W.codeIn K cd7 "Rule.parse" = true) (k7 : PySem.W.keepIn K (.ref f7) = true)
    (a8 : PySem.W.isFn K (.ref f8) = true)
    (l8 : K.lookup f8 = some ⟨oc8, od8, .func (PySem.W.fnOf "named" "Rule.named" (defArgs s_Rule_named) (defBody s_Rule_named) (defScope s_Rule_named) .none kV8 dc8 pm8 an8 cd8 ct8), sl8⟩) (c8 : PySem.W.codeIn K cd8 "Rule.named" = true) (k8 : PySem.W.keepIn K (.ref f8) = true)
    (a9 : PySem.W.nsIn K mainGlobals "measure" = some (some (.ref f9)))
    (l9 : K.lookup f9 = some ⟨oc9, od9, .func (PySem.W.fnOf "measure" "measure" (defArgs s_measure) (defBody s_measure) (defScope s_measure) .none kV9 dc9 pm9 an9 cd9 ct9), sl9⟩) (c9 : PySem.W.codeIn K cd9 "measure" = true) (k9 : PySem.W.keepIn K (.ref f9) = true)
    (a10 : PySem.W.findIn K (.ref q2) "__call__" = some (some (.ref f10)))
    (l10 : K.lookup f10 = some ⟨oc10, od10, .func (PySem.W.fnOf "__call__" "Rule.__call__" (defArgs s_Ruleu_callu) (defBody s_Ruleu_callu) (defScope s_Ruleu_callu) .none kV10 dc10 pm10 an10 cd10 ct10), sl10⟩) (c10 : PySem.W.codeIn K cd10 "Rule.__call__" = true) (k10 : PySem.W.keepIn K (.ref f10) = true)
    (a11 : PySem.W.findIn K (.ref q2) "order" = some (some (.ref f11)))
    (l11 : K.lookup f11 = some ⟨oc11, od11, .func (PySem.W.fnOf "order" "Rule.order" (defArgs s_Rule_order) (defBody s_Rule_order) (defScope s_Rule_order) .none kV11 dc11 pm11 an11 (.ref lc0) ct11), sl11⟩) (c11 : PySem.W.codeIn K (.ref lc0) "Rule.order" = true) (k11 : PySem.W.keepIn K (.ref f11) = true)
    (a12 : PySem.W.findIn K (.ref q2) "serve" = some (some (.ref f12)))
    (l12 : K.lookup f12 = some ⟨oc12, od12, .func (PySem.W.fnOf "serve" "Rule.serve" (defArgs s_Rule_serve) (defBody s_Rule_serve) (defScope s_Rule_serve) .none kV12 dc12 pm12 an12 cd12 ct12), sl12⟩) (c12 : PySem.W.codeIn K cd12 "Rule.serve" = true) (k12 : PySem.W.keepIn K (.ref f12) = true)
    (a13 : PySem.W.nsIn K mainGlobals "_law_ahead" = some (some (.ref f13)))
    (l13 : K.lookup f13 = some ⟨oc13, od13, .func (PySem.W.fnOf "_law_ahead" "_law_ahead" (defArgs s_law_ahead) (defBody s_law_ahead) (defScope s_law_ahead) .none kV13 dc13 pm13 an13 cd13 ct13), sl13⟩) (c13 : PySem.W.codeIn K cd13 "_law_ahead" = true) (k13 : PySem.W.keepIn K (.ref f13) = true)
    (a14 : PySem.W.nsIn K mainGlobals "_law_measure" = some (some (.ref f14)))
    (l14 : K.lookup f14 = some ⟨oc14, od14, .func (PySem.W.fnOf "_law_measure" "_law_measure" (defArgs s_law_measure) (defBody s_law_measure) (defScope s_law_measure) .none kV14 dc14 pm14 an14 cd14 ct14), sl14⟩) (c14 : PySem.W.codeIn K cd14 "_law_measure" = true) (k14 : PySem.W.keepIn K (.ref f14) = true)
    (a15 : PySem.W.nsIn K mainGlobals "_law_key" = some (some (.ref f15)))
    (l15 : K.lookup f15 = some ⟨oc15, od15, .func (PySem.W.fnOf "_law_key" "_law_key" (defArgs s_law_key) (defBody s_law_key) (defScope s_law_key) .none kV15 dc15 pm15 an15 cd15 ct15), sl15⟩) (c15 : PySem.W.codeIn K cd15 "_law_key" = true) (k15 : PySem.W.keepIn K (.ref f15) = true)
    (a16 : PySem.W.nsIn K mainGlobals "_law_order" = some (some (.ref f16)))
    (l16 : K.lookup f16 = some ⟨oc16, od16, .func (PySem.W.fnOf "_law_order" "_law_order" (defArgs s_law_order) (defBody s_law_order) (defScope s_law_order) .none kV16 dc16 pm16 an16 cd16 ct16), sl16⟩) (c16 : PySem.W.codeIn K cd16 "_law_order" = true) (k16 : PySem.W.keepIn K (.ref f16) = true)
    (a17 : PySem.W.nsIn K mainGlobals "_law_same" = some (some (.ref f17)))
    (l17 : K.lookup f17 = some ⟨oc17, od17, .func (PySem.W.fnOf "_law_same" "_law_same" (defArgs s_law_same) (defBody s_law_same) (defScope s_law_same) .none kV17 dc17 pm17 an17 cd17 ct17), sl17⟩) (c17 : PySem.W.codeIn K cd17 "_law_same" = true) (k17 : PySem.W.keepIn K (.ref f17) = true)
    (a18 : PySem.W.nsIn K mainGlobals "_law_named" = some (some (.ref f18)))
    (l18 : K.lookup f18 = some ⟨oc18, od18, .func (PySem.W.fnOf "_law_named" "_law_named" (defArgs s_law_named) (defBody s_law_named) (defScope s_law_named) .none kV18 dc18 pm18 an18 cd18 ct18), sl18⟩) (c18 : PySem.W.codeIn K cd18 "_law_named" = true) (k18 : PySem.W.keepIn K (.ref f18) = true)
    (a19 : PySem.W.nsIn K mainGlobals "_law_names_of_rules" = some (some (.ref f19)))
    (l19 : K.lookup f19 = some ⟨oc19, od19, .func (PySem.W.fnOf "_law_names_of_rules" "_law_names_of_rules" (defArgs s_law_names_of_rules) (defBody s_law_names_of_rules) (defScope s_law_names_of_rules) .none kV19 dc19 pm19 an19 cd19 ct19), sl19⟩) (c19 : PySem.W.codeIn K cd19 "_law_names_of_rules" = true) (k19 : PySem.W.keepIn K (.ref f19) = true)
    (a20 : PySem.W.nsIn K mainGlobals "_law_pool" = some (some (.ref f20)))
    (l20 : K.lookup f20 = some ⟨oc20, od20, .func (PySem.W.fnOf "_law_pool" "_law_pool" (defArgs s_law_pool) (defBody s_law_pool) (defScope s_law_pool) .none kV20 dc20 pm20 an20 cd20 ct20), sl20⟩) (c20 : PySem.W.codeIn K cd20 "_law_pool" = true) (k20 : PySem.W.keepIn K (.ref f20) = true)
    (a21 : PySem.W.nsIn K mainGlobals "_law_refused" = some (some (.ref f21)))
    (l21 : K.lookup f21 = some ⟨oc21, od21, .func (PySem.W.fnOf "_law_refused" "_law_refused" (defArgs s_law_refused) (defBody s_law_refused) (defScope s_law_refused) .none kV21 dc21 pm21 an21 cd21 ct21), sl21⟩) (c21 : PySem.W.codeIn K cd21 "_law_refused" = true) (k21 : PySem.W.keepIn K (.ref f21) = true)
    (a22 : PySem.W.nsIn K mainGlobals "_law_bent" = some (some (.ref f22)))
    (l22 : K.lookup f22 = some ⟨oc22, od22, .func (PySem.W.fnOf "_law_bent" "_law_bent" (defArgs s_law_bent) (defBody s_law_bent) (defScope s_law_bent) .none kV22 dc22 pm22 an22 cd22 ct22), sl22⟩) (c22 : PySem.W.codeIn K cd22 "_law_bent" = true) (k22 : PySem.W.keepIn K (.ref f22) = true)
    (a23 : PySem.W.nsIn K mainGlobals "_law_signs" = some (some (.ref f23)))
    (l23 : K.lookup f23 = some ⟨oc23, od23, .func (PySem.W.fnOf "_law_signs" "_law_signs" (defArgs s_law_signs) (defBody s_law_signs) (defScope s_law_signs) .none kV23 dc23 pm23 an23 cd23 ct23), sl23⟩) (c23 : PySem.W.codeIn K cd23 "_law_signs" = true) (k23 : PySem.W.keepIn K (.ref f23) = true)
    (a24 : PySem.W.nsIn K mainGlobals "_law_terms" = some (some (.ref f24)))
    (l24 : K.lookup f24 = some ⟨oc24, od24, .func (PySem.W.fnOf "_law_terms" "_law_terms" (defArgs s_law_terms) (defBody s_law_terms) (defScope s_law_terms) .none kV24 dc24 pm24 an24 cd24 ct24), sl24⟩) (c24 : PySem.W.codeIn K cd24 "_law_terms" = true) (k24 : PySem.W.keepIn K (.ref f24) = true)
    (a25 : PySem.W.nsIn K mainGlobals "_law_terms_text" = some (some (.ref f25)))
    (l25 : K.lookup f25 = some ⟨oc25, od25, .func (PySem.W.fnOf "_law_terms_text" "_law_terms_text" (defArgs s_law_terms_text) (defBody s_law_terms_text) (defScope s_law_terms_text) .none kV25 dc25 pm25 an25 cd25 ct25), sl25⟩) (c25 : PySem.W.codeIn K cd25 "_law_terms_text" = true) (k25 : PySem.W.keepIn K (.ref f25) = true)
    (a26 : PySem.W.nsIn K mainGlobals "_law_text" = some (some (.ref f26)))
    (l26 : K.lookup f26 = some ⟨oc26, od26, .func (PySem.W.fnOf "_law_text" "_law_text" (defArgs s_law_text) (defBody s_law_text) (defScope s_law_text) .none kV26 dc26 pm26 an26 cd26 ct26), sl26⟩) (c26 : PySem.W.codeIn K cd26 "_law_text" = true) (k26 : PySem.W.keepIn K (.ref f26) = true)
    (a27 : PySem.W.nsIn K mainGlobals "law" = some (some (.ref f27)))
    (l27 : K.lookup f27 = some ⟨oc27, od27, .func (PySem.W.fnOf "law" "law" (defArgs s_law) (defBody s_law) (defScope s_law) .none kV27 dc27 pm27 an27 cd27 ct27), sl27⟩) (c27 : PySem.W.codeIn K cd27 "law" = true) (k27 : PySem.W.keepIn K (.ref f27) = true)
    (ma2 : PySem.W.makesIn K q2 = true)
    (mb2 : PySem.W.isFn K (.ref f6) = true)
    (mc2 : PySem.W.keepIn K (.ref q2) = true)
    (na0 : PySem.W.findIn K (.ref q2) "terms" = some none)
    (me0 : PySem.W.isFn K (.ref f4) = true)
    (me1 : PySem.W.isFn K (.ref f5) = true)
    (me2 : PySem.W.isFn K (.ref f11) = true)
    (me3 : PySem.W.isFn K (.ref f12) = true)
    (me4 : PySem.W.isFn K (.ref f10) = true)
    (fn0 : PySem.W.fnIn K f10 = true)
    (ra0 : PySem.W.readsIn K q2 (.type "type") = true)
    (rb0 : PySem.W.specialIn K (.ref q2) "__getattribute__" = some (some (.builtin "type.__getattribute__")))
    (ua0 : PySem.W.findCls K (.ref q2) (.type "type") "named" = some (.get (.builtin "classmethod.__get__") (.ref cp0) .none (.ref q2)))
    (ub0 : PySem.W.recIn K cp0 "classmethod" = some (.ref f8 :: cr0))
    (uc0 : PySem.W.fnIn K f8 = true)
    (ua1 : PySem.W.findCls K (.ref q2) (.type "type") "parse" = some (.get (.builtin "classmethod.__get__") (.ref cp1) .none (.ref q2)))
    (ub1 : PySem.W.recIn K cp1 "classmethod" = some (.ref f7 :: cr1))
    (uc1 : PySem.W.fnIn K f7 = true)
    (qt2 : PySem.W.typeIn K (.ref q2) = some (.type "type"))
    (kt0 : PySem.W.subIn K (.type "NoneType") (.ref q2) = some false)
    (kt1 : PySem.W.subIn K (.type "int") (.ref q2) = some false)
    (ta0 : PySem.W.nsIn K mainGlobals "SIDES" = some (some (.ref ga0)))
    (tb0 : K.lookup ga0 = some ⟨.type "tuple", gd0, .seq #[.str (PySem.Str.ofString "least") gt0_0, .str (PySem.Str.ofString "most") gt0_1] gn0, gs0⟩)
    (ta1 : PySem.W.nsIn K mainGlobals "WORDS" = some (some (.ref ga1)))
    (tb1 : K.lookup ga1 = some ⟨.type "tuple", gd1, .seq #[.str (PySem.Str.ofString "stay") gt1_0, .str (PySem.Str.ofString "need") gt1_1, .str (PySem.Str.ofString "left") gt1_2, .str (PySem.Str.ofString "want") gt1_3, .str (PySem.Str.ofString "here") gt1_4, .str (PySem.Str.ofString "got") gt1_5, .str (PySem.Str.ofString "slack") gt1_6] gn1, gs1⟩)
    (da0 : PySem.W.nsIn K mainGlobals "NAMED" = some (some (.ref gb0)))
    (db0 : K.lookup gb0 = some ⟨.type "dict", none, .dict #[⟨PyData.keyHash w.params (PySem.Str.ofString "equal"), .str (PySem.Str.ofString "equal") gk0_0, .str (PySem.Str.ofString "least got") gv0_0⟩, ⟨PyData.keyHash w.params (PySem.Str.ofString "first come"), .str (PySem.Str.ofString "first come") gk0_1, .str (PySem.Str.ofString "first come") gv0_1⟩, ⟨PyData.keyHash w.params (PySem.Str.ofString "least slack"), .str (PySem.Str.ofString "least slack") gk0_2, .str (PySem.Str.ofString "least slack") gv0_2⟩, ⟨PyData.keyHash w.params (PySem.Str.ofString "first leave"), .str (PySem.Str.ofString "first leave") gk0_3, .str (PySem.Str.ofString "least left") gv0_3⟩] gm0, #[]⟩)
    (dc0 : (gb0 == sysModules) = false)
    (eL22 : K.lookup q22 = some (PySem.excClassObj nm22 qn22 q22 N22 bs22 bm22 true sn22 sb22 ab22 co22 dd22 m022 m122 m222 m322 m522 "ValueError.__new__"))
    (eM22 : PySem.HandSPX.refsVE bm22 = true)
    (es22 : PySem.W.findIn K (.ref q22) "__setattr__" = some (some (.builtin "object.__setattr__")))
    (ea22 : PySem.W.findIn K (.ref q22) "__init__" = some (some (.ref fx22)))
    (et22 : PySem.W.typeIn K (.ref fx22) = some (.type "function"))
    (ev22 : PySem.W.subIn K (.ref q22) (.type "ValueError") = some true)
    (eu22 : PySem.W.ks_superIn K q22 q22 "__init__" = some (some (.builtin "ValueError.__init__")))
    (ek22 : PySem.W.mroIn K q22 (.ref q22) = some true)
    (eo22 : PySem.W.nsIn K PySem.cStatics "thirdparty.any" = some none)
    (ep22 : (P.main.scope.names.lookup ("super" : Str)).isSome = false)
    (en22 : PySem.W.findIn K (.ref q22) "place" = some none)
    (el22 : K.lookup fx22 = some ⟨oc_22, od_22, .func (PySem.W.ksFn "__init__" "BadRule.__init__" (defArgs s_BadRuleu_initu) (defBody s_BadRuleu_initu) (defScope s_BadRuleu_initu) .none .none doc22 pm_22 an_22 (.ref cda22) ct_22 cc22), osl22⟩)
    (ec22 : PySem.W.codeIn K (.ref cda22) "BadRule.__init__" = true)
    (ed22 : K.lookup cda22 = some ⟨ccl22, cdd22, .fields vs22, ccs22⟩)
    (ef22 : vs22[2]? = some (.str fi_22 tf22))
    (eg22 : ((P.main.file : Str) == fi_22) = true)
    (eh22 : K.lookup cc22 = some ⟨cl_22, cld22, .cell (some (.ref q22)), csl22⟩)
    (ya22 : PySem.W.findIn K (.ref q22) "__getattribute__" = some (some (.builtin "BaseException.__getattribute__")))
    (yb22 : PySem.W.findIn K (.ref q22) "__getattr__" = some none)
    (yc22 : PySem.W.findIn K (.ref q22) "__class__" = some (some (.builtin "object.__class__")))
    (yd22 : PySem.W.specialIn K (.builtin "object.__class__") "__get__" = some (some (.builtin "getset_descriptor.__get__")))
    (ye22 : PySem.W.takesIn K (.builtin "object.__class__") = some true)
    (yf22 : PySem.W.mroIn K q22 (.type "object") = some true)
    (yn0 : PySem.W.findIn K (.ref q22) "place" = some none)
    (yq0 : (Value.ref q22 == Value.ref q20) = false)
    (yk0 : PySem.W.subIn K (.ref q22) (.ref q20) = some true)
    (yk1 : PySem.W.subIn K (.ref q22) (.type "ValueError") = some true)
    (xa22 : PySem.W.nsIn K mainGlobals "BadRule" = some (some (.ref q22)))
    (xc22 : PySem.W.keepIn K (.ref q22) = true)
    (xd22 : PySem.W.subIn K (.ref q22) (.type "BaseException") = some true)
    (xe22 : PySem.W.typeIn K (.ref q22) = some (.type "type"))
    (xf22 : PySem.W.hasDictIn K q22 = true)
    (xa20 : PySem.W.nsIn K mainGlobals "CableError" = some (some (.ref q20)))
    (xc20 : PySem.W.keepIn K (.ref q20) = true)
    (xd20 : PySem.W.subIn K (.ref q20) (.type "BaseException") = some true)
    (xe20 : PySem.W.typeIn K (.ref q20) = some (.type "type"))
    (xf20 : PySem.W.hasDictIn K q20 = true)
    (xm0 : PySem.W.subIn K (.ref q22) (.ref q22) = some true)
    (la0 : K.lookup lc0 = some ⟨lo0, ld0, .fields lv0, ls0⟩)
    (lb0 : lv0[11]? = some (.ref lp0))
    (lh0 : PySem.W.codeHdIn K lc0 lp0 = true)
    (ln0 : K.lookup lp0 = none)
    (lz0 : lp0 ≠ 0)
    (lt0 : h.get? lp0 = some { cls := .none, data := .fields #[] })
    (ltd : lp0 ≠ (0 : Addr))
    (z1 : PySem.W.nsIn K mainGlobals "ValueError" = some none)
    (z2 : PySem.W.nsIn K mainGlobals "abs" = some none)
    (z3 : PySem.W.nsIn K mainGlobals "bool" = some none)
    (z4 : PySem.W.nsIn K mainGlobals "enumerate" = some none)
    (z5 : PySem.W.nsIn K mainGlobals "int" = some none)
    (z6 : PySem.W.nsIn K mainGlobals "isinstance" = some none)
    (z7 : PySem.W.nsIn K mainGlobals "iter" = some none)
    (z8 : PySem.W.nsIn K mainGlobals "len" = some none)
    (z9 : PySem.W.nsIn K mainGlobals "list" = some none)
    (z10 : PySem.W.nsIn K mainGlobals "range" = some none)
    (z11 : PySem.W.nsIn K mainGlobals "sorted" = some none)
    (z12 : PySem.W.nsIn K mainGlobals "str" = some none)
    (z13 : PySem.W.nsIn K mainGlobals "super" = some none)
    (z14 : PySem.W.nsIn K mainGlobals "tuple" = some none)
    : ∃ (fd : FuncData) (cs : List (Addr × Addr)), (∀ p ∈ cs, h.get? p.2 = some { cls := .none, data := .fields #[] }) ∧ (∀ p ∈ cs, K.lookup p.2 = none) ∧ (∀ p ∈ cs, PySem.W.CodeHd h p.1 p.2) ∧ (∀ (s : Shared) (v : Value), BindsTo s fd ⟨[v], []⟩ [("_law_script", v)]) ∧ ∀ base : Heap, K.In base → base.Ns mainGlobals mg → (∀ p ∈ cs, LamX.TabB base mg p.1 p.2) → FnOk P w K mg base (L2.CX P w) 15 fa fd ["_law_script"] (spLawT K cs) := by
  have e := hfa.symm.trans (PySem.W.mg_of X G a27)
  cases e
  have F1 := fun_mk (st := s_law_take) l1 c1 k1
  have b1 := F1.binds (ps := ["_law_pool_here", "_law_many"]) fun _ _ _ _ _ _ us hl => match us, hl with | [_, _], _ => rfl
  have F2 := fun_mk (st := s_law_car) l2 c2 k2
  have b2 := F2.binds (ps := ["_law_pool_here", "_law_longest"]) fun _ _ _ _ _ _ us hl => match us, hl with | [_, _], _ => rfl
  have F3 := fun_mk (st := s_law_cell) l3 c3 k3
  have b3 := F3.binds (ps := ["_law_script", "_law_at"]) fun _ _ _ _ _ _ us hl => match us, hl with | [_, _], _ => rfl
  have F4 := fun_mk (st := s_Ruleu_iteru) l4 c4 k4
  have b4 := F4.binds (ps := ["self"]) fun _ _ _ _ _ _ us hl => match us, hl with | [_], _ => rfl
  have F5 := fun_mk (st := s_Ruleu_lenu) l5 c5 k5
  have b5 := F5.binds (ps := ["self"]) fun _ _ _ _ _ _ us hl => match us, hl with | [_], _ => rfl
  have F6 := fun_mk (st := s_Ruleu_initu) l6 c6 k6
  have b6 := F6.binds (ps := ["self", "terms"]) fun _ _ _ _ _ _ us hl => match us, hl with | [_, _], _ => rfl
  have F7 := fun_mk (st := s_Rule_parse) l7 c7 k7
  have b7 := F7.binds (ps := ["cls", "text"]) fun _ _ _ _ _ _ us hl => match us, hl with | [_, _], _ => rfl
  have F8 := fun_mk (st := s_Rule_named) l8 c8 k8
  have b8 := F8.binds (ps := ["cls", "name"]) fun _ _ _ _ _ _ us hl => match us, hl with | [_, _], _ => rfl
  have F9 := fun_mk (st := s_measure) l9 c9 k9
  have b9 := F9.binds (ps := ["car", "word"]) fun _ _ _ _ _ _ us hl => match us, hl with | [_, _], _ => rfl
  have F10 := fun_mk (st := s_Ruleu_callu) l10 c10 k10
  have b10 := F10.binds (ps := ["self", "car"]) fun _ _ _ _ _ _ us hl => match us, hl with | [_, _], _ => rfl
  have F11 := fun_mk (st := s_Rule_order) l11 c11 k11
  have b11 := F11.binds (ps := ["self", "cars"]) fun _ _ _ _ _ _ us hl => match us, hl with | [_, _], _ => rfl
  have F12 := fun_mk (st := s_Rule_serve) l12 c12 k12
  have b12 := F12.binds (ps := ["self", "cars", "width"]) fun _ _ _ _ _ _ us hl => match us, hl with | [_, _, _], _ => rfl
  have F13 := fun_mk (st := s_law_ahead) l13 c13 k13
  have b13 := F13.binds (ps := ["_law_one", "_law_two"]) fun _ _ _ _ _ _ us hl => match us, hl with | [_, _], _ => rfl
  have F14 := fun_mk (st := s_law_measure) l14 c14 k14
  have b14 := F14.binds (ps := ["_law_car_here", "_law_word"]) fun _ _ _ _ _ _ us hl => match us, hl with | [_, _], _ => rfl
  have F15 := fun_mk (st := s_law_key) l15 c15 k15
  have b15 := F15.binds (ps := ["_law_terms_here", "_law_car_here"]) fun _ _ _ _ _ _ us hl => match us, hl with | [_, _], _ => rfl
  have F16 := fun_mk (st := s_law_order) l16 c16 k16
  have b16 := F16.binds (ps := ["_law_terms_here", "_law_cars"]) fun _ _ _ _ _ _ us hl => match us, hl with | [_, _], _ => rfl
  have F17 := fun_mk (st := s_law_same) l17 c17 k17
  have b17 := F17.binds (ps := ["_law_told", "_law_due"]) fun _ _ _ _ _ _ us hl => match us, hl with | [_, _], _ => rfl
  have F18 := fun_mk (st := s_law_named) l18 c18 k18
  have b18 := F18.binds (ps := ["_law_name", "_law_terms_here", "_law_cars", "_law_width"]) fun _ _ _ _ _ _ us hl => match us, hl with | [_, _, _, _], _ => rfl
  have F19 := fun_mk (st := s_law_names_of_rules) l19 c19 k19
  have b19 := F19.binds (ps := []) fun _ _ _ _ _ _ us hl => match us, hl with | [], _ => rfl
  have F20 := fun_mk (st := s_law_pool) l20 c20 k20
  have b20 := F20.binds (ps := ["_law_cell_here"]) fun _ _ _ _ _ _ us hl => match us, hl with | [_], _ => rfl
  have F21 := fun_mk (st := s_law_refused) l21 c21 k21
  have b21 := F21.binds (ps := ["_law_text_here"]) fun _ _ _ _ _ _ us hl => match us, hl with | [_], _ => rfl
  have F22 := fun_mk (st := s_law_bent) l22 c22 k22
  have b22 := F22.binds (ps := ["_law_pool_here", "_law_text_here", "_law_signs_here"]) fun _ _ _ _ _ _ us hl => match us, hl with | [_, _, _], _ => rfl
  have F23 := fun_mk (st := s_law_signs) l23 c23 k23
  have b23 := F23.binds (ps := []) fun _ _ _ _ _ _ us hl => match us, hl with | [], _ => rfl
  have F24 := fun_mk (st := s_law_terms) l24 c24 k24
  have b24 := F24.binds (ps := ["_law_pool_here", "_law_most"]) fun _ _ _ _ _ _ us hl => match us, hl with | [_, _], _ => rfl
  have F25 := fun_mk (st := s_law_terms_text) l25 c25 k25
  have b25 := F25.binds (ps := ["_law_terms_here"]) fun _ _ _ _ _ _ us hl => match us, hl with | [_], _ => rfl
  have F26 := fun_mk (st := s_law_text) l26 c26 k26
  have b26 := F26.binds (ps := ["_law_pool_here", "_law_way"]) fun _ _ _ _ _ _ us hl => match us, hl with | [_, _], _ => rfl
  have F27 := fun_mk (st := s_law) l27 c27 k27
  have b27 := F27.binds (ps := ["_law_script"]) fun _ _ _ _ _ _ us hl => match us, hl with | [_], _ => rfl
  let T : ∀ base : Heap, (∀ p ∈ [(lc0, lp0)], LamX.TabB base mg p.1 p.2) → Tt P w K mg (fun n => if n = 900 then lp0 else [0, 0, q2, 0, 0, 0, 0, 0, 0, 0, 0, 0, 0, 0, 0, 0, 0, 0, 0, 0, q20, 0, q22].getD n 0) base := fun base hTB => ⟨_, _, F1, b1, PySem.W.mg_of X G a1, _, _, F2, b2, PySem.W.mg_of X G a2, _, _, F3, b3, PySem.W.mg_of X G a3, _, _, F4, b4, _, _, F5, b5, _, _, F6, b6, _, _, F7, b7, _, _, F8, b8, _, _, F9, b9, PySem.W.mg_of X G a9, _, _, F10, b10, _, _, F11, b11, _, _, F12, b12, _, _, F13, b13, PySem.W.mg_of X G a13, _, _, F14, b14, PySem.W.mg_of X G a14, _, _, F15, b15, PySem.W.mg_of X G a15, _, _, F16, b16, PySem.W.mg_of X G a16, _, _, F17, b17, PySem.W.mg_of X G a17, _, _, F18, b18, PySem.W.mg_of X G a18, _, _, F19, b19, PySem.W.mg_of X G a19, _, _, F20, b20, PySem.W.mg_of X G a20, _, _, F21, b21, PySem.W.mg_of X G a21, _, _, F22, b22, PySem.W.mg_of X G a22, _, _, F23, b23, PySem.W.mg_of X G a23, _, _, F24, b24, PySem.W.mg_of X G a24, _, _, F25, b25, PySem.W.mg_of X G a25, _, _, F26, b26, PySem.W.mg_of X G a26, _, _, F27, b27, PySem.W.mg_of X G a27, PySem.W.mg_none_of X G z1, PySem.W.mg_none_of X G z2, PySem.W.mg_none_of X G z3, PySem.W.mg_none_of X G z4, PySem.W.mg_none_of X G z5, PySem.W.mg_none_of X G z6, PySem.W.mg_none_of X G z7, PySem.W.mg_none_of X G z8, PySem.W.mg_none_of X G z9, PySem.W.mg_none_of X G z10, PySem.W.mg_none_of X G z11, PySem.W.mg_none_of X G z12, PySem.W.mg_none_of X G z13, PySem.W.mg_none_of X G z14, ⟨⟨qb2, qc2, qd2, qe2⟩, qf2, qg2, qh2, qi2, qj2⟩, PySem.W.mg_of X G qa2, ⟨ma2, a6, mb2, mc2⟩, na0, ⟨a4, me0, k4⟩, ⟨a5, me1, k5⟩, ⟨a11, me2, k11⟩, ⟨a12, me3, k12⟩, ⟨a10, me4, k10⟩, fn0, (.type "type"), ⟨ra0, rb0⟩, cp0, ⟨ua0, ⟨_, ub0⟩, uc0⟩, cp1, ⟨ua1, ⟨_, ub1⟩, uc1⟩, kit_self, kit_sub ty_ne qc2 qt2 kt0, kit_sub ty_ne qc2 qt2 kt1, ga0, PySem.W.mg_of X G ta0, gts_of (ts := [gt0_0, gt0_1]) tb0 rfl (by decide), ga1, PySem.W.mg_of X G ta1, gts_of (ts := [gt1_0, gt1_1, gt1_2, gt1_3, gt1_4, gt1_5, gt1_6]) tb1 rfl (by decide), gb0, PySem.W.mg_of X G da0, gdct_of (ts := [(gk0_0, gv0_0), (gk0_1, gv0_1), (gk0_2, gv0_2), (gk0_3, gv0_3)]) db0 rfl dc0, fx22, ⟨⟨⟨_, _, _, _, _, _, _, _, _, _, _, _, _, _, _, eL22, eM22⟩, es22, ea22, et22, xc22, xd22, ev22, xe22, eu22, ek22, eo22, PySem.W.mg_none_of X G z13, ep22⟩, ⟨rfl, rfl, rfl, rfl, by decide, fun _ _ => rfl, fun _ _ => rfl, by decide⟩, en22, ⟨oc_22, od_22, doc22, pm_22, an_22, cda22, cc22, ct_22, osl22, _, _, _, _, _, _, _, _, _, _, _, _, _, ccl22, cdd22, vs22, ccs22, fi_22, tf22, cl_22, cld22, csl22, el22, ec22, ed22, ef22, eg22, eh22, fun s a v => BindsTo.of_eq rfl, fun env => rfl, ⟨_, fun L => rfl⟩⟩⟩, ⟨⟨ya22, yb22, xd22, xf22⟩, cls_some xf22, yc22, yd22, ye22, yf22⟩, yn0, kit_sub yq0 xf20 xe20 yk0, kit_subT (by decide +kernel) yk1, PySem.W.mg_of X G xa22, xc22, xd22, xe22, PySem.W.mg_of X G xa20, xc20, xd20, xe20, PySem.W.exm_ref xd22 xf22 xe22 xm0, lc0, funC_mk l11 c11, (hTB (lc0, lp0) (by simp)), lz0, ltd⟩
  exact ⟨fdOf F27, [(lc0, lp0)], (List.forall_mem_cons.mpr ⟨lt0, (fun _ h => nomatch h)⟩), (List.forall_mem_cons.mpr ⟨ln0, (fun _ h => nomatch h)⟩), (List.forall_mem_cons.mpr ⟨PySem.W.codeHd_of_K X lh0, (fun _ h => nomatch h)⟩), fun s v => .of_eq rfl, fun base _ _ hTB => (ok_law (P := P) (w := w) (base := base) (T base hTB)).imp (law_impT (fun j hj => match j, hj with | 0, _ => .inr ⟨lc0, by simp⟩ | 1, _ => .inl rfl | n + 2, hn => absurd hn (by omega)) ht)⟩
end K14

open PySem PySem.W PyProof.Rows
set_option maxRecDepth 100000 in
set_option maxHeartbeats 0 in
theorem PySem.Challenge.cw_onecable_k14_named_rules_holds : PySem.Challenge.rw_onecable_k14_named_rules.Holds := by
  w_on; o_law; k_head; (case hw => w_witness2)
  k_fill
  refine Mz.walkT (l := PySem.Challenge.rw_onecable_k14_named_rules) (k := 15) (x := "_law_script") rfl rfl ⟨rfl, by decide, by decide⟩ (fun w h Y => by first | exact PySem.W.kIn_of Y | exact PySem.W.km_in_of Y) ?F
  case F =>
    intro w mg fa h Y KX G hmg
    have hT8 := PySem.W.km_tabs_of Y
    refine' K14.all_mk K14.law_true KX G hmg ?qa2 ?qb2 ?qc2 ?qd2 ?qe2 ?qf2 ?qg2 ?qh2 ?qi2 ?qj2 ?a1 ?l1 ?c1 ?k1 ?a2 ?l2 ?c2 ?k2 ?a3 ?l3 ?c3 ?k3 ?a4 ?l4 ?c4 ?k4 ?a5 ?l5 ?c5 ?k5 ?a6 ?l6 ?c6 ?k6 ?a7 ?l7 ?c7 ?k7 ?a8 ?l8 ?c8 ?k8 ?a9 ?l9 ?c9 ?k9 ?a10 ?l10 ?c10 ?k10 ?a11 ?l11 ?c11 ?k11 ?a12 ?l12 ?c12 ?k12 ?a13 ?l13 ?c13 ?k13 ?a14 ?l14 ?c14 ?k14 ?a15 ?l15 ?c15 ?k15 ?a16 ?l16 ?c16 ?k16 ?a17 ?l17 ?c17 ?k17 ?a18 ?l18 ?c18 ?k18 ?a19 ?l19 ?c19 ?k19 ?a20 ?l20 ?c20 ?k20 ?a21 ?l21 ?c21 ?k21 ?a22 ?l22 ?c22 ?k22 ?a23 ?l23 ?c23 ?k23 ?a24 ?l24 ?c24 ?k24 ?a25 ?l25 ?c25 ?k25 ?a26 ?l26 ?c26 ?k26 ?a27 ?l27 ?c27 ?k27 ?ma2 ?mb2 ?mc2 ?na0 ?me0 ?me1 ?me2 ?me3 ?me4 ?fn0 ?ra0 ?rb0 ?ua0 ?ub0 ?uc0 ?ua1 ?ub1 ?uc1 ?qt2 ?kt0 ?kt1 ?ta0 ?tb0 ?ta1 ?tb1 ?da0 ?db0 ?dc0 ?eL22 ?eM22 ?es22 ?ea22 ?et22 ?ev22 ?eu22 ?ek22 ?eo22 ?ep22 ?en22 ?el22 ?ec22 ?ed22 ?ef22 ?eg22 ?eh22 ?ya22 ?yb22 ?yc22 ?yd22 ?ye22 ?yf22 ?yn0 ?yq0 ?yk0 ?yk1 ?xa22 ?xc22 ?xd22 ?xe22 ?xf22 ?xa20 ?xc20 ?xd20 ?xe20 ?xf20 ?xm0 ?la0 ?lb0 ?lh0 ?ln0 ?lz0 ?lt0 ?ltd ?z1 ?z2 ?z3 ?z4 ?z5 ?z6 ?z7 ?z8 ?z9 ?z10 ?z11 ?z12 ?z13 ?z14
    (case qa2 => k_is)
    (case xa22 => k_is)
    (case xa20 => k_is)
    (case a11 => k_is)
    (case l11 => k_is)
    (case la0 => k_is)
    (case lb0 => rfl)
    (case ea22 => k_is)
    (case el22 => k_is)
    (case eL22 => k_is)
    (case ed22 => k_is)
    (case ua0 => k_is)
    (case ua1 => k_is)
    (case ub0 => k_is)
    (case ub1 => k_is)
    (case qb2 => k_is)
    (case qc2 => k_is)
    (case qd2 => k_is)
    (case qe2 => k_is)
    (case qf2 => k_is)
    (case qg2 => k_is)
    (case qh2 => k_is)
    (case qi2 => k_is)
    (case qj2 => k_is)
    (case a1 => k_is)
    (case l1 => k_is)
    (case c1 => k_is)
    (case k1 => k_is)
    (case a2 => k_is)
    (case l2 => k_is)
    (case c2 => k_is)
    (case k2 => k_is)
    (case a3 => k_is)
    (case l3 => k_is)
    (case c3 => k_is)
    (case k3 => k_is)
    (case a4 => k_is)
    (case l4 => k_is)
    (case c4 => k_is)
    (case k4 => k_is)
    (case a5 => k_is)
    (case l5 => k_is)
    (case c5 => k_is)
    (case k5 => k_is)
    (case a6 => k_is)
    (case l6 => k_is)
    (case c6 => k_is)
    (case k6 => k_is)
    (case a7 => k_is)
    (case l7 => k_is)
    (case c7 => k_is)
    (case k7 => k_is)
    (case a8 => k_is)
    (case l8 => k_is)
    (case c8 => k_is)
    (case k8 => k_is)
    (case a9 => k_is)
    (case l9 => k_is)
    (case c9 => k_is)
    (case k9 => k_is)
    (case a10 => k_is)
    (case l10 => k_is)
    (case c10 => k_is)
    (case k10 => k_is)
    (case c11 => k_is)
    (case k11 => k_is)
    (case a12 => k_is)
    (case l12 => k_is)
    (case c12 => k_is)
    (case k12 => k_is)
    (case a13 => k_is)
    (case l13 => k_is)
    (case c13 => k_is)
    (case k13 => k_is)
    (case a14 => k_is)
    (case l14 => k_is)
    (case c14 => k_is)
    (case k14 => k_is)
    (case a15 => k_is)
    (case l15 => k_is)
    (case c15 => k_is)
    (case k15 => k_is)
    (case a16 => k_is)
    (case l16 => k_is)
    (case c16 => k_is)
    (case k16 => k_is)
    (case a17 => k_is)
    (case l17 => k_is)
    (case c17 => k_is)
    (case k17 => k_is)
    (case a18 => k_is)
    (case l18 => k_is)
    (case c18 => k_is)
    (case k18 => k_is)
    (case a19 => k_is)
    (case l19 => k_is)
    (case c19 => k_is)
    (case k19 => k_is)
    (case a20 => k_is)
    (case l20 => k_is)
    (case c20 => k_is)
    (case k20 => k_is)
    (case a21 => k_is)
    (case l21 => k_is)
    (case c21 => k_is)
    (case k21 => k_is)
    (case a22 => k_is)
    (case l22 => k_is)
    (case c22 => k_is)
    (case k22 => k_is)
    (case a23 => k_is)
    (case l23 => k_is)
    (case c23 => k_is)
    (case k23 => k_is)
    (case a24 => k_is)
    (case l24 => k_is)
    (case c24 => k_is)
    (case k24 => k_is)
    (case a25 => k_is)
    (case l25 => k_is)
    (case c25 => k_is)
    (case k25 => k_is)
    (case a26 => k_is)
    (case l26 => k_is)
    (case c26 => k_is)
    (case k26 => k_is)
    (case a27 => k_is)
    (case l27 => k_is)
    (case c27 => k_is)
    (case k27 => k_is)
    (case ma2 => k_is)
    (case mb2 => k_is)
    (case mc2 => k_is)
    (case na0 => k_is)
    (case me0 => k_is)
    (case me1 => k_is)
    (case me2 => k_is)
    (case me3 => k_is)
    (case me4 => k_is)
    (case fn0 => k_is)
    (case ra0 => k_is)
    (case rb0 => k_is)
    (case uc0 => k_is)
    (case uc1 => k_is)
    (case qt2 => k_is)
    (case kt0 => k_is)
    (case kt1 => k_is)
    (case ta0 => k_is)
    (case tb0 => k_is)
    (case ta1 => k_is)
    (case tb1 => k_is)
    (case da0 => k_is)
    (case db0 => k_is)
    (case dc0 => rfl)
    (case eM22 => rfl)
    (case es22 => k_is)
    (case et22 => k_is)
    (case ev22 => k_is)
    (case eu22 => ks_is)
    (case ek22 => k_is)
    (case eo22 => k_is)
    (case ep22 => rfl)
    (case en22 => k_is)
    (case ec22 => k_is)
    (case ef22 => rfl)
    (case eg22 => first | rfl | decide +kernel)
    (case eh22 => k_is)
    (case ya22 => k_is)
    (case yb22 => k_is)
    (case yc22 => k_is)
    (case yd22 => k_is)
    (case ye22 => k_is)
    (case yf22 => k_is)
    (case yn0 => k_is)
    (case yq0 => rfl)
    (case yk0 => k_is)
    (case yk1 => k_is)
    (case xc22 => k_is)
    (case xd22 => k_is)
    (case xe22 => k_is)
    (case xf22 => k_is)
    (case xc20 => k_is)
    (case xd20 => k_is)
    (case xe20 => k_is)
    (case xf20 => k_is)
    (case xm0 => k_is)
    (case lh0 => kernel_rfl)
    (case ln0 => kernel_rfl)
    (case lz0 => first | rfl | decide +kernel)
    (case lt0 => exact hT8 _ (by first | k_mem | simp))
    (case ltd => first | rfl | decide +kernel)
    (case z1 => k_is)
    (case z2 => k_is)
    (case z3 => k_is)
    (case z4 => k_is)
    (case z5 => k_is)
    (case z6 => k_is)
    (case z7 => k_is)
    (case z8 => k_is)
    (case z9 => k_is)
    (case z10 => k_is)
    (case z11 => k_is)
    (case z12 => k_is)
    (case z13 => k_is)
    (case z14 => k_is)
