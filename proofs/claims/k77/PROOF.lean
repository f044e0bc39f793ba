import PyProof.Rows.All
import KE.OsRunLaw
import KE.KNestM
import KE.KSortTup
import Wide.All
import OpenK.AllK
import Wide.FinOn
import HandS.ForMost
import HandS.ForExc
import HandS.Wide
import HandS.IsInst
import HandS.CallSlots
import HandS.Defaults
import HandS.Evl
import HandS.Lambda
import KE.KDictKeyed
import KE.KeyNested
import HandS.ExcCtx
import HandS.TryMany
import HandS.TryOnly
import HandS.Style
import HandS.TupAny
import HandS.Text
import HandS.More
import HandS.SortInts
import HandS.FStr
import HandS.Iter
import KE.GoesEnum
import KE.GoesMore
import HandS.Property
import HandS.ExcOwn
import HandS.ExcIs
import HandS.ClsMeth
import HandS.Dict
import KE.GoesZip
import HandS.OwnIter
import HandS.IterNext
import HandS.IterVal
import HandS.TupLe
import KE.KExcSuper
import HandS.ExcField
import HandS.ExcInit
import HandS.RaiseFrom
import KE.KExcIs
import HandS.RaiseMore
import KE.KCallOwn
import HandS.TupMul
import HandS.Codes
import HandS.SetFor
import HandS.SortKw
import KE.DataMinMax
import KE.SortKeyHeap
import HandS.EndTab
import HandS.Conv
import KE.GoesSet
import HandS.Strs
import KE.KOpsOwn
import HandS.Star
import HandS.Zip
import HandS.Sort
import HandS.Small
import KE.KExcRaise
import HandS.Finally
import HandS.SuiteRaise
import KE.KWithOwn
import HandS.HotCalls
import KE.GoesEnumKw
import HandS.OwnEq
import HandS.Nested
import HandS.MakeKwOnly
import KE.KSuper
import KE.KDictDisplayH
import HandS.Deep
import HandS.Replace
import HandS.RevRange
import KE.KxField
import HandS.StrMore
import HandS.GenList
import KE.KParD
import HandS.ListItems
import HandS.DictComp
import KE.KDictCopyH
import HandS.SortOrd
import KE.SortData
import PySem.Challenge.RW_onecable_k77_whole_ranks_fall_whatever_i
set_option linter.all false
namespace Seg
open PySem PySem.W PyProof.Rows HeadRun
noncomputable section
def frT {α : Type} (t : PySem.W.BT) : (PySem.W.BT → α) → α := match t with
  | .nil => fun k => k .nil
  | .node v l r => fun k => frT l fun l' => frT r fun r' => k (.node v l' r')
theorem frT_eq {α : Type} : ∀ (t : PySem.W.BT) (k : PySem.W.BT → α), frT t k = k t
  | .nil, k => rfl
  | .node v l r, k => by
    show (frT l fun l' => frT r fun r' => k (.node v l' r')) = _
    rw [frT_eq l, frT_eq r]
def frAll {α : Type} (s : SharedT) (k : SharedT → α) : α := match s with
  | ⟨T, n, life, gens, drawn, toks, os⟩ => frT T fun T => frNat n fun n => frNat toks fun toks => k ⟨T, n, life, gens, drawn, toks, os⟩
theorem frAll_eq {α : Type} (s : SharedT) (k : SharedT → α) : frAll s k = k s := by
  obtain ⟨T, n, life, gens, drawn, toks, os⟩ := s
  show (frT T fun T => frNat n fun n => frNat toks fun toks => k ⟨T, n, life, gens, drawn, toks, os⟩) = _
  rw [frT_eq, frNat_eq, frNat_eq]
abbrev R := Nat × SharedT × Thread
def qq (i : Nat) (a b : Nat) : Sem Unit := .pure ()
def G0 : Ctx := ⟨default, none, none, [], none⟩
def A0 : Around := ⟨none, frameCount [] + G0.code.weight, none, none, G0.units⟩
theorem in0 : G0.In A0 := ⟨rfl, Nat.le_refl _, (fun l (h : none = some l) => nomatch h), (fun l (h : none = some l) => nomatch h), Nat.le_refl _⟩
def cmpX (M : Model) (i j : Nat) (C : Bool → Shared → Prop) (s : Shared) : Prop := wpAny M A0 (qq i i j) (fun _ s' => C true s') (fun _ _ => True) s
theorem cmpX_out {M : Model} {i j : Nat} {C : Bool → Shared → Prop} {s : Shared} (h : cmpX M i j C s) : C true s := h G0 default in0
theorem cmpX_in {M : Model} {i : Nat} {C : Bool → Shared → Prop} {s : Shared} (h : C true s) : wpAny M A0 (qq i i i) (fun _ s' => C true s') (fun _ _ => True) s := fun _ _ _ => h
section
variable (st : SharedT → Thread → Option (SharedT × Thread)) (n0 : Nat) (ann : Option Value)
def goK : Nat → SharedT → Thread → KasT (Option R)
  | 0, s, t => frAll s fun s => .ask 0 0 fun _ => .ret (some (n0, s, t))
  | m + 1, s, t => match through t with
    | true => .ret none
    | false => match stepOk n0 ann t with
      | false => .ret none
      | true => match st s t with
        | some (s', t') => frS s' fun s' => goK m s' t'
        | none => .ret none
end
theorem kas_in {α : Type} {cmp : Nat → Nat → (Bool → Shared → Prop) → Shared → Prop} {k : Bool → KasT α} {Q : α → Shared → Prop} {a : α} {s : Shared} (e : k true = .ret a) (h : Q a s) : KasNext cmp k Q true s := by
  unfold KasNext; rw [e]; exact h
theorem goK_ok {M : Model} {sh : Shared} {st : SharedT → Thread → Option (SharedT × Thread)} {n0 n1 : Nat} {ann : Option Value} {a : SharedT} {b : Thread} :
    ∀ {K : Nat} {s : SharedT} {t : Thread}, (goK st n0 ann K s t).kasWp (cmpX M) (fun x _ => x = some (n1, a, b)) sh → n1 = n0 ∧ ∀ m, goF st n0 ann (m + K) s t = goF st n0 ann m a b
  | 0, s, t, h => by
    have h1 : (frAll s fun s => (.ask 0 0 fun _ => .ret (some (n0, s, t)) : KasT (Option R))).kasWp (cmpX M) (fun x _ => x = some (n1, a, b)) sh := h
    rw [frAll_eq] at h1
    have h2 := cmpX_out h1
    have h3 : some (n0, s, t) = some (n1, a, b) := h2
    cases h3
    exact ⟨rfl, fun m => rfl⟩
  | K + 1, s, t, h => by
    have h1 : (match through t with
      | true => (.ret none : KasT (Option R))
      | false => match stepOk n0 ann t with
        | false => .ret none
        | true => match st s t with
          | some (s', t') => frS s' fun s' => goK st n0 ann K s' t'
          | none => .ret none).kasWp (cmpX M) (fun x _ => x = some (n1, a, b)) sh := h
    have e1 : ∀ m, goF st n0 ann (m + (K + 1)) s t = match through t with
      | true => some s
      | false => match stepOk n0 ann t with
        | false => none
        | true => match st s t with
          | some (s', t') => frS s' fun s' => goF st n0 ann (m + K) s' t'
          | none => none := fun m => rfl
    cases c1 : through t with
    | true => rw [c1] at h1; have h2 : (none : Option R) = some (n1, a, b) := h1; cases h2
    | false =>
      rw [c1] at h1
      cases c2 : stepOk n0 ann t with
      | false => rw [c2] at h1; have h2 : (none : Option R) = some (n1, a, b) := h1; cases h2
      | true =>
        rw [c2] at h1
        cases c3 : st s t with
        | none => rw [c3] at h1; have h2 : (none : Option R) = some (n1, a, b) := h1; cases h2
        | some r =>
          obtain ⟨s', t'⟩ := r
          rw [c3] at h1
          have h2 : (frS s' fun s' => goK st n0 ann K s' t').kasWp (cmpX M) (fun x _ => x = some (n1, a, b)) sh := h1
          rw [frS_eq] at h2
          obtain ⟨q1, q2⟩ := goK_ok h2
          refine ⟨q1, fun m => ?_⟩
          rw [e1 m, c1]
          show (match stepOk n0 ann t with
            | false => none
            | true => match st s t with
              | some (s', t') => frS s' fun s' => goF st n0 ann (m + K) s' t'
              | none => none) = _
          rw [c2]
          show (match st s t with
              | some (s', t') => frS s' fun s' => goF st n0 ann (m + K) s' t'
              | none => none) = _
          rw [c3]
          show (frS s' fun s' => goF st n0 ann (m + K) s' t') = _
          rw [frS_eq, q2]
def endK (st : SharedT → Thread → Option (SharedT × Thread)) (K : Nat) (p : Program) (w : World) (os : OsState) : KasT (Option R) := match putAll (boot_heap w.params).objs.toList .nil 0 with
  | some (t, n) => frNat n fun n0 => goK st n0 (bootAnn w) K (bootT w os (t, n0)) (topStub p)
  | none => .ret none
theorem endK_ok {M : Model} {sh : Shared} {st : SharedT → Thread → Option (SharedT × Thread)} {p : Program} {w : World} {os : OsState} {n1 : Nat} {a : SharedT} {b : Thread} {K : Nat}
    (h : (endK st K p w os).kasWp (cmpX M) (fun x _ => x = some (n1, a, b)) sh) (m : Nat) : endF st (m + K) p w os = goF st n1 (bootAnn w) m a b := by
  unfold endK at h
  unfold endF
  cases e : putAll (boot_heap w.params).objs.toList .nil 0 with
  | none => rw [e] at h; have h2 : (none : Option R) = some (n1, a, b) := h; cases h2
  | some r =>
    obtain ⟨t, n⟩ := r
    rw [e] at h
    have h1 : (frNat n fun n0 => goK st n0 (bootAnn w) K (bootT w os (t, n0)) (topStub p)).kasWp (cmpX M) (fun x _ => x = some (n1, a, b)) sh := h
    rw [frNat_eq] at h1
    obtain ⟨q1, q2⟩ := goK_ok h1
    subst q1
    show (frNat n1 fun n0 => goF st n0 (bootAnn w) (m + K) (bootT w os (t, n0)) (topStub p)) = _
    rw [frNat_eq]
    exact q2 m
structure Mid (F : Nat → Option SharedT) (st : SharedT → Thread → Option (SharedT × Thread)) (ann : Option Value) (K : Nat) where
  num : Nat
  sta : SharedT
  thr : Thread
  ok : ∀ m, F (m + K) = goF st num ann m sta thr
def mid1 {M : Model} {sh : Shared} {st : SharedT → Thread → Option (SharedT × Thread)} {p : Program} {w : World} {os : OsState} {n1 : Nat} {a : SharedT} {b : Thread} {K : Nat}
    (h : (endK st K p w os).kasWp (cmpX M) (fun x _ => x = some (n1, a, b)) sh) : Mid (fun m => endF st m p w os) st (bootAnn w) K := ⟨n1, a, b, endK_ok h⟩
def mid2 {M : Model} {sh : Shared} {st : SharedT → Thread → Option (SharedT × Thread)} {F : Nat → Option SharedT} {ann : Option Value} {n1 : Nat} {a : SharedT} {b : Thread} {J K : Nat} (x : Mid F st ann J)
    (h : (goK st x.num ann K x.sta x.thr).kasWp (cmpX M) (fun x _ => x = some (n1, a, b)) sh) : Mid F st ann (J + K) := ⟨n1, a, b, fun m => by
      obtain ⟨q1, q2⟩ := goK_ok h
      have e := x.ok (m + K)
      rw [show m + K + J = m + (J + K) by omega] at e
      rw [e, q2, q1]⟩
theorem Mid.use {st : SharedT → Thread → Option (SharedT × Thread)} {p : Program} {w : World} {os : OsState} {K : Nat} {ann : Option Value} {α : Type} {g : SharedT → α} {c : Option α} (x : Mid (fun m => endF st m p w os) st ann K) {M m : Nat}
    (e : M = m + K) (h : (goF st x.num ann m x.sta x.thr).map g = c) : (endF st M p w os).map g = c := by
  rw [e, x.ok m]; exact h
end
end Seg

set_option linter.all false
section HeadX
set_option Elab.async false
open PySem PySem.W PyProof.Rows
namespace Hd
theorem split3 {S A B C : Type} {o : Option S} {f : S → A} {g : S → B} {h : S → C} {a : A} {b : B} {c : C} (h1 : o.map f = some a) (h2 : o.map g = some b) (h3 : o.map h = some c) : o.map (fun s => (f s, g s, h s)) = some (a, b, c) := by
  cases o with
  | none => cases h1
  | some x => simp only [Option.map_some, Option.some.injEq] at *; subst h1 h2 h3; rfl
theorem split9 {S A1 A2 A3 A4 A5 A6 A7 A8 A9 : Type} {o : Option S} {g1 : S → A1} {g2 : S → A2} {g3 : S → A3} {g4 : S → A4} {g5 : S → A5} {g6 : S → A6} {g7 : S → A7} {g8 : S → A8} {g9 : S → A9} {b1 : A1} {b2 : A2} {b3 : A3} {b4 : A4} {b5 : A5} {b6 : A6} {b7 : A7} {b8 : A8} {b9 : A9}
  (h1 : o.map g1 = some b1) (h2 : o.map g2 = some b2) (h3 : o.map g3 = some b3) (h4 : o.map g4 = some b4) (h5 : o.map g5 = some b5) (h6 : o.map g6 = some b6) (h7 : o.map g7 = some b7) (h8 : o.map g8 = some b8) (h9 : o.map g9 = some b9) : o.map (fun s => (g1 s, g2 s, g3 s, g4 s, g5 s, g6 s, g7 s, g8 s, g9 s)) = some (b1, b2, b3, b4, b5, b6, b7, b8, b9) := by
  cases o with
  | none => cases h1
  | some x => simp only [Option.map_some, Option.some.injEq] at *; subst h1 h2 h3 h4 h5 h6 h7 h8 h9; rfl
@[reducible] def Dep {p : Prop} (h : p) (q : Prop) : Prop := q
theorem undep {p : Prop} {h : p} {q : Prop} {G : q → Prop} (H : ∀ x : q, G x) : ∀ x : Dep h q, G x := H
structure Head (H : Prop) where
  E : Params → Prop
  D : (∀ P, E P) → Prop
  A : World → OsState → Prop
  C : World → OsState → Prop
  B1 : World → OsState → Prop
  B2 : World → OsState → Prop
  B3 : World → OsState → Prop
  B4 : World → OsState → Prop
  B5 : World → OsState → Prop
  B6 : World → OsState → Prop
  B7 : World → OsState → Prop
  B8 : World → OsState → Prop
  B9 : World → OsState → Prop
  ok : (∀ w os, A w os) → (∀ w os, C w os) → (∀ w os, B1 w os) → (∀ w os, B2 w os) → (∀ w os, B3 w os) → (∀ w os, B4 w os) → (∀ w os, B5 w os) → (∀ w os, B6 w os) → (∀ w os, B7 w os) → (∀ w os, B8 w os) → (∀ w os, B9 w os) → (hD : ∀ x, D x) → Dep hD (∀ P, E P) → H
end Hd
section
set_option hygiene false in
local macro_rules | `(tactic| kernel_rfl) => `(tactic| first | (rename_i P2; exact hE P2) | (with_reducible refine Hd.split3 ?a ?b ?c; (case a => rename_i w2 os2; exact hA w2 os2); (case b => rename_i w2 os2; unfold HeadRun.seenQ PySem.W.Fast.tw4187177175401517315 PySem.W.openGood; refine Hd.split9 ?b1 ?b2 ?b3 ?b4 ?b5 ?b6 ?b7 ?b8 ?b9; (case b1 => exact hB1 w2 os2); (case b2 => exact hB2 w2 os2); (case b3 => exact hB3 w2 os2); (case b4 => exact hB4 w2 os2); (case b5 => exact hB5 w2 os2); (case b6 => exact hB6 w2 os2); (case b7 => exact hB7 w2 os2); (case b8 => exact hB8 w2 os2); (case b9 => exact hB9 w2 os2)); (case c => rename_i w2 os2; exact hC w2 os2)))
set_option maxRecDepth 100000 in
set_option maxHeartbeats 0 in
noncomputable def HX : Hd.Head PySem.Challenge.rw_onecable_k77_whole_ranks_fall_whatever_i.Holds := by
  refine' ⟨_, _, _, _, _, _, _, _, _, _, _, _, _, fun hA hC hB1 hB2 hB3 hB4 hB5 hB6 hB7 hB8 hB9 hD hE => _⟩
  rotate_left 13
  w_on; o_law; k_headL; (case hw => w_witness2)
  revert hE
  refine Hd.undep ?_
  intro e0
  exact hD e0
end
set_option maxRecDepth 100000
section
open HeadRun
abbrev HXp : Program := PySem.Challenge.rw_onecable_k77_whole_ranks_fall_whatever_i.row.prog
noncomputable abbrev HXst (w : World) := stepQ (denQ tabQ) HXp w
noncomputable abbrev HXf (w : World) (os : OsState) := fun m => endF (HXst w) m HXp w os
set_option maxHeartbeats 0
noncomputable def HXm1 (w : World) (os : OsState) : Seg.Mid (HXf w os) (HXst w) (bootAnn w) (3017) := by
  refine Seg.mid1 (M := model HXp w) (sh := ⟨{}, #[], {}, 1, os⟩) (n1 := ?n) (a := ?a) (b := ?b) ?h
  case h => (kat_step; refine Seg.cmpX_in ?_; refine Seg.kas_in (by with_reducible exact rfl) ?_; exact rfl)
noncomputable def HXm2 (w : World) (os : OsState) : Seg.Mid (HXf w os) (HXst w) (bootAnn w) (3017 + 3017) := by
  refine Seg.mid2 (M := model HXp w) (sh := ⟨{}, #[], {}, 1, os⟩) (n1 := ?n) (a := ?a) (b := ?b) (HXm1 w os) ?h
  case h => (kat_step; refine Seg.cmpX_in ?_; refine Seg.kas_in (by with_reducible exact rfl) ?_; exact rfl)
end
theorem HX0 : ∀ w os, HX.A w os ∧ HX.C w os ∧ HX.B2 w os ∧ HX.B5 w os ∧ HX.B7 w os ∧ HX.B9 w os := by
  intro w os; unfold HX
  refine ⟨?_, ?_, ?_, ?_, ?_, ?_⟩ <;> (change _ = _; refine Seg.Mid.use (HXm2 w os) (M := 12268) (m := 6234) rfl ?_; kernel_rfl)
theorem HX1 : ∀ w os, HX.B3 w os ∧ HX.B8 w os := by
  intro w os; unfold HX
  refine ⟨?_, ?_⟩ <;> (change _ = _; refine Seg.Mid.use (HXm2 w os) (M := 12268) (m := 6234) rfl ?_; kernel_rfl)
theorem HX2 : ∀ w os, HX.B1 w os := by
  intro w os; unfold HX
  change _ = _; refine Seg.Mid.use (HXm2 w os) (M := 12268) (m := 6234) rfl ?_; kernel_rfl
theorem HX3 : ∀ w os, HX.B4 w os := by
  intro w os; unfold HX
  change _ = _; refine Seg.Mid.use (HXm2 w os) (M := 12268) (m := 6234) rfl ?_; kernel_rfl
theorem HX4 : ∀ w os, HX.B6 w os := by
  intro w os; unfold HX
  change _ = _; refine Seg.Mid.use (HXm2 w os) (M := 12268) (m := 6234) rfl ?_; kernel_rfl
theorem HXE : ∀ P, HX.E P := by
  intro P; unfold HX; change _ = _; kernel_rfl
end HeadX

set_option Elab.async false
set_option linter.all false
set_option maxRecDepth 100000
set_option maxHeartbeats 4000000
namespace Mz
open PySem PySem.Spec PyProof.Rows L2

inductive W where
  | non | bl (b : Bool) | int (i : Int) | str (x : Str)
  | tup (xs : List W) | lst (xs : List W) | ro (xs : List W)
  | dct (ks : List Key) (ws : List W)
  | ins (c : Nat) (ns : List Str) (ws : List W)
  | cls (c : Nat)

inductive Sl where
  | v (w : W) | l (n : Nat) | o (n : Nat) | t (ns : List Nat) | q (k : Nat) (w : W) | z (ws : List W) (n : Nat)

inductive Lo where
  | lst (xs : List W)
  | dct (ks : List Key) (ws : List W)
  | dn (ks : List W) (ws : List W)
  | dead
mutual
def nkOf : W → Option NestedKey
  | .int i => some (.num i)
  | .tup xs => (nksOf xs).map .tup
  | .non | .bl _ | .str _ | .lst _ | .ro _ | .dct _ _ | .ins _ _ _ | .cls _ => none
def nksOf : List W → Option (List NestedKey)
  | [] => some []
  | x :: xs => (nkOf x).bind fun k => (nksOf xs).map fun ks => k :: ks
end
def NdR (a : Addr) (xs : List (NestedKey × Addr × Value)) (h : Heap) : Prop := ∀ (P : Program) (w : World), ∃ o es ep, h.get? a = some o ∧ o.ExactDict ∧ o.data = .dict es ep ∧ es.toList = xs.map (entryOfKey (nestedKind P w)) ∧ (xs.map (·.1)).Nodup
def NdO (a : Addr) (xs : List (NestedKey × Addr × Value)) : HO := .ext (NdR a xs)
structure NdC (a : Addr) (xs : List (NestedKey × Addr × Value)) : Prop where
  depth : ∀ x ∈ xs, x.1.depth ≤ 8
  size : xs.length ≤ sizeLine
  sys : (a == sysModules) = false
  code : ∀ p q, NdO a xs ≠ LamX.CodeO p q

structure In where
  c : Nat
  ns : List Str
  vs : List Sl

structure Store where
  l : List Lo
  o : List In

structure Mp where
  l : List Addr
  o : List Addr

structure Tx where
  K : PySem.W.Frag
  cl : Nat → Addr

mutual
def Rep (T : Tx) (G : Hp) : W → V → Prop
  | .non, v => v = .non
  | .bl b, v => v = .bl b
  | .int i, v => v = .int i
  | .str x, v => v = .str x
  | .cls c, v => v = .ref (T.cl c)
  | .tup xs, v => ∃ a vs, v = .ref a ∧ SqT T.K G a vs ∧ Reps T G xs vs
  | .lst xs, v => ∃ a vs, v = .ref a ∧ G a = some (.lst vs) ∧ Reps T G xs vs
  | .ro xs, v => ∃ a vs, v = .ref a ∧ SqL T.K G a vs ∧ Reps T G xs vs
  | .dct ks ws, v => ∃ a vs, v = .ref a ∧ G a = some (.dK (ks.zip vs)) ∧ ks.length = vs.length ∧ Reps T G ws vs
  | .ins c ns ws, v => ∃ a dx vs, v = .ref a ∧ G a = some (.ins (T.cl c) dx (ns.zip vs)) ∧ ns.length = vs.length ∧ Reps T G ws vs
def Reps (T : Tx) (G : Hp) : List W → List V → Prop
  | [], vs => vs = []
  | x :: xs, vs => ∃ v r, vs = v :: r ∧ Rep T G x v ∧ Reps T G xs r
end
def TuR (ρ : Mp) (ns : List Nat) (us : List V) : Prop := ns.length = us.length ∧ ∀ (i n : Nat), ns[i]? = some n → ∃ b, ρ.l[n]? = some b ∧ us[i]? = some (.ref b)
def SlR (T : Tx) (ρ : Mp) (G : Hp) : Sl → V → Prop
  | .v w, u => Rep T G w u
  | .l n, u => ∃ a, ρ.l[n]? = some a ∧ u = .ref a
  | .o n, u => ∃ a, ρ.o[n]? = some a ∧ u = .ref a
  | .t ns, u => ∃ a us, u = .ref a ∧ SqT T.K G a us ∧ TuR ρ ns us
  | .q k w, u => ∃ a b v, u = .ref a ∧ G a = some (.lst [.ref b, v]) ∧ ρ.o[k]? = some b ∧ Rep T G w v
  | .z ws n, u => ∃ a us b, u = .ref a ∧ G a = some (.lst (us ++ [.ref b])) ∧ ρ.l[n]? = some b ∧ Reps T G ws us
def SlRs (T : Tx) (ρ : Mp) (G : Hp) : List Sl → List V → Prop
  | [], vs => vs = []
  | x :: xs, vs => ∃ v r, vs = v :: r ∧ SlR T ρ G x v ∧ SlRs T ρ G xs r

def LoR (T : Tx) (G : Hp) : Lo → HO → Prop
  | .lst xs, o => ∃ vs, o = .lst vs ∧ Reps T G xs vs
  | .dct ks ws, o => ∃ vs, o = .dK (ks.zip vs) ∧ ks.length = vs.length ∧ Reps T G ws vs
  | .dn ks ws, o => ∃ a xs vs, o = NdO a xs ∧ NdC a xs ∧ nksOf ks = some (xs.map (·.1)) ∧ Reps T G ks (xs.map fun x => .ref x.2.1) ∧ Vals vs (xs.map (·.2.2)) ∧ Reps T G ws vs
  | .dead, o => (∃ vs, o = .lst vs) ∨ ∃ kvs, o = .dK kvs
def InR (T : Tx) (ρ : Mp) (G : Hp) (x : In) (o : HO) : Prop :=
  ∃ dx us, o = .ins (T.cl x.c) dx (x.ns.zip us) ∧ x.ns.length = us.length ∧ SlRs T ρ G x.vs us

def tbN : Nat → Str
  | 0 => ("Rule.order" : Str) ++ ".<locals>." ++ "<lambda>"
  | 1 => ("run_rule" : Str) ++ ".<locals>." ++ "<lambda>"
  | _ => ""
def Fx (a : Addr) (o : HO) : Prop := (∃ ps, o = .tbl ps) ∨ ∃ q, o = LamX.CodeO a q
def TbOk (T : Tx) (H : Hp) : Prop := ∀ j, j < 2 → T.cl (900 + j) = 0 ∨ LamX.TabS H (T.cl (900 + j)) (tbN j)
theorem TbOk.to {T : Tx} {H H' : Hp} (t : TbOk T H) (h : ∀ a o, H a = some o → Fx a o → H' a = some o) : TbOk T H' := fun j hj => by
  rcases t j hj with e | ⟨ps, h1, h2, h3⟩
  · exact .inl e
  · refine .inr ⟨ps, h _ _ h1 (.inl ⟨ps, rfl⟩), h2, fun pos cv hc => ?_⟩
    obtain ⟨c, e1, e2⟩ := h3 pos cv hc
    exact ⟨c, e1, h _ _ e2 (.inr ⟨_, rfl⟩)⟩
theorem TbOk.upd {T : Tx} {H : Hp} (t : TbOk T H) {p : Addr} {u : HO} (h : ∀ o, H p = some o → ¬ Fx p o) : TbOk T (L2.upd H p u) := t.to fun a o e f => by
  by_cases z : a = p
  · subst z; exact absurd f (h o e)
  · rw [upd_ne z]; exact e
theorem nt_upd {G : Hp} (t : ∀ a ps, G a ≠ some (.tbl ps)) {p : Addr} {u : HO} (h : ∀ ps, u ≠ .tbl ps) : ∀ a ps, L2.upd G p u a ≠ some (.tbl ps) := fun a ps e => by
  by_cases z : a = p
  · subst z; rw [upd_same] at e; cases e; exact h ps rfl
  · rw [upd_ne z] at e; exact t a ps e
def noTb (H : Hp) : Hp := fun a => match H a with
  | some (.tbl _) => none
  | o => o
theorem noTb_nt {H : Hp} : ∀ a ps, noTb H a ≠ some (.tbl ps) := fun a ps e => by
  unfold noTb at e
  split at e
  · cases e
  · rename_i h; exact h ps e
theorem noTb_ext {H : Hp} : ∀ a o, noTb H a = some o → H a = some o := fun a o e => by
  unfold noTb at e
  split at e
  · cases e
  · exact e
theorem noTb_at {H : Hp} {a : Addr} {o : HO} (h : H a = some o) (n : ∀ ps, o ≠ .tbl ps) : noTb H a = some o := by
  unfold noTb
  split
  · rename_i ps e; rw [h] at e; cases e; exact absurd rfl (n ps)
  · exact h
theorem noTb_sql {K : PySem.W.Frag} {H : Hp} {a : Addr} {xs : List V} (h : SqL K H a xs) : SqL K (noTb H) a xs := by
  rcases h with (h | ⟨o, h⟩) | h
  · exact .inl (.inl (noTb_at h fun _ z => nomatch z))
  · exact .inl (.inr ⟨o, noTb_at h fun _ z => nomatch z⟩)
  · exact .inr h
theorem fx_none {H : Hp} {p : Addr} (h : H p = none) : ∀ o, H p = some o → ¬ Fx p o := fun o e => by rw [h] at e; cases e
theorem fx_lo {T : Tx} {G H : Hp} {p : Addr} {x : Lo} {u : HO} (h : H p = some u) (r : LoR T G x u) : ∀ o, H p = some o → ¬ Fx p o := fun o e f => by
  rw [h] at e; cases e
  cases x with
  | lst xs => obtain ⟨vs, rfl, _⟩ := r; rcases f with ⟨_, z⟩ | ⟨_, z⟩ <;> (try unfold LamX.CodeO at z) <;> cases z
  | dct ks ws => obtain ⟨vs, rfl, _⟩ := r; rcases f with ⟨_, z⟩ | ⟨_, z⟩ <;> (try unfold LamX.CodeO at z) <;> cases z
  | dn ks ws =>
    obtain ⟨a, xs, vs, rfl, hc, _⟩ := r
    rcases f with ⟨_, z⟩ | ⟨_, z⟩
    · unfold NdO at z; cases z
    · exact hc.code _ _ z
  | dead => rcases r with ⟨vs, rfl⟩ | ⟨vs, rfl⟩ <;> (rcases f with ⟨_, z⟩ | ⟨_, z⟩ <;> (try unfold LamX.CodeO at z) <;> cases z)
theorem fx_in {T : Tx} {ρ : Mp} {G H : Hp} {p : Addr} {x : In} {u : HO} (h : H p = some u) (r : InR T ρ G x u) : ∀ o, H p = some o → ¬ Fx p o := fun o e f => by
  rw [h] at e; cases e
  obtain ⟨dx, us, rfl, _⟩ := r
  rcases f with ⟨_, z⟩ | ⟨_, z⟩ <;> (try unfold LamX.CodeO at z) <;> cases z
structure Rel (T : Tx) (ρ : Mp) (G H : Hp) (st : Store) : Prop where
  ext : ∀ a o, G a = some o → H a = some o
  ll : ρ.l.length = st.l.length
  lo : ρ.o.length = st.o.length
  la : ∀ (n : Nat) (a : Addr) (x : Lo), ρ.l[n]? = some a → st.l[n]? = some x → (x ≠ .dead → G a = none) ∧ ∃ o, H a = some o ∧ LoR T G x o
  oa : ∀ (n : Nat) (a : Addr) (x : In), ρ.o[n]? = some a → st.o[n]? = some x → G a = none ∧ ∃ o, H a = some o ∧ InR T ρ G x o
  nl : ρ.l.Nodup
  no : ρ.o.Nodup
  tb : TbOk T H
  nt : ∀ a ps, G a ≠ some (.tbl ps)

def Le (ρ ρ' : Mp) : Prop := (∀ (n : Nat) (a : Addr), ρ.l[n]? = some a → ρ'.l[n]? = some a) ∧ ∀ (n : Nat) (a : Addr), ρ.o[n]? = some a → ρ'.o[n]? = some a
structure Fr (ρ ρ' : Mp) (G G' : Hp) : Prop where
  le : Le ρ ρ'
  ex : ∀ a o, G a = some o → G' a = some o
theorem Fr.refl (ρ : Mp) (G : Hp) : Fr ρ ρ G G := ⟨⟨fun _ _ h => h, fun _ _ h => h⟩, fun _ _ h => h⟩
theorem Fr.trans {ρ ρ1 ρ2 : Mp} {G G1 G2 : Hp} (a : Fr ρ ρ1 G G1) (b : Fr ρ1 ρ2 G1 G2) : Fr ρ ρ2 G G2 :=
  ⟨⟨fun n x h => b.le.1 n x (a.le.1 n x h), fun n x h => b.le.2 n x (a.le.2 n x h)⟩, fun x o h => b.ex x o (a.ex x o h)⟩

theorem sqt_mono {K : PySem.W.Frag} {G G' : Hp} (e : ∀ a o, G a = some o → G' a = some o) {a : Addr} {xs : List V} (h : SqT K G a xs) : SqT K G' a xs := Evl.ex_t e h
theorem sql_mono {K : PySem.W.Frag} {G G' : Hp} (e : ∀ a o, G a = some o → G' a = some o) {a : Addr} {xs : List V} (h : SqL K G a xs) : SqL K G' a xs := Evl.ex_l e h

mutual
theorem Rep.mono {T : Tx} {G G' : Hp} (e : ∀ a o, G a = some o → G' a = some o) : ∀ (w : W) (v : V), Rep T G w v → Rep T G' w v
  | .non, _, h => by unfold Rep at h ⊢; exact h
  | .bl _, _, h => by unfold Rep at h ⊢; exact h
  | .int _, _, h => by unfold Rep at h ⊢; exact h
  | .str _, _, h => by unfold Rep at h ⊢; exact h
  | .cls _, _, h => by unfold Rep at h ⊢; exact h
  | .tup xs, v, h => by unfold Rep at h ⊢; obtain ⟨a, vs, h1, h2, h3⟩ := h; exact ⟨a, vs, h1, sqt_mono e h2, Reps.mono e xs vs h3⟩
  | .lst xs, v, h => by unfold Rep at h ⊢; obtain ⟨a, vs, h1, h2, h3⟩ := h; exact ⟨a, vs, h1, e _ _ h2, Reps.mono e xs vs h3⟩
  | .ro xs, v, h => by unfold Rep at h ⊢; obtain ⟨a, vs, h1, h2, h3⟩ := h; exact ⟨a, vs, h1, sql_mono e h2, Reps.mono e xs vs h3⟩
  | .dct ks ws, v, h => by unfold Rep at h ⊢; obtain ⟨a, vs, h1, h2, h3, h4⟩ := h; exact ⟨a, vs, h1, e _ _ h2, h3, Reps.mono e ws vs h4⟩
  | .ins c ns ws, v, h => by unfold Rep at h ⊢; obtain ⟨a, dx, vs, h1, h2, h3, h4⟩ := h; exact ⟨a, dx, vs, h1, e _ _ h2, h3, Reps.mono e ws vs h4⟩
theorem Reps.mono {T : Tx} {G G' : Hp} (e : ∀ a o, G a = some o → G' a = some o) : ∀ (ws : List W) (vs : List V), Reps T G ws vs → Reps T G' ws vs
  | [], _, h => by unfold Reps at h ⊢; exact h
  | w :: ws, vs, h => by unfold Reps at h ⊢; obtain ⟨v, r, h1, h2, h3⟩ := h; exact ⟨v, r, h1, Rep.mono e w v h2, Reps.mono e ws r h3⟩
end
section
variable {T : Tx} {ρ ρ' : Mp} {G G' H : Hp}
theorem SlR.mono (f : Fr ρ ρ' G G') {s : Sl} {u : V} (h : SlR T ρ G s u) : SlR T ρ' G' s u := by
  cases s with
  | v w => exact Rep.mono f.ex w u h
  | l n => obtain ⟨a, h1, h2⟩ := h; exact ⟨a, f.le.1 _ _ h1, h2⟩
  | o n => obtain ⟨a, h1, h2⟩ := h; exact ⟨a, f.le.2 _ _ h1, h2⟩
  | t ns => obtain ⟨a, us, h1, h2, h3, h4⟩ := h; exact ⟨a, us, h1, sqt_mono f.ex h2, h3, fun i n e => by obtain ⟨b, q1, q2⟩ := h4 i n e; exact ⟨b, f.le.1 _ _ q1, q2⟩⟩
  | q k w => obtain ⟨a, b, v, h1, h2, h3, h4⟩ := h; exact ⟨a, b, v, h1, f.ex _ _ h2, f.le.2 _ _ h3, Rep.mono f.ex _ _ h4⟩
  | z ws n => obtain ⟨a, us, b, h1, h2, h3, h4⟩ := h; exact ⟨a, us, b, h1, f.ex _ _ h2, f.le.1 _ _ h3, Reps.mono f.ex _ _ h4⟩
theorem SlRs.mono (f : Fr ρ ρ' G G') : ∀ {ss : List Sl} {us : List V}, SlRs T ρ G ss us → SlRs T ρ' G' ss us
  | [], _, h => h
  | s :: ss, us, h => by obtain ⟨v, r, h1, h2, h3⟩ := h; exact ⟨v, r, h1, h2.mono f, SlRs.mono f h3⟩
theorem LoR.mono (e : ∀ a o, G a = some o → G' a = some o) {x : Lo} {o : HO} (h : LoR T G x o) : LoR T G' x o := by
  cases x with
  | lst xs => obtain ⟨vs, h1, h2⟩ := h; exact ⟨vs, h1, Reps.mono e xs vs h2⟩
  | dct ks ws => obtain ⟨vs, h1, h2, h3⟩ := h; exact ⟨vs, h1, h2, Reps.mono e ws vs h3⟩
  | dn ks ws => obtain ⟨a, xs, vs, h1, h6, h2, h3, h4, h5⟩ := h; exact ⟨a, xs, vs, h1, h6, h2, Reps.mono e ks _ h3, h4, Reps.mono e ws vs h5⟩
  | dead => exact h
theorem InR.mono (f : Fr ρ ρ' G G') {x : In} {o : HO} (h : InR T ρ G x o) : InR T ρ' G' x o := by
  obtain ⟨dx, us, h1, h2, h3⟩ := h; exact ⟨dx, us, h1, h2, h3.mono f⟩
theorem SlRs.length : ∀ {ss : List Sl} {us : List V}, SlRs T ρ G ss us → ss.length = us.length
  | [], _, h => by cases h; rfl
  | s :: ss, us, h => by obtain ⟨v, r, h1, h2, h3⟩ := h; rw [h1, List.length_cons, List.length_cons, SlRs.length h3]
theorem Reps.length : ∀ {ws : List W} {vs : List V}, Reps T G ws vs → ws.length = vs.length
  | [], _, h => by unfold Reps at h; cases h; rfl
  | s :: ss, us, h => by unfold Reps at h; obtain ⟨v, r, h1, h2, h3⟩ := h; rw [h1, List.length_cons, List.length_cons, Reps.length h3]
theorem Reps.nil : Reps T G [] [] := by unfold Reps; rfl
theorem Reps.cons {w : W} {ws : List W} {v : V} {vs : List V} (h : Rep T G w v) (hs : Reps T G ws vs) : Reps T G (w :: ws) (v :: vs) := by unfold Reps; exact ⟨v, vs, rfl, h, hs⟩
theorem Reps.append : ∀ {xs ys : List W} {us vs : List V}, Reps T G xs us → Reps T G ys vs → Reps T G (xs ++ ys) (us ++ vs)
  | [], _, _, _, h, g => by unfold Reps at h; cases h; exact g
  | x :: xs, ys, us, vs, h, g => by unfold Reps at h; obtain ⟨v, r, rfl, h2, h3⟩ := h; exact Reps.cons h2 (Reps.append h3 g)
theorem Reps.get : ∀ {xs : List W} {us : List V} {i : Nat} {u : V}, Reps T G xs us → us[i]? = some u → ∃ x, xs[i]? = some x ∧ Rep T G x u
  | [], _, _, _, h, e => by unfold Reps at h; cases h; simp at e
  | x :: xs, us, 0, u, h, e => by unfold Reps at h; obtain ⟨v, r, rfl, h2, h3⟩ := h; simp at e; subst e; exact ⟨x, rfl, h2⟩
  | x :: xs, us, i + 1, u, h, e => by unfold Reps at h; obtain ⟨v, r, rfl, h2, h3⟩ := h; have e' : r[i]? = some u := by simpa using e
                                      obtain ⟨y, h4, h5⟩ := Reps.get h3 e'; exact ⟨y, by simpa using h4, h5⟩
theorem Reps.get' : ∀ {xs : List W} {us : List V} {i : Nat} {x : W}, Reps T G xs us → xs[i]? = some x → ∃ u, us[i]? = some u ∧ Rep T G x u
  | [], _, _, _, h, e => by simp at e
  | y :: xs, us, 0, x, h, e => by unfold Reps at h; obtain ⟨v, r, rfl, h2, h3⟩ := h; simp at e; subst e; exact ⟨v, rfl, h2⟩
  | y :: xs, us, i + 1, x, h, e => by unfold Reps at h; obtain ⟨v, r, rfl, h2, h3⟩ := h; have e' : xs[i]? = some x := by simpa using e
                                      obtain ⟨u, h4, h5⟩ := Reps.get' h3 e'; exact ⟨u, by simpa using h4, h5⟩
theorem Reps.set : ∀ {xs : List W} {us : List V} {x : W} {u : V} (i : Nat), Reps T G xs us → Rep T G x u → Reps T G (xs.set i x) (us.set i u)
  | [], us, x, u, i, h, g => by unfold Reps at h; cases h; simp; exact Reps.nil
  | y :: xs, us, x, u, 0, h, g => by unfold Reps at h; obtain ⟨v, r, rfl, h2, h3⟩ := h; exact Reps.cons g h3
  | y :: xs, us, x, u, i + 1, h, g => by unfold Reps at h; obtain ⟨v, r, rfl, h2, h3⟩ := h; exact Reps.cons h2 (Reps.set i h3 g)
theorem Reps.take : ∀ {xs : List W} {us : List V} (i : Nat), Reps T G xs us → Reps T G (xs.take i) (us.take i)
  | [], us, i, h => by unfold Reps at h; cases h; simp; exact Reps.nil
  | y :: xs, us, 0, h => by simp; exact Reps.nil
  | y :: xs, us, i + 1, h => by unfold Reps at h; obtain ⟨v, r, rfl, h2, h3⟩ := h; exact Reps.cons h2 (Reps.take i h3)
theorem Reps.drop : ∀ {xs : List W} {us : List V} (i : Nat), Reps T G xs us → Reps T G (xs.drop i) (us.drop i)
  | [], us, i, h => by unfold Reps at h; cases h; simp; exact Reps.nil
  | y :: xs, us, 0, h => h
  | y :: xs, us, i + 1, h => by unfold Reps at h; obtain ⟨v, r, rfl, h2, h3⟩ := h; exact Reps.drop i h3
theorem Reps.eraseIdx : ∀ {xs : List W} {us : List V} (i : Nat), Reps T G xs us → Reps T G (xs.eraseIdx i) (us.eraseIdx i)
  | [], us, i, h => by unfold Reps at h; cases h; simp; exact Reps.nil
  | y :: xs, us, 0, h => by unfold Reps at h; obtain ⟨v, r, rfl, h2, h3⟩ := h; exact h3
  | y :: xs, us, i + 1, h => by unfold Reps at h; obtain ⟨v, r, rfl, h2, h3⟩ := h; exact Reps.cons h2 (Reps.eraseIdx i h3)
theorem Reps.reverse : ∀ {xs : List W} {us : List V}, Reps T G xs us → Reps T G xs.reverse us.reverse
  | [], us, h => by unfold Reps at h; cases h; exact Reps.nil
  | y :: xs, us, h => by
    unfold Reps at h; obtain ⟨v, r, rfl, h2, h3⟩ := h
    rw [List.reverse_cons, List.reverse_cons]; exact Reps.append (Reps.reverse h3) (Reps.cons h2 Reps.nil)
end

inductive Res (α : Type) where
  | ok (a : α) (st : Store) | ex (c : Nat) (ns : List Str) (ws : List W) (st : Store) | bad
def Res.bind {α β : Type} (r : Res α) (k : α → Store → Res β) : Res β :=
  match r with
  | .ok a st => k a st
  | .ex c ns ws st => .ex c ns ws st
  | .bad => .bad
abbrev Env := List (Option Sl)
inductive SR where
  | nx (env : Env) (st : Store) | rt (s : Sl) (st : Store) | bk (env : Env) (st : Store) | ct (env : Env) (st : Store)
  | ex (c : Nat) (ns : List Str) (ws : List W) (env : Env) (st : Store) | bad
abbrev ME := Env → Store → Res Sl
abbrev MT := Env → Store → Res Bool
abbrev MA := Env → Store → Res (List Sl)
abbrev MS := Env → Store → SR
abbrev MF := List Sl → Store → Res Sl

def EnvR (T : Tx) (ρ : Mp) (G : Hp) (env : Env) (σ : L2.St) : Prop :=
  env.length = σ.length ∧ ∀ (i : Nat) (s : Sl), env[i]? = some (some s) → ∃ u, σ[i]? = some (some u) ∧ SlR T ρ G s u
def ExR (T : Tx) (G : Hp) (ns : List Str) (ws : List W) (d : Option Addr) : Prop :=
  (ns = [] ∧ ws = [] ∧ d = none) ∨ ∃ dd vs, d = some dd ∧ G dd = some (.xd (ns.zip vs)) ∧ ns.length = vs.length ∧ Reps T G ws vs

def PostR {α β : Type} (T : Tx) (ρ : Mp) (G : Hp) (R : Mp → Hp → α → β → Prop) (r : Res α) (Q : β → Hp → Prop) (E : XK) : Prop :=
  match r with
  | .ok a st' => ∀ ρ' G' H' u, Fr ρ ρ' G G' → Rel T ρ' G' H' st' → R ρ' G' a u → Q u H'
  | .ex c ns ws st' => ∀ ρ' G' H' d, Fr ρ ρ' G G' → Rel T ρ' G' H' st' → ExR T G' ns ws d → E (.ref (T.cl c)) d H'
  | .bad => False
def PostS (T : Tx) (ρ : Mp) (G : Hp) (r : SR) (D : Ends) (Wx : WX) : Prop :=
  match r with
  | .nx env st' => ∀ ρ' G' H' σ', Fr ρ ρ' G G' → Rel T ρ' G' H' st' → EnvR T ρ' G' env σ' → D.nx σ' H'
  | .rt s st' => ∀ ρ' G' H' u, Fr ρ ρ' G G' → Rel T ρ' G' H' st' → SlR T ρ' G' s u → D.rt u H'
  | .bk env st' => ∀ ρ' G' H' σ', Fr ρ ρ' G G' → Rel T ρ' G' H' st' → EnvR T ρ' G' env σ' → D.bk σ' H'
  | .ct env st' => ∀ ρ' G' H' σ', Fr ρ ρ' G G' → Rel T ρ' G' H' st' → EnvR T ρ' G' env σ' → D.ct σ' H'
  | .ex c ns ws env st' => ∀ ρ' G' H' σ' d, Fr ρ ρ' G G' → Rel T ρ' G' H' st' → EnvR T ρ' G' env σ' → ExR T G' ns ws d → Wx (.ref (T.cl c)) d σ' H'
  | .bad => False

section
variable {T : Tx} {ρ ρ' : Mp} {G G' H : Hp} {α β γ δ : Type}
theorem PostR.mono {R : Mp → Hp → α → β → Prop} {r : Res α} {Q : β → Hp → Prop} {E : XK} (f : Fr ρ ρ' G G') (h : PostR T ρ G R r Q E) : PostR T ρ' G' R r Q E := by
  cases r with
  | ok a st => exact fun ρ1 G1 H1 u f1 => h ρ1 G1 H1 u (f.trans f1)
  | ex c ns ws st => exact fun ρ1 G1 H1 d f1 => h ρ1 G1 H1 d (f.trans f1)
  | bad => exact h
theorem PostS.mono {r : SR} {D : Ends} {Wx : WX} (f : Fr ρ ρ' G G') (h : PostS T ρ G r D Wx) : PostS T ρ' G' r D Wx := by
  cases r with
  | nx env st => exact fun ρ1 G1 H1 u f1 => h ρ1 G1 H1 u (f.trans f1)
  | rt s st => exact fun ρ1 G1 H1 u f1 => h ρ1 G1 H1 u (f.trans f1)
  | bk env st => exact fun ρ1 G1 H1 u f1 => h ρ1 G1 H1 u (f.trans f1)
  | ct env st => exact fun ρ1 G1 H1 u f1 => h ρ1 G1 H1 u (f.trans f1)
  | ex c ns ws env st => exact fun ρ1 G1 H1 σ' d f1 => h ρ1 G1 H1 σ' d (f.trans f1)
  | bad => exact h
theorem PostR.bind {R1 : Mp → Hp → α → β → Prop} {R2 : Mp → Hp → γ → δ → Prop} {r : Res α} {k : α → Store → Res γ} {Q : δ → Hp → Prop} {Q' : β → Hp → Prop} {E : XK}
    (h : PostR T ρ G R2 (r.bind k) Q E)
    (hk : ∀ a st' ρ' G' H' u, Fr ρ ρ' G G' → Rel T ρ' G' H' st' → R1 ρ' G' a u → PostR T ρ' G' R2 (k a st') Q E → Q' u H') : PostR T ρ G R1 r Q' E := by
  cases r with
  | ok a st => exact fun ρ1 G1 H1 u f1 rel r1 => hk a st ρ1 G1 H1 u f1 rel r1 (PostR.mono f1 h)
  | ex c ns ws st => exact h
  | bad => exact h
def EnvR.mono {env : Env} {σ : L2.St} (f : Fr ρ ρ' G G') (h : EnvR T ρ G env σ) : EnvR T ρ' G' env σ :=
  ⟨h.1, fun i s e => let ⟨u, h1, h2⟩ := h.2 i s e; ⟨u, h1, h2.mono f⟩⟩
theorem EnvR.set {env : Env} {σ : L2.St} {s : Sl} {u : V} (i : Nat) (h : EnvR T ρ G env σ) (r : SlR T ρ G s u) : EnvR T ρ G (env.set i (some s)) (σ.set i (some u)) := by
  refine ⟨by rw [List.length_set, List.length_set]; exact h.1, fun j s' e => ?_⟩
  by_cases hj : i = j
  · subst hj
    have hl : i < env.length := by
      by_cases q : i < env.length
      · exact q
      · rw [List.getElem?_eq_none (by rw [List.length_set]; omega)] at e; cases e
    rw [List.getElem?_set_self hl] at e
    cases e
    exact ⟨u, List.getElem?_set_self (by rw [← h.1]; exact hl), r⟩
  · rw [List.getElem?_set_ne hj] at e
    obtain ⟨u', h1, h2⟩ := h.2 j s' e
    exact ⟨u', by rw [List.getElem?_set_ne hj]; exact h1, h2⟩
theorem EnvR.unset {env : Env} {σ : L2.St} (i : Nat) (o : Option V) (h : EnvR T ρ G env σ) : EnvR T ρ G (env.set i none) (σ.set i o) := by
  refine ⟨by rw [List.length_set, List.length_set]; exact h.1, fun j s' e => ?_⟩
  by_cases hj : i = j
  · subst hj
    by_cases q : i < env.length
    · rw [List.getElem?_set_self q] at e; cases e
    · rw [List.getElem?_eq_none (by rw [List.length_set]; omega)] at e; cases e
  · rw [List.getElem?_set_ne hj] at e
    obtain ⟨u', h1, h2⟩ := h.2 j s' e
    exact ⟨u', by rw [List.getElem?_set_ne hj]; exact h1, h2⟩
end

def tM (T : Tx) (Wx : WX) (m : ME) : TE := fun σ H Q => ∃ env ρ G st, Rel T ρ G H st ∧ EnvR T ρ G env σ ∧ PostR T ρ G (SlR T) (m env st) Q fun c d H' => Wx c d σ H'
def tB (T : Tx) (Wx : WX) (m : MT) : TT := fun σ H Q => ∃ env ρ G st, Rel T ρ G H st ∧ EnvR T ρ G env σ ∧ PostR T ρ G (fun _ _ a b => a = b) (m env st) Q fun c d H' => Wx c d σ H'
def tL (T : Tx) (Wx : WX) (m : MA) : TA := fun σ H Q => ∃ env ρ G st, Rel T ρ G H st ∧ EnvR T ρ G env σ ∧ PostR T ρ G (SlRs T) (m env st) Q fun c d H' => Wx c d σ H'
def tS (T : Tx) (Wx : WX) (m : MS) : TS := fun D σ H => ∃ env ρ G st, Rel T ρ G H st ∧ EnvR T ρ G env σ ∧ PostS T ρ G (m env st) D Wx

section
variable {X : Cx}
theorem pe_weak {e : Expr} {t t' : TE} (h : PE X e t) (k : ∀ σ H Q, t' σ H Q → t σ H Q) : PE X e t' := ⟨fun pins s σ H Q I q => h.run pins s σ H Q I (k σ H Q q)⟩
theorem pt_weak {e : Expr} {t t' : TT} (h : PT X e t) (k : ∀ σ H Q, t' σ H Q → t σ H Q) : PT X e t' := ⟨fun pins s σ H Q I q => h.run pins s σ H Q I (k σ H Q q)⟩
theorem pw_weak {e : Expr} {t t' : TT} (h : PW X e t) (k : ∀ σ H Q, t' σ H Q → t σ H Q) : PW X e t' := ⟨fun w pins s σ H Q I q => h.run w pins s σ H Q I (k σ H Q q)⟩
theorem pa_weak {e : List Expr} {t t' : TA} (h : PA X e t) (k : ∀ σ H Q, t' σ H Q → t σ H Q) : PA X e t' := ⟨fun pos pins s σ H Q I q => h.run pos pins s σ H Q I (k σ H Q q)⟩
theorem ps_weak {e : Stmt} {t t' : TS} (h : PS X e t) (k : ∀ D σ H, t' D σ H → t D σ H) : PS X e t' := ⟨fun pins s σ H D I q => h.run pins s σ H D I (k D σ H q)⟩
theorem pss_weak {e : List Stmt} {t t' : TS} (h : PSs X e t) (k : ∀ D σ H, t' D σ H → t D σ H) : PSs X e t' := ⟨fun pins s σ H D I q => h.run pins s σ H D I (k D σ H q)⟩
theorem pts_weak {e : List Expr} {t t' : TT} (h : PTs X e t) (k : ∀ σ H Q, t' σ H Q → t σ H Q) : PTs X e t' := ⟨fun pins s σ H Q I q => h.run pins s σ H Q I (k σ H Q q)⟩
end

variable (X : Cx) (cl : Nat → Addr) (Wx : WX)
abbrev IE (X : Cx) (cl : Nat → Addr) (Wx : WX) (e : Expr) (m : ME) : Prop := PE X e (tM ⟨X.K, cl⟩ Wx m)
abbrev IT (X : Cx) (cl : Nat → Addr) (Wx : WX) (e : Expr) (m : MT) : Prop := PT X e (tB ⟨X.K, cl⟩ Wx m)
abbrev IW (X : Cx) (cl : Nat → Addr) (Wx : WX) (e : Expr) (m : MT) : Prop := PW X e (tB ⟨X.K, cl⟩ Wx m)
abbrev IA (X : Cx) (cl : Nat → Addr) (Wx : WX) (e : List Expr) (m : MA) : Prop := PA X e (tL ⟨X.K, cl⟩ Wx m)
abbrev IS (X : Cx) (cl : Nat → Addr) (Wx : WX) (e : Stmt) (m : MS) : Prop := PS X e (tS ⟨X.K, cl⟩ Wx m)
abbrev ISs (X : Cx) (cl : Nat → Addr) (Wx : WX) (e : List Stmt) (m : MS) : Prop := PSs X e (tS ⟨X.K, cl⟩ Wx m)
end Mz

set_option Elab.async false
set_option linter.all false
set_option maxRecDepth 100000
set_option maxHeartbeats 4000000
namespace Mz
open PySem PySem.Spec PyProof.Rows L2

abbrev big : Nat := 16777216
theorem big_line : sizeLine = big := sizeLine_eq
def Store.setl (st : Store) (n : Nat) (x : Lo) : Store := { st with l := st.l.set n x }
def Store.push (st : Store) (x : Lo) : Store := { st with l := st.l ++ [x] }
def Store.lget (st : Store) (n : Nat) : Option (List W) := match st.l[n]? with
  | some (.lst xs) => some xs
  | _ => none
theorem Store.lget_of {st : Store} {n : Nat} {xs : List W} (h : st.lget n = some xs) : st.l[n]? = some (.lst xs) := by
  unfold Store.lget at h
  split at h
  · cases h; assumption
  · cases h
def items (st : Store) : Sl → Option (List W)
  | .v (.lst xs) => some xs
  | .v (.ro xs) => some xs
  | .v (.tup xs) => some xs
  | .l n => st.lget n
  | _ => none
def litems (st : Store) : Sl → Option (List W)
  | .v (.lst xs) => some xs
  | .v (.ro xs) => some xs
  | .l n => st.lget n
  | _ => none

section
variable {T : Tx} {ρ ρ' : Mp} {G G' H : Hp} {st : Store}
theorem get_lt {α : Type} {xs : List α} {n : Nat} {x : α} (h : xs[n]? = some x) : n < xs.length := (List.getElem?_eq_some_iff.mp h).1
theorem Rel.oat (r : Rel T ρ G H st) {n : Nat} {x : In} (h : st.o[n]? = some x) : ∃ a, ρ.o[n]? = some a := by
  have hl := get_lt h
  rw [← r.lo] at hl
  exact ⟨ρ.o[n], List.getElem?_eq_getElem hl⟩
theorem Rel.lat' (r : Rel T ρ G H st) {n : Nat} {a : Addr} (h : ρ.l[n]? = some a) : ∃ x, st.l[n]? = some x := by
  have hl := get_lt h
  rw [r.ll] at hl
  exact ⟨st.l[n], List.getElem?_eq_getElem hl⟩
theorem Rel.oat' (r : Rel T ρ G H st) {n : Nat} {a : Addr} (h : ρ.o[n]? = some a) : ∃ x, st.o[n]? = some x := by
  have hl := get_lt h
  rw [r.lo] at hl
  exact ⟨st.o[n], List.getElem?_eq_getElem hl⟩
theorem nodup_get {α : Type} {xs : List α} (hn : xs.Nodup) {i j : Nat} {x : α} (hi : xs[i]? = some x) (hj : xs[j]? = some x) : i = j :=
  (List.getElem?_inj (get_lt hi) hn).mp (hi.trans hj.symm)
theorem fresh_G (r : Rel T ρ G H st) {p : Addr} (h : H p = none) : G p = none := by
  cases e : G p with
  | none => rfl
  | some o => rw [r.ext p o e] at h; cases h
theorem fresh_l (r : Rel T ρ G H st) {p : Addr} (h : H p = none) {n : Nat} {a : Addr} (hn : ρ.l[n]? = some a) : a ≠ p := by
  obtain ⟨x, hx⟩ := r.lat' hn
  obtain ⟨_, o, ho, _⟩ := r.la n a x hn hx
  exact ne_of_none ho h
theorem fresh_o (r : Rel T ρ G H st) {p : Addr} (h : H p = none) {n : Nat} {a : Addr} (hn : ρ.o[n]? = some a) : a ≠ p := by
  obtain ⟨x, hx⟩ := r.oat' hn
  obtain ⟨_, o, ho, _⟩ := r.oa n a x hn hx
  exact ne_of_none ho h
theorem lo_ne_ins {x : Lo} {o : HO} {C dx : Addr} {fs : List (Str × V)} (h : LoR T G x o) : o ≠ .ins C dx fs := by
  cases x with
  | lst xs => obtain ⟨vs, h1, _⟩ := h; rw [h1]; intro z; cases z
  | dct ks ws => obtain ⟨vs, h1, _⟩ := h; rw [h1]; intro z; cases z
  | dn ks ws => obtain ⟨a, xs, vs, h1, _⟩ := h; rw [h1]; unfold NdO; intro z; cases z
  | dead => rcases h with ⟨vs, h1⟩ | ⟨vs, h1⟩ <;> (rw [h1]; intro z; cases z)
theorem Rel.apart (r : Rel T ρ G H st) {n m : Nat} {a b : Addr} (hn : ρ.l[n]? = some a) (hm : ρ.o[m]? = some b) : a ≠ b := by
  obtain ⟨x, hx⟩ := r.lat' hn
  obtain ⟨_, o, ho, hr⟩ := r.la n a x hn hx
  obtain ⟨y, hy⟩ := r.oat' hm
  obtain ⟨_, o', ho', dx, us, e, _⟩ := r.oa m b y hm hy
  intro z
  subst z
  rw [ho] at ho'
  cases ho'
  exact lo_ne_ins hr e
theorem Rel.setl (r : Rel T ρ G H st) {n : Nat} {a : Addr} {x y : Lo} {o : HO} (hn : ρ.l[n]? = some a) (hr : LoR T G x o) (hy0 : st.l[n]? = some y) (hd : y ≠ .dead) : Rel T ρ G (upd H a o) (st.setl n x) := by
  have hx0 := hy0
  obtain ⟨hG, o0, ho0, hr0⟩ := r.la n a y hn hx0
  replace hG := hG hd
  refine ⟨fun b u e => ?_, ?_, r.lo, fun m b y hm hy => ?_, fun m b y hm hy => ?_, r.nl, r.no, r.tb.upd (fx_lo ho0 hr0), r.nt⟩
  · have hb : b ≠ a := fun z => by rw [z, hG] at e; cases e
    rw [upd_ne hb]; exact r.ext b u e
  · show ρ.l.length = (st.l.set n x).length
    rw [List.length_set]; exact r.ll
  · by_cases hmn : n = m
    · subst hmn
      rw [hn] at hm; cases hm
      have e : (st.l.set n x)[n]? = some x := List.getElem?_set_self (get_lt hx0)
      have hy' : (st.l.set n x)[n]? = some y := hy
      rw [e] at hy'; cases hy'
      exact ⟨fun _ => hG, o, upd_same, hr⟩
    · have hb : b ≠ a := fun z => hmn (nodup_get r.nl hn (z ▸ hm))
      have e : (st.l.set n x)[m]? = st.l[m]? := List.getElem?_set_ne hmn
      have hy' : (st.l.set n x)[m]? = some y := hy
      rw [e] at hy'
      obtain ⟨h1, o', h2, h3⟩ := r.la m b y hm hy'
      exact ⟨h1, o', by rw [upd_ne hb]; exact h2, h3⟩
  · obtain ⟨h1, o', h2, h3⟩ := r.oa m b y hm hy
    have hb : b ≠ a := fun z => r.apart hn hm z.symm
    exact ⟨h1, o', by rw [upd_ne hb]; exact h2, h3⟩
theorem Rel.junk (r : Rel T ρ G H st) {p : Addr} {o : HO} (h : H p = none) : Rel T ρ G (upd H p o) st := by
  refine ⟨fun b u e => ?_, r.ll, r.lo, fun m b y hm hy => ?_, fun m b y hm hy => ?_, r.nl, r.no, r.tb.upd (fx_none h), r.nt⟩
  · have e' := r.ext b u e
    rw [upd_ne (ne_of_none e' h)]; exact e'
  · obtain ⟨h1, o', h2, h3⟩ := r.la m b y hm hy
    exact ⟨h1, o', by rw [upd_ne (ne_of_none h2 h)]; exact h2, h3⟩
  · obtain ⟨h1, o', h2, h3⟩ := r.oa m b y hm hy
    exact ⟨h1, o', by rw [upd_ne (ne_of_none h2 h)]; exact h2, h3⟩
theorem updG_ex {p : Addr} {o : HO} (h : G p = none) : ∀ a u, G a = some u → upd G p o a = some u := fun a u e => by
  rw [upd_ne (ne_of_none e h)]; exact e
theorem Rel.newG (r : Rel T ρ G H st) {p : Addr} {o : HO} (h : H p = none) (hnt : ∀ ps, o ≠ .tbl ps := by first | (intro _ z; cases z; done) | (intro _ z; unfold ItA at z; cases z) | assumption) : Fr ρ ρ G (upd G p o) ∧ Rel T ρ (upd G p o) (upd H p o) st := by
  have hG := fresh_G r h
  have f : Fr ρ ρ G (upd G p o) := ⟨(Fr.refl ρ G).le, updG_ex hG⟩
  refine ⟨f, fun b u e => ?_, r.ll, r.lo, fun m b y hm hy => ?_, fun m b y hm hy => ?_, r.nl, r.no, r.tb.upd (fx_none h), nt_upd r.nt hnt⟩
  · by_cases hb : b = p
    · subst hb; rw [upd_same] at e ⊢; exact e
    · rw [upd_ne hb] at e ⊢; exact r.ext b u e
  · obtain ⟨h1, o', h2, h3⟩ := r.la m b y hm hy
    have hb : b ≠ p := ne_of_none h2 h
    exact ⟨fun hd => by rw [upd_ne hb]; exact h1 hd, o', by rw [upd_ne hb]; exact h2, h3.mono f.ex⟩
  · obtain ⟨h1, o', h2, h3⟩ := r.oa m b y hm hy
    have hb : b ≠ p := ne_of_none h2 h
    exact ⟨by rw [upd_ne hb]; exact h1, o', by rw [upd_ne hb]; exact h2, h3.mono f⟩
theorem get_snoc {α : Type} {xs : List α} {x y : α} {n : Nat} (h : (xs ++ [x])[n]? = some y) : xs[n]? = some y ∨ (n = xs.length ∧ y = x) := by
  by_cases hn : n < xs.length
  · rw [List.getElem?_append_left hn] at h; exact .inl h
  · rw [List.getElem?_append_right (by omega)] at h
    have hl := get_lt h
    simp at hl
    have e : n = xs.length := by omega
    subst e
    simp at h
    exact .inr ⟨rfl, h.symm⟩
theorem le_snoc_l {p : Addr} : Le ρ ⟨ρ.l ++ [p], ρ.o⟩ := ⟨fun n a h => by
  show (ρ.l ++ [p])[n]? = some a
  rw [List.getElem?_append_left (get_lt h)]; exact h, fun _ _ h => h⟩
theorem le_snoc_o {p : Addr} : Le ρ ⟨ρ.l, ρ.o ++ [p]⟩ := ⟨fun _ _ h => h, fun n a h => by
  show (ρ.o ++ [p])[n]? = some a
  rw [List.getElem?_append_left (get_lt h)]; exact h⟩
theorem nodup_snoc {α : Type} {xs : List α} {x : α} (h : xs.Nodup) (hx : x ∉ xs) : (xs ++ [x]).Nodup := by
  rw [List.nodup_append]
  exact ⟨h, by simp, fun a ha b hb => by simp at hb; subst hb; exact fun z => hx (z ▸ ha)⟩
theorem Rel.newL (r : Rel T ρ G H st) {p : Addr} {o : HO} {x : Lo} (h : H p = none) (hr : LoR T G x o) : Fr ρ ⟨ρ.l ++ [p], ρ.o⟩ G G ∧ Rel T ⟨ρ.l ++ [p], ρ.o⟩ G (upd H p o) (st.push x) := by
  have f : Fr ρ ⟨ρ.l ++ [p], ρ.o⟩ G G := ⟨le_snoc_l, fun _ _ e => e⟩
  refine ⟨f, fun b u e => ?_, ?_, r.lo, fun m b y hm hy => ?_, fun m b y hm hy => ?_, ?_, r.no, r.tb.upd (fx_none h), r.nt⟩
  · have e' := r.ext b u e
    rw [upd_ne (ne_of_none e' h)]; exact e'
  · show (ρ.l ++ [p]).length = (st.l ++ [x]).length
    simp [r.ll]
  · rcases get_snoc (show (ρ.l ++ [p])[m]? = some b from hm) with hm | ⟨rfl, rfl⟩
    · have hlt : m < st.l.length := by rw [← r.ll]; exact get_lt hm
      have hy' : (st.l ++ [x])[m]? = some y := hy
      rw [List.getElem?_append_left hlt] at hy'
      obtain ⟨h1, o', h2, h3⟩ := r.la m b y hm hy'
      exact ⟨h1, o', by rw [upd_ne (ne_of_none h2 h)]; exact h2, h3⟩
    · have hy' : (st.l ++ [x])[ρ.l.length]? = some y := hy
      rw [r.ll, List.getElem?_append_right (Nat.le_refl _)] at hy'
      simp at hy'
      subst hy'
      exact ⟨fun _ => fresh_G r h, o, upd_same, hr⟩
  · obtain ⟨h1, o', h2, h3⟩ := r.oa m b y hm hy
    exact ⟨h1, o', by rw [upd_ne (ne_of_none h2 h)]; exact h2, h3.mono f⟩
  · exact nodup_snoc r.nl fun hm => by
      obtain ⟨n, hn⟩ := List.getElem?_of_mem hm
      exact fresh_l r h hn rfl
theorem items_at (r : Rel T ρ G H st) {s : Sl} {u : V} {xs : List W} (hs : SlR T ρ G s u) (h : items st s = some xs) : ∃ a vs, u = .ref a ∧ (SqL T.K H a vs ∨ SqT T.K H a vs) ∧ Reps T G xs vs := by
  cases s with
  | v w =>
    cases w with
    | lst ys => cases h; unfold SlR Rep at hs; obtain ⟨a, vs, h1, h2, h3⟩ := hs; exact ⟨a, vs, h1, .inl (SqL.of (r.ext _ _ h2)), h3⟩
    | ro ys => cases h; unfold SlR Rep at hs; obtain ⟨a, vs, h1, h2, h3⟩ := hs; exact ⟨a, vs, h1, .inl (sql_mono r.ext h2), h3⟩
    | tup ys => cases h; unfold SlR Rep at hs; obtain ⟨a, vs, h1, h2, h3⟩ := hs; exact ⟨a, vs, h1, .inr (sqt_mono r.ext h2), h3⟩
    | _ => cases h
  | l n =>
    obtain ⟨a, h1, h2⟩ := hs
    obtain ⟨_, o, h3, vs, h4, h5⟩ := r.la n a _ h1 (Store.lget_of h)
    exact ⟨a, vs, h2, .inl (SqL.of (by rw [h3, h4])), h5⟩
  | o n => cases h
  | t ns => cases h
  | q k y => cases h
  | z k y => cases h
theorem litems_at (r : Rel T ρ G H st) {s : Sl} {u : V} {xs : List W} (hs : SlR T ρ G s u) (h : litems st s = some xs) : ∃ a vs, u = .ref a ∧ SqL T.K H a vs ∧ Reps T G xs vs := by
  cases s with
  | v w =>
    cases w with
    | lst ys => cases h; unfold SlR Rep at hs; obtain ⟨a, vs, h1, h2, h3⟩ := hs; exact ⟨a, vs, h1, SqL.of (r.ext _ _ h2), h3⟩
    | ro ys => cases h; unfold SlR Rep at hs; obtain ⟨a, vs, h1, h2, h3⟩ := hs; exact ⟨a, vs, h1, sql_mono r.ext h2, h3⟩
    | _ => cases h
  | l n =>
    obtain ⟨a, h1, h2⟩ := hs
    obtain ⟨_, o, h3, vs, h4, h5⟩ := r.la n a _ h1 (Store.lget_of h)
    exact ⟨a, vs, h2, SqL.of (by rw [h3, h4]), h5⟩
  | o n => cases h
  | t ns => cases h
  | q k y => cases h
  | z k y => cases h
theorem Rel.trunc {ρ1 : Mp} {G1 H1 : Hp} {st1 : Store} {H0 : Hp} (r : Rel T ρ G H0 st) (r1 : Rel T ρ1 G1 H1 st1) (f : Fr ρ ρ1 G G1) (ho : st1.o.take st.o.length = st.o) :
    ∃ ρ2, Fr ρ ρ2 G G1 ∧ Rel T ρ2 G1 H1 ⟨st1.l.take st.l.length, st.o⟩ ∧ ∀ (s : Sl) u, SlR T ρ1 G1 s u → (∀ n, s = .l n → n < st.l.length) → (∀ n, s = .o n → n < st.o.length) → (∀ ns, s = .t ns → ∀ n ∈ ns, n < st.l.length) → (∀ k w, s = .q k w → k < st.o.length) → (∀ ws n, s = .z ws n → n < st.l.length) → SlR T ρ2 G1 s u := by
  have sub : ∀ {α : Type} {xs : List α} {k n : Nat} {a : α}, (xs.take k)[n]? = some a → xs[n]? = some a ∧ n < k := fun {α xs k n a} h => by
    have := get_lt h
    rw [List.length_take] at this
    rw [List.getElem?_take_of_lt (by omega)] at h
    exact ⟨h, by omega⟩
  have up : ∀ {α : Type} {xs : List α} {k n : Nat} {a : α}, xs[n]? = some a → n < k → (xs.take k)[n]? = some a := fun {α xs k n a} h hk => by
    rw [List.getElem?_take_of_lt hk]; exact h
  have low : ∀ (s : Sl) u, SlR T ρ1 G1 s u → (∀ n, s = .l n → n < st.l.length) → (∀ n, s = .o n → n < st.o.length) → (∀ ns, s = .t ns → ∀ n ∈ ns, n < st.l.length) → (∀ k w, s = .q k w → k < st.o.length) → (∀ ws n, s = .z ws n → n < st.l.length) → SlR T ⟨ρ1.l.take st.l.length, ρ1.o.take st.o.length⟩ G1 s u := fun s u h h1 h2 h5 h6 h7 => by
    cases s with
    | v w => exact h
    | l n => obtain ⟨a, e1, e2⟩ := h; exact ⟨a, up e1 (h1 n rfl), e2⟩
    | o n => obtain ⟨a, e1, e2⟩ := h; exact ⟨a, up e1 (h2 n rfl), e2⟩
    | t ns => obtain ⟨a, us, e1, e2, e3, e4⟩ := h; exact ⟨a, us, e1, e2, e3, fun i n e => by obtain ⟨b, q1, q2⟩ := e4 i n e; exact ⟨b, up q1 (h5 ns rfl n (List.mem_of_getElem? e)), q2⟩⟩
    | q k w => obtain ⟨a, b, v, e1, e2, e3, e4⟩ := h; exact ⟨a, b, v, e1, e2, up e3 (h6 k w rfl), e4⟩
    | z ws n => obtain ⟨a, us, b, e1, e2, e3, e4⟩ := h; exact ⟨a, us, b, e1, e2, up e3 (h7 ws n rfl), e4⟩
  have lows : ∀ (ss : List Sl) us us0, SlRs T ρ1 G1 ss us → SlRs T ρ G ss us0 → SlRs T ⟨ρ1.l.take st.l.length, ρ1.o.take st.o.length⟩ G1 ss us := by
    intro ss
    induction ss with
    | nil => intro us us0 h _; exact h
    | cons s ss ih =>
      intro us us0 h h0
      obtain ⟨v, q, e1, e2, e3⟩ := h
      obtain ⟨v0, q0, z1, z2, z3⟩ := h0
      refine ⟨v, q, e1, low s v e2 (fun n hn => ?_) (fun n hn => ?_) (fun ns hn n hm => ?_) (fun k w hn => ?_) (fun ws n hn => ?_), ih q q0 e3 z3⟩
      · subst hn; obtain ⟨a, y1, _⟩ := z2; rw [← r.ll]; exact get_lt y1
      · subst hn; obtain ⟨a, y1, _⟩ := z2; rw [← r.lo]; exact get_lt y1
      · subst hn; obtain ⟨a, us, _, _, _, y4⟩ := z2; obtain ⟨i, hi⟩ := List.getElem?_of_mem hm; obtain ⟨b, y1, _⟩ := y4 i n hi; rw [← r.ll]; exact get_lt y1
      · subst hn; obtain ⟨a, b, v0, _, _, y1, _⟩ := z2; rw [← r.lo]; exact get_lt y1
      · subst hn; obtain ⟨a, us, b, _, _, y1, _⟩ := z2; rw [← r.ll]; exact get_lt y1
  refine ⟨⟨ρ1.l.take st.l.length, ρ1.o.take st.o.length⟩, ⟨⟨fun n a h => up (f.le.1 n a h) (by rw [← r.ll]; exact get_lt h), fun n a h => up (f.le.2 n a h) (by rw [← r.lo]; exact get_lt h)⟩, f.ex⟩, ⟨r1.ext, ?_, ?_, fun m b y hm hy => ?_, fun m b y hm hy => ?_, ?_, ?_, r1.tb, r1.nt⟩, low⟩
  · show (ρ1.l.take _).length = (st1.l.take _).length
    rw [List.length_take, List.length_take, r1.ll]
  · show (ρ1.o.take _).length = st.o.length
    rw [List.length_take, r1.lo]
    have := congrArg List.length ho
    rw [List.length_take] at this
    exact this
  · obtain ⟨hm', _⟩ := sub hm
    obtain ⟨hy', _⟩ := sub hy
    exact r1.la m b y hm' hy'
  · obtain ⟨hm', hmk⟩ := sub hm
    have hy1 : st1.o[m]? = some y := by
      have e : (st1.o.take st.o.length)[m]? = some y := by rw [ho]; exact hy
      exact (sub e).1
    obtain ⟨h1, o', h2, dx, us, e1, e2, e3⟩ := r1.oa m b y hm' hy1
    obtain ⟨a0, ha0⟩ := r.oat hy
    obtain ⟨_, _, _, _, us0, _, _, e03⟩ := r.oa m a0 y ha0 hy
    exact ⟨h1, o', h2, dx, us, e1, e2, lows _ _ _ e3 e03⟩
  · exact List.Nodup.sublist (List.take_sublist _ _) r1.nl
  · exact List.Nodup.sublist (List.take_sublist _ _) r1.no
end
def hotC (K : PySem.W.Frag) : Value → Bool
  | .ref a => match PySem.W.clsIn K a with
    | some cd => cd.name == ("Refused" : Str) || cd.name == ("BadLine" : Str)
    | none => false
  | _ => false
def CXm (K : PySem.W.Frag) (P : Program) (w : World) : CXT := fun outer H s E u s' =>
  L2N.CX P w outer H s E u s' ∨ L2.CX P w outer H s (fun c d H' => hotC K c = true ∧ E c d H') u s'
theorem noCXm {K : PySem.W.Frag} {P : Program} {w : World} {outer : List PySem.Env} {H : Hp} {s : Shared} {e : Value} {s' : Shared} (h : CXm K P w outer H s (fun _ _ _ => False) e s') : False := by
  rcases h with h | h
  · obtain ⟨_, _, _, _, _, _, _, _, _, _, _, _, z⟩ := h
    exact z.elim
  · obtain ⟨_, _, _, _, _, _, _, _, _, _, _, _, _, z⟩ := h
    exact z.elim
structure Takes (X : Cx) (W : WX) : Prop where
  n : L2N.Takes X W
  h : L2.Takes X fun c d σ H => hotC X.K c = true ∧ W c d σ H
def Zm (hot : Bool) (cls : Value) (d : Option Addr) (o : Obj) : Prop := Zc cls d o ∧ (hot = false → PXN.CtxN o)
theorem Zm.steady {hot : Bool} {cls : Value} {d : Option Addr} : PXN.Steady1 (Zm hot cls d) := fun o v h => ⟨⟨PXN.steady_cls o v h.1.1, PXN.steady_dict o v h.1.2⟩, fun e => PXN.steady_ctx o v (h.2 e)⟩
section
variable {X : Cx} {W : WX}
theorem sky_imp {B : Heap} {l : List PySem.Env} {a L : Addr} {Z Z' : Obj → Prop} {h : Heap} (z : ∀ o, Z o → Z' o) (x : Sky B l a Z L h) : Sky B l a Z' L h := by
  rcases x with ⟨h1, h2, h3, oe, vs, h4, h5, h6⟩ | fl | hd
  · exact .inl ⟨h1, h2, h3, oe, vs, h4, z _ h5, h6⟩
  · exact .inr (.inl ⟨fl.1, fl.2.1, fl.2.2.1, by obtain ⟨oe, vs, T, oT, ts, he, hz, r⟩ := fl.2.2.2; exact ⟨oe, vs, T, oT, ts, he, z _ hz, r⟩⟩)
  · exact .inr (.inr ⟨hd.1, hd.2.1, hd.2.2.1, by obtain ⟨oe, vs, T, oT, ts, he, hz, r⟩ := hd.2.2.2; exact ⟨oe, vs, T, oT, ts, he, z _ hz, r⟩⟩)
theorem xe_up {u : Value} {s' : Shared} (x : L2N.XE X W u s') : L2.XE X W u s' := by
  obtain ⟨a, B, sI, pins, σ, H, cls, d, e, I, nb, up, sky, na, os, ag, w⟩ := x
  refine ⟨a, B, sI, pins, σ, H, cls, d, e, I, nb, up, ?_, na, os, ag, w⟩
  exact sky_imp (fun o z => z.zc) sky
theorem Takes.of (t : L2.Takes X W) : Takes X W := ⟨fun u s' x => t u s' (xe_up x), t.imp fun _ _ _ _ h => h.2⟩
theorem Takes.imp {W' : WX} (t : Takes X W) (h : ∀ c d σ H, W' c d σ H → W c d σ H) : Takes X W' := ⟨t.n.imp h, t.h.imp fun _ _ _ _ q => ⟨q.1, h _ _ _ _ q.2⟩⟩
theorem passAt (tk : Takes X W) (σ : L2.St) : PassesAt (CXm X.K X.prog X.w) X σ (WE W σ) := fun pins H s e s' I c => by
  rcases c with c | c
  · exact L2N.passAt tk.n σ pins H s e s' I c
  · exact L2.passAt tk.h σ pins H s e s' I c
theorem takes_of (hs : X.stack = X.env :: X.outer) (hf : X.env.frame = some X.env.locals) (hex : X.ex = []) {E : XK} {E₁ : Value → Shared → Prop}
    (hx : X.xe = fun e s' => wpAny (model X.prog X.w) X.A (leaving X.env e) (fun _ s'' => CXm X.K X.prog X.w X.outer X.H_0 X.s_0 E e s'') E₁ s') : Takes X (fun cls d _ H => E cls d H) := by
  refine ⟨fun u s' x => ?_, fun u s' x => ?_⟩
  · rw [hx]
    exact wpAny_mono (L2N.XE.leave (W := fun cls d _ H => E cls d H) (E := E) hs hf hex (fun _ _ _ _ h => h) x) (fun _ _ z => .inl z) fun _ _ z => z
  · rw [hx]
    exact wpAny_mono (L2.XE.leave (W := fun cls d _ H => hotC X.K cls = true ∧ E cls d H) (E := fun cls d H => hotC X.K cls = true ∧ E cls d H) hs hf hex (fun _ _ _ _ h => h) x) (fun _ _ z => .inr z) fun _ _ z => z
end
def asTS (i : Nat) (ts : Addr → Value → Option Addr → TS) : Addr → Value → Option Addr → TS := fun a cls d D σ H =>
  ts a cls d { nx := fun σ' H' => D.nx (σ'.set i none) H', rt := D.rt, bk := fun σ' H' => D.bk (σ'.set i none) H', ct := fun σ' H' => D.ct (σ'.set i none) H' } (σ.set i (some (.ref a))) H
inductive HdMix (X : Cx) : List ExceptHandler → List (Value × (Addr → Value → Option Addr → TS)) → Prop
  | nil : HdMix X [] []
  | only {x : Str} {c : Value} {ts : Addr → Value → Option Addr → TS} {b₀ : Stmt} {suite : List Stmt} {np pos' : Pos} {hds : List ExceptHandler} {l : List (Value × (Addr → Value → Option Addr → TS))} (hc : Names X x c)
      (hsu : ∀ (a : Addr) (oe : Obj) (cls : Value) (d : Option Addr) (pn : List (Addr × Obj)), Zc cls d oe → (∃ vs, oe.data = .fields vs) → PSs (X.suite a ((a, oe) :: pn)) (b₀ :: suite) (ts a cls d)) (r : HdMix X hds l) :
      HdMix X (.ExceptHandler (some (.Name x np)) none (b₀ :: suite) pos' :: hds) ((c, ts) :: l)
  | nam {x n : Str} {i : Nat} {c : Value} {ts : Addr → Value → Option Addr → TS} {b₀ : Stmt} {suite : List Stmt} {np pos' : Pos} {hds : List ExceptHandler} {l : List (Value × (Addr → Value → Option Addr → TS))} (hN : X.N.Nodup) (hi : X.N[i]? = some n) (hln : X.env.kindOf n = some .local) (hc : Names X x c)
      (hsu : ∀ (a : Addr) (oe : Obj) (cls : Value) (d : Option Addr) (pn : List (Addr × Obj)), Zc cls d oe → (∃ vs, oe.data = .fields vs) → PSs (X.suite a ((a, oe) :: pn)) (b₀ :: suite) (ts a cls d)) (r : HdMix X hds l) :
      HdMix X (.ExceptHandler (some (.Name x np)) (some n) (b₀ :: suite) pos' :: hds) ((c, asTS i ts) :: l)
section
variable {X : Cx} {body : List Stmt} {h₀ : ExceptHandler} {hds : List ExceptHandler} {l : List (Value × (Addr → Value → Option Addr → TS))} {pos : Pos} {tb : WX → TS} {Wout : WX}
theorem ps_try_mix (hs : X.stack = X.env :: X.outer) (hf : X.env.frame = some X.env.locals) (tk : Takes X Wout)
    (hb : ∀ (W : WX) (pn : List (Addr × Obj)) (xe : Value → Shared → Prop), Takes (X.tr pn xe) W → PassesOwn (model X.prog X.w) X.A X.env xe → PSs (X.tr pn xe) body (tb W))
    (hh : HdMix X (h₀ :: hds) l) : PS X (.Try body (h₀ :: hds) [] [] pos) (fun D σ H => tb (wMany X.K Wout D l) D σ H) := by
  refine ⟨fun pins s σ H D I h => ?_⟩
  have ok := I.ok
  have hfr : X.A.frames = some (X.env :: X.outer) := by rw [ok.frames, hs]
  refine wpAny_Try_except ?_
  have main : ∀ (hot : Bool) (a : Addr) (B : Heap) (sI s' : Shared) (σ' : L2.St) (H' : Hp) (cls : Value) (d : Option Addr), Inv X pins σ' H' sI → (∀ b o, sI.heap.get? b = some o → b ∉ frs X.stack → B.get? b = some o) → sI.heap.UpToSlots s'.heap → Sky B X.stack a (Zm hot cls d) X.env.locals s'.heap → H' a = none → s'.os = sI.os → AllBare s'.gens →
      (hot = true → hotC X.K cls = true) → wMany X.K Wout D l cls d σ' H' →
      wpAny (model X.prog X.w) X.A (noteFrame (.ref a) X.env) (fun _ s₂ => wpAny (model X.prog X.w) X.A (setFlight (.ref a) none) (fun _ s₃ => wpAny (model X.prog X.w) X.A (handleBy (.ref a) X.env (h₀ :: hds)) (SP X pins D) X.xe s₃) X.xe s₂) X.xe s' := by
    intro hot a B sI s' σ' H' cls d J nb up sky na os ag hc w
    have sky' : Sky B (X.env :: X.outer) a (Zm hot cls d) X.env.locals s'.heap := by rw [← hs]; exact sky
    refine L2N.Sky.land Zm.steady hfr hf sky' fun h3 fl3 up3 => ?_
    have J3 : Inv X pins σ' H' { s' with heap := h3 } := J.landed nb fl3.1 (up.trans up3) os ag
    obtain ⟨oe3, vs3, he3, hz3, hd3⟩ := fl3.there
    have nfr : a ∉ frs (X.env :: X.outer) := fun hm => by
      obtain ⟨_, o', e', hnf⟩ := fl3.2.2.1.mem hm
      rw [he3] at e'; cases e'
      exact hnf _ hd3
    have nL : a ≠ X.env.locals := fun z => nfr (List.mem_filterMap.mpr ⟨X.env, List.mem_cons_self, by rw [hf, z]⟩)
    have nF : a ∉ X.fs := fun hm => by
      obtain ⟨e, he, q⟩ := List.mem_filterMap.mp hm
      exact nfr (List.mem_filterMap.mpr ⟨e, List.mem_cons_of_mem _ he, q⟩)
    have S3 := J3.suite he3 hd3 na nL nF
    have test : ∀ {x : Str} {c : Value} {np : Pos}, Names X x c → ∀ {Q : Value → Shared → Prop} {E : Value → Shared → Prop}, Q c { s' with heap := h3 } → wpAny (model X.prog X.w) (X.A.mark (some (.ref a))) (eval (.Name x np) X.env) Q E { s' with heap := h3 } := fun {x c np} hc {Q E} q => by
      obtain ⟨hg, hdbg, hm | ⟨hm, hv, hnn⟩⟩ := hc
      · exact ld_glob (X := X.suite a ((a, oe3) :: (X.pn ++ pins))) S3 hg hm q hdbg
      · exact ld_blt (X := X.suite a ((a, oe3) :: (X.pn ++ pins))) S3 hg hm hv q hnn hdbg
    have LT : PySem.W.Looks (model X.prog X.w) h3 (typeOf (.ref a)) cls := fun A Q E s k q => wpAny_typeOf_ref (k _ _ he3) (by rw [hz3.1.1]; exact q)
    have go : ∀ {hds' : List ExceptHandler} {l' : List (Value × (Addr → Value → Option Addr → TS))}, HdMix X hds' l' → wMany X.K Wout D l' cls d σ' H' →
        wpAny (model X.prog X.w) X.A (handleBy (.ref a) X.env hds') (SP X pins D) X.xe { s' with heap := h3 } := by
      intro hds' l' hk
      induction hk with
      | nil =>
        intro w
        refine wpAny_handleBy_nil ?_
        obtain ⟨k1, k2, k3, oe, vs, T, oT, ts', he, hz, hd, h1, hr⟩ := id fl3
        unfold PySem.passOn
        refine wpAny_bind (wpAny_field he hd h1 ?_)
        rw [if_neg (show ¬ ((Value.ref T == Value.none) = true) from by simp)]
        have fin : wpAny (model X.prog X.w) X.A (setFlight (.ref a) X.env.frame) (fun _ s4 => wpAny (model X.prog X.w) X.A (throw (.ref a) : Sem Flow) (SP X pins D) X.xe s4) X.xe { s' with heap := h3 } := by
          rw [hf]
          refine HandSPX.setFlight_upZ fl3 fun h4 hh4 up4 => wpAny_throw ?_
          have sk4 : Sky B X.stack a (Zm hot cls d) X.env.locals h4 := .inr (.inr (by rw [hs]; exact hh4))
          cases hot with
          | false => exact tk.n _ _ ⟨a, B, sI, pins, σ', H', cls, d, rfl, J, nb, (up.trans up3).trans up4, sky_imp (fun o z => ⟨z.1.1, z.1.2, z.2 rfl⟩) sk4, na, os, ag, w⟩
          | true => exact tk.h _ _ ⟨a, B, sI, pins, σ', H', cls, d, rfl, J, nb, (up.trans up3).trans up4, sky_imp (fun o z => z.1) sk4, na, os, ag, hc rfl, w⟩
        first
          | exact wpAny_bind (wpAny_pure (wpAny_bind fin))
          | exact wpAny_bind fin
      | @only x c ts b₀ suite np pos' hds2 l2 hc hsu r ih =>
        intro w
        obtain ⟨b, hb1, hyes, hno⟩ := w
        have LM := PySem.W.exm_one (M := model X.prog X.w) (J3.kIn) LT hb1
        refine wpAny_handleBy_cons (codeAny_handlers_test ?_) (by intro q; cases q)
        refine test hc (LM.here ?_)
        cases b with
        | true =>
          refine codeAny_handlers_suite (HandSPX.lands_againZ fl3 fun h4 fl4 up4 => ?_)
          have J4 : Inv X pins σ' H' { s' with heap := h4 } := J.landed nb fl4.1 ((up.trans up3).trans up4) os ag
          obtain ⟨oe4, vs4, he4, hz4, hd4⟩ := fl4.there
          have S4 := J4.suite he4 hd4 na nL nF
          refine wpAny_mono ((hsu a oe4 cls d (X.pn ++ pins) hz4.1 ⟨_, hd4⟩).run [] _ _ H' _ S4 (hyes rfl a na)) (fun f s6 hsp => ?_) (fun _ _ z => False.elim z)
          cases f with
          | next => obtain ⟨σ6, H6, S6, q6⟩ := hsp; exact ⟨_, _, S6.unsuite ok, q6⟩
          | brk => obtain ⟨σ6, H6, S6, q6⟩ := hsp; exact ⟨_, _, S6.unsuite ok, q6⟩
          | cont => obtain ⟨σ6, H6, S6, q6⟩ := hsp; exact ⟨_, _, S6.unsuite ok, q6⟩
          | ret u => obtain ⟨v6, σ6, H6, S6, r6, q6⟩ := hsp; exact ⟨_, _, _, S6.unsuite ok, r6, q6⟩
        | false => exact ih (hno rfl)
      | @nam x n i c ts b₀ suite np pos' hds2 l2 hN hi hln hc hsu r ih =>
        intro w
        obtain ⟨b, hb1, hyes, hno⟩ := w
        have LM := PySem.W.exm_one (M := model X.prog X.w) (J3.kIn) LT hb1
        refine wpAny_handleBy_cons (codeAny_handlers_test ?_) (by intro q; cases q)
        refine test hc (LM.here ?_)
        cases b with
        | true =>
          refine codeAny_handlers_suite_as (HandSPX.lands_againZ fl3 fun h4 fl4 up4 => ?_)
          have J4 : Inv X pins σ' H' { s' with heap := h4 } := J.landed nb fl4.1 ((up.trans up3).trans up4) os ag
          obtain ⟨oe4, vs4, he4, hz4, hd4⟩ := fl4.there
          have S4 := J4.suite he4 hd4 na nL nF
          refine store_ok (X := X.suite a ((a, oe4) :: (X.pn ++ pins))) (v := .ref a) S4 hN hi (.inl hln) rfl (fun s5 S5 => ?_) (.inr hln)
          refine wpAny_mono ((hsu a oe4 cls d (X.pn ++ pins) hz4.1 ⟨_, hd4⟩).run [] s5 _ H' _ S5 (hyes rfl a na)) (fun f s6 hsp => ?_) (fun _ _ z => False.elim z)
          have gone : ∀ {σ6 : L2.St} {H6 : Hp} {Q : Shared → Prop}, Inv (X.suite a ((a, oe4) :: (X.pn ++ pins))) [] σ6 H6 s6 → (∀ s7, Inv X pins (σ6.set i none) H6 s7 → Q s7) →
              wpAny (model X.prog X.w) X.A (do bindName X.env n .none; unbindBehindTheSuite X.env n pos') (fun _ s7 => Q s7) X.xe s6 := fun {σ6 H6 Q} S6 hq => gone_ok (S6.unsuite ok) hN hi hln hq
          cases f with
          | next => obtain ⟨σ6, H6, S6, q6⟩ := hsp; exact gone S6 fun s7 J7 => ⟨_, _, J7, q6⟩
          | brk => obtain ⟨σ6, H6, S6, q6⟩ := hsp; exact gone S6 fun s7 J7 => ⟨_, _, J7, q6⟩
          | cont => obtain ⟨σ6, H6, S6, q6⟩ := hsp; exact gone S6 fun s7 J7 => ⟨_, _, J7, q6⟩
          | ret u => obtain ⟨v6, σ6, H6, S6, r6, q6⟩ := hsp; exact gone S6 fun s7 J7 => ⟨_, _, _, J7, r6, q6⟩
        | false => exact ih (hno rfl)
    exact go hh w
  refine wpAny_mono ((hb (wMany X.K Wout D l) (X.pn ++ pins) (fun e s₁ => wpAny (model X.prog X.w) X.A (noteFrame e X.env) (fun _ s₂ => wpAny (model X.prog X.w) X.A (setFlight e none) (fun _ s₃ =>
    wpAny (model X.prog X.w) X.A (handleBy e X.env (h₀ :: hds)) (SP X pins D) X.xe s₃) X.xe s₂) X.xe s₁) ⟨fun u s' xx => ?_, fun u s' xx => ?_⟩ PassesOwn.looking).run [] s σ H D (I.toTry _) h) (fun f s1 hsp => ?_) (fun e s1 he => he)
  · obtain ⟨a, B, sI, pins', σ', H', cls, d, rfl, J', nb, up, sky, na, os, ag, w⟩ := xx
    exact main false a B sI s' σ' H' cls d (J'.ofTry ok) nb up (sky_imp (fun o z => ⟨z.zc, fun _ => z.2.2⟩) sky) na os ag (fun e => nomatch e) w
  · obtain ⟨a, B, sI, pins', σ', H', cls, d, rfl, J', nb, up, sky, na, os, ag, hc, w⟩ := xx
    exact main true a B sI s' σ' H' cls d (J'.ofTry ok) nb up (sky_imp (fun o z => ⟨z, fun e => nomatch e⟩) sky) na os ag (fun _ => hc) w
  · cases f with
    | next => obtain ⟨σ', H', J', q⟩ := hsp; exact wpAny_execs_nil ⟨σ', H', J'.ofTry ok, q⟩
    | brk => obtain ⟨σ', H', J', q⟩ := hsp; exact ⟨σ', H', J'.ofTry ok, q⟩
    | cont => obtain ⟨σ', H', J', q⟩ := hsp; exact ⟨σ', H', J'.ofTry ok, q⟩
    | ret u => obtain ⟨v, σ', H', J', r, q⟩ := hsp; exact ⟨v, σ', H', J'.ofTry ok, r, q⟩
theorem ps_try_as' {x n : Str} {i : Nat} {c : Value} {ts : Addr → Value → Option Addr → TS} {b₀ : Stmt} {suite : List Stmt} {np pos' : Pos} (hs : X.stack = X.env :: X.outer) (hf : X.env.frame = some X.env.locals) (hN : X.N.Nodup) (hi : X.N[i]? = some n) (hln : X.env.kindOf n = some .local) (hc : Names X x c) (tk : Takes X Wout)
    (hb : ∀ (W : WX) (pn : List (Addr × Obj)) (xe : Value → Shared → Prop), Takes (X.tr pn xe) W → PassesOwn (model X.prog X.w) X.A X.env xe → PSs (X.tr pn xe) body (tb W))
    (hsu : ∀ (a : Addr) (oe : Obj) (cls : Value) (d : Option Addr) (pn : List (Addr × Obj)), Zc cls d oe → (∃ vs, oe.data = .fields vs) → PSs (X.suite a ((a, oe) :: pn)) (b₀ :: suite) (ts a cls d)) :
    PS X (.Try body [.ExceptHandler (some (.Name x np)) (some n) (b₀ :: suite) pos'] [] [] pos) (fun D σ H => tb (wAs X.K c i ts Wout D) D σ H) :=
  ps_try_mix hs hf tk hb (.nam hN hi hln hc hsu .nil)
end

end Mz

set_option Elab.async false
set_option linter.all false
set_option maxRecDepth 100000
set_option maxHeartbeats 4000000
namespace Mz
open PySem PySem.Spec PyProof.Rows L2

def mVar (i : Nat) : ME := fun env st => match env[i]? with
  | some (some s) => .ok s st
  | _ => .bad
def mC (w : W) : ME := fun _ st => .ok (.v w) st
def mOp (f : Sl → Sl → Store → Res Sl) (a b : ME) : ME := fun env st => (a env st).bind fun x st1 => (b env st1).bind fun y st2 => f x y st2
def tru : Sl → Store → Res Bool
  | .v (.bl b), st => .ok b st
  | _, _ => .bad
def mTest (a : ME) : MT := fun env st => (a env st).bind tru
def mAnd (a b : MT) : MT := fun env st => (a env st).bind fun c st1 => if c = true then b env st1 else .ok false st1
def mOr (a b : MT) : MT := fun env st => (a env st).bind fun c st1 => if c = true then .ok true st1 else b env st1
def mNot (a : MT) : MT := fun env st => (a env st).bind fun c st1 => .ok (!c) st1
def mAndV (a b : ME) : ME := fun env st => (a env st).bind fun x st1 => (tru x st1).bind fun c st2 => if c = true then b env st2 else .ok (.v (.bl false)) st2
def mOrV (a b : ME) : ME := fun env st => (a env st).bind fun x st1 => (tru x st1).bind fun c st2 => if c = true then .ok (.v (.bl true)) st2 else b env st2
def mNotV (a : ME) : ME := fun env st => (a env st).bind fun x st1 => (tru x st1).bind fun c st2 => .ok (.v (.bl (!c))) st2
def mIf (t : MT) (a b : ME) : ME := fun env st => (t env st).bind fun c st1 => if c = true then a env st1 else b env st1
def mNil : MA := fun _ st => .ok [] st
def mCons (a : ME) (r : MA) : MA := fun env st => (a env st).bind fun x st1 => (r env st1).bind fun xs st2 => .ok (x :: xs) st2
def vals : List Sl → Option (List W)
  | [] => some []
  | .v w :: r => (vals r).map (w :: ·)
  | _ => none
def mTup (a : MA) : ME := fun env st => (a env st).bind fun xs st1 => match vals xs with
  | some ws => if ws.length ≤ big then .ok (.v (.tup ws)) st1 else .bad
  | none => .bad
def mLst (a : MA) : ME := fun env st => (a env st).bind fun xs st1 => match vals xs with
  | some ws => if ws.length ≤ big then .ok (.v (.lst ws)) st1 else .bad
  | none => .bad
def mLstM (a : MA) : ME := fun env st => (a env st).bind fun xs st1 => match vals xs with
  | some ws => if ws.length ≤ big then .ok (.l st1.l.length) (st1.push (.lst ws)) else .bad
  | none => .bad
def mCall (F : MF) (a : MA) : ME := fun env st => (a env st).bind fun xs st1 => F xs st1
def mChain (f g : Sl → Sl → Store → Res Sl) (a b c : ME) : ME := fun env st => (a env st).bind fun x st1 => (b env st1).bind fun y st2 => (f x y st2).bind fun z st3 => (tru z st3).bind fun k st4 =>
  if k = true then (c env st4).bind fun w st5 => g y w st5 else .ok (.v (.bl false)) st4

def OpS (T : Tx) (r : R2) (f : Sl → Sl → Store → Res Sl) : Prop := ∀ ρ G H st x y u v Q E, Rel T ρ G H st → SlR T ρ G x u → SlR T ρ G y v → PostR T ρ G (SlR T) (f x y st) Q E → r u v H Q
def CaS (T : Tx) (r : List V → Hp → VK → Prop) (f : MF) : Prop := ∀ ρ G H st xs us Q E, Rel T ρ G H st → SlRs T ρ G xs us → PostR T ρ G (SlR T) (f xs st) Q E → r us H Q

section
variable {T : Tx} {ρ : Mp} {G H : Hp} {st : Store}
theorem PostR.give {α β : Type} {R : Mp → Hp → α → β → Prop} {a : α} {Q : β → Hp → Prop} {E : XK} {u : β} (h : PostR T ρ G R (.ok a st) Q E) (r : Rel T ρ G H st) (hr : R ρ G a u) : Q u H := h ρ G H u (Fr.refl ρ G) r hr
theorem tru_bl {s : Sl} {u : V} {b : Bool} {st st' : Store} (h : tru s st = .ok b st') (r : SlR T ρ G s u) : u = .bl b ∧ st' = st := by
  cases s with
  | v w =>
    cases w with
    | bl c => cases h; unfold SlR Rep at r; exact ⟨r, rfl⟩
    | _ => cases h
  | _ => cases h
theorem tru_not_ex {s : Sl} {c : Nat} {ns : List Str} {ws : List W} {st st' : Store} : tru s st ≠ .ex c ns ws st' := by
  cases s with
  | v w => cases w <;> simp [tru]
  | _ => simp [tru]
theorem vals_reps : ∀ {ss : List Sl} {ws : List W} {us : List V}, vals ss = some ws → SlRs T ρ G ss us → Reps T G ws us
  | [], ws, us, h, r => by cases h; cases r; exact Reps.nil
  | .v w :: ss, ws, us, h, r => by
    obtain ⟨v, q, rfl, r1, r2⟩ := r
    unfold vals at h
    obtain ⟨ws', e, rfl⟩ := Option.map_eq_some_iff.mp h
    exact Reps.cons r1 (vals_reps e r2)
  | .l n :: ss, ws, us, h, r => by cases h
  | .o n :: ss, ws, us, h, r => by cases h
theorem PostR.tru {γ δ : Type} {R : Mp → Hp → γ → δ → Prop} {s : Sl} {u : V} {k : Bool → Store → Res γ} {Q : δ → Hp → Prop} {E : XK} (h : PostR T ρ G R ((tru s st).bind k) Q E) (r : SlR T ρ G s u) : ∃ b, u = .bl b ∧ PostR T ρ G R (k b st) Q E := by
  cases e : Mz.tru s st with
  | ok b st' =>
    obtain ⟨h1, rfl⟩ := tru_bl e r
    rw [e] at h
    exact ⟨b, h1, h⟩
  | ex c ns ws st' => exact absurd e tru_not_ex
  | bad => rw [e] at h; exact h.elim
end

section
variable {X : Cx} {cl : Nat → Addr} {Wx : WX} {a b c : Expr} {ma mb mc : ME} {pos : Pos}
theorem ie_var (i : Nat) {x : Str} {pos : Pos} (hN : X.N[i]? = some x := by rfl) (hv : Vis X.env.scope x := by first | exact Or.inl rfl | exact Or.inr (Or.inl rfl) | exact Or.inr (Or.inr rfl)) (hd : (x == ("__debug__" : Str)) = false := by decide)
    (hcd : (x == ("__classdict__" : Str)) = false := by decide) : IE X cl Wx (.Name x pos) (mVar i) := pe_weak (pe_var hN hv hd hcd) fun σ H Q ⟨env, ρ, G, st, r, er, p⟩ => by
  unfold mVar at p
  split at p
  · rename_i s e
    obtain ⟨u, h1, h2⟩ := er.2 i s e
    exact ⟨u, h1, p.give r h2⟩
  · exact p.elim
theorem ie_int {i j pos} : IE X cl Wx (.Constant (.int i) j pos) (mC (.int i)) := pe_weak pe_int fun σ H Q ⟨env, ρ, G, st, r, er, p⟩ => p.give r (by unfold SlR Rep; rfl)
theorem ie_bl {b j pos} : IE X cl Wx (.Constant (.bool b) j pos) (mC (.bl b)) := pe_weak pe_bl fun σ H Q ⟨env, ρ, G, st, r, er, p⟩ => p.give r (by unfold SlR Rep; rfl)
theorem ie_non {j pos} : IE X cl Wx (.Constant .none j pos) (mC .non) := pe_weak pe_non fun σ H Q ⟨env, ρ, G, st, r, er, p⟩ => p.give r (by unfold SlR Rep; rfl)
theorem ie_str {x j pos} : IE X cl Wx (.Constant (.str x) j pos) (mC (.str x)) := pe_weak pe_str fun σ H Q ⟨env, ρ, G, st, r, er, p⟩ => p.give r (by unfold SlR Rep; rfl)

theorem tM_op {r : R2} {f : Sl → Sl → Store → Res Sl} (hs : OpS ⟨X.K, cl⟩ r f) : ∀ σ H Q, tM ⟨X.K, cl⟩ Wx (mOp f ma mb) σ H Q → tOp r (tM ⟨X.K, cl⟩ Wx ma) (tM ⟨X.K, cl⟩ Wx mb) σ H Q := fun σ H Q ⟨env, ρ, G, st, rel, er, p⟩ =>
  ⟨env, ρ, G, st, rel, er, p.bind fun x st1 ρ1 G1 H1 u f1 r1 s1 p1 => ⟨env, ρ1, G1, st1, r1, er.mono f1, p1.bind fun y st2 ρ2 G2 H2 v f2 r2 s2 p2 => hs ρ2 G2 H2 st2 x y u v Q _ r2 (s1.mono f2) s2 p2⟩⟩
theorem ie_op {op : Operator} {r : R2} {f : Sl → Sl → Store → Res Sl} (ho : OpR X (binaryOp op) r) (hs : OpS ⟨X.K, cl⟩ r f) (ha : IE X cl Wx a ma) (hb : IE X cl Wx b mb) : IE X cl Wx (.BinOp a op b pos) (mOp f ma mb) := pe_weak (pe_op ho ha hb) (tM_op hs)
theorem ie_cmp {op : CmpOp} {r : R2} {f : Sl → Sl → Store → Res Sl} (ho : OpR X (compareOp op) r) (hs : OpS ⟨X.K, cl⟩ r f) (ha : IE X cl Wx a ma) (hb : IE X cl Wx b mb) (hm : behindInMarks op b = false) : IE X cl Wx (.Compare a [op] [b] pos) (mOp f ma mb) := pe_weak (pe_cmpR ho ha hb hm) (tM_op hs)
theorem ie_ix {r : R2} {f : Sl → Sl → Store → Res Sl} (ho : IxR X r) (hs : OpS ⟨X.K, cl⟩ r f) (ha : IE X cl Wx a ma) (hb : IE X cl Wx b mb) (hp : PlainIx b) : IE X cl Wx (.Subscript a b pos) (mOp f ma mb) := pe_weak (pe_ix ho ha hb hp) (tM_op hs)
theorem it_cmp {op : CmpOp} {r : R2} {f : Sl → Sl → Store → Res Sl} (ho : OpR X (compareOp op) r) (hs : OpS ⟨X.K, cl⟩ r f) (ha : IE X cl Wx a ma) (hb : IE X cl Wx b mb) (hm : behindInMarks op b = false) : IT X cl Wx (.Compare a [op] [b] pos) (mTest (mOp f ma mb)) :=
  pt_weak (pt_cmpR ho ha hb hm) fun σ H Q ⟨env, ρ, G, st, rel, er, p⟩ => tM_op hs σ H _ ⟨env, ρ, G, st, rel, er, p.bind fun x st1 ρ1 G1 H1 u f1 r1 s1 p1 => by
    obtain ⟨k, h1, h2⟩ := PostR.tru (k := fun b st => .ok b st) (by
      have e : ((Mz.tru x st1).bind fun b st => Res.ok b st) = Mz.tru x st1 := by cases Mz.tru x st1 <;> rfl
      rw [e]; exact p1) s1
    exact ⟨k, h1, h2.give r1 rfl⟩⟩
theorem it_val (ha : IE X cl Wx a ma) (he : ∀ whole, isTrue a X.env whole = (do let v ← whole; standAt a.pos; holding [v] (truthy v)) := by intro _; rfl) : IT X cl Wx a (mTest ma) :=
  pt_weak (pt_val ha he) fun σ H Q ⟨env, ρ, G, st, rel, er, p⟩ => ⟨env, ρ, G, st, rel, er, p.bind fun x st1 ρ1 G1 H1 u f1 r1 s1 p1 => by
    obtain ⟨k, h1, h2⟩ := PostR.tru (k := fun b st => .ok b st) (by
      have e : ((Mz.tru x st1).bind fun b st => Res.ok b st) = Mz.tru x st1 := by cases Mz.tru x st1 <;> rfl
      rw [e]; exact p1) s1
    exact ⟨k, h1, h2.give r1 rfl⟩⟩
theorem tM_chain {r r' : R2} {f g : Sl → Sl → Store → Res Sl} (hs : OpS ⟨X.K, cl⟩ r f) (hs' : OpS ⟨X.K, cl⟩ r' g) :
    ∀ σ H Q, tM ⟨X.K, cl⟩ Wx (mChain f g ma mb mc) σ H Q → tChain r r' (tM ⟨X.K, cl⟩ Wx ma) (tM ⟨X.K, cl⟩ Wx mb) (tM ⟨X.K, cl⟩ Wx mc) σ H Q := fun σ H Q ⟨env, ρ, G, st, rel, er, p⟩ =>
  ⟨env, ρ, G, st, rel, er, p.bind fun x st1 ρ1 G1 H1 u f1 r1 s1 p1 => ⟨env, ρ1, G1, st1, r1, er.mono f1, p1.bind fun y st2 ρ2 G2 H2 v f2 r2 s2 p2 =>
    hs ρ2 G2 H2 st2 x y u v _ _ r2 (s1.mono f2) s2 (PostR.bind (R1 := SlR ⟨X.K, cl⟩) p2 fun z st3 ρ3 G3 H3 w f3 r3 s3 p3 => by
      obtain ⟨k, h1, h2⟩ := PostR.tru p3 s3
      refine ⟨k, h1, ?_⟩
      cases k with
      | true =>
        show tM _ _ _ _ _ _
        exact ⟨env, ρ3, G3, st3, r3, (er.mono f1).mono (f2.trans f3), PostR.bind (R1 := SlR ⟨X.K, cl⟩) h2 fun w4 st4 ρ4 G4 H4 u4 f4 r4 s4 p4 => hs' ρ4 G4 H4 st4 y w4 v u4 Q _ r4 (s2.mono (f3.trans f4)) s4 p4⟩
      | false => exact PostR.give h2 r3 (by unfold SlR Rep; rfl))⟩⟩
theorem ie_chain {op op' : CmpOp} {r r' : R2} {f g : Sl → Sl → Store → Res Sl} (ho : OpR X (compareOp op) r) (ho' : OpR X (compareOp op') r') (hs : OpS ⟨X.K, cl⟩ r f) (hs' : OpS ⟨X.K, cl⟩ r' g) (ha : IE X cl Wx a ma) (hb : IE X cl Wx b mb) (hc : IE X cl Wx c mc)
    (hm : lastMarks [op, op'] [b, c] = false := by with_unfolding_all rfl) : IE X cl Wx (.Compare a [op, op'] [b, c] pos) (mChain f g ma mb mc) := pe_weak (pe_chain ho ho' ha hb hc hm) (tM_chain hs hs')
theorem it_chain {op op' : CmpOp} {r r' : R2} {f g : Sl → Sl → Store → Res Sl} (ho : OpR X (compareOp op) r) (ho' : OpR X (compareOp op') r') (hs : OpS ⟨X.K, cl⟩ r f) (hs' : OpS ⟨X.K, cl⟩ r' g) (ha : IE X cl Wx a ma) (hb : IE X cl Wx b mb) (hc : IE X cl Wx c mc)
    (hm : lastMarks [op, op'] [b, c] = false := by with_unfolding_all rfl) : IT X cl Wx (.Compare a [op, op'] [b, c] pos) (mTest (mChain f g ma mb mc)) :=
  pt_weak (pt_chain ho ho' ha hb hc hm) fun σ H Q ⟨env, ρ, G, st, rel, er, p⟩ => tM_chain hs hs' σ H _ ⟨env, ρ, G, st, rel, er, p.bind fun x st1 ρ1 G1 H1 u f1 r1 s1 p1 => by
    obtain ⟨k, h1, h2⟩ := PostR.tru (k := fun b st => .ok b st) (by
      have e : ((Mz.tru x st1).bind fun b st => Res.ok b st) = Mz.tru x st1 := by cases Mz.tru x st1 <;> rfl
      rw [e]; exact p1) s1
    exact ⟨k, h1, h2.give r1 rfl⟩⟩
end
section
variable {X : Cx} {cl : Nat → Addr} {Wx : WX} {a b c : Expr} {ma mb mc : ME} {pos : Pos} {rest : List Expr} {ta tb : MT}
theorem iw_and1 (ha : IT X cl Wx a ta) : IW X cl Wx (.BoolOp .And [a] pos) ta := pw_and1 ha
theorem iw_or1 (ha : IT X cl Wx a ta) : IW X cl Wx (.BoolOp .Or [a] pos) ta := pw_or1 ha
theorem iw_and (ha : IT X cl Wx a ta) (hb : IW X cl Wx (.BoolOp .And (b :: rest) pos) tb) : IW X cl Wx (.BoolOp .And (a :: b :: rest) pos) (mAnd ta tb) :=
  pw_weak (pw_and ha hb) fun σ H Q ⟨env, ρ, G, st, rel, er, p⟩ => ⟨env, ρ, G, st, rel, er, p.bind fun x st1 ρ1 G1 H1 u f1 r1 s1 p1 => by
    subst s1
    cases x with
    | true => exact ⟨env, ρ1, G1, st1, r1, er.mono f1, p1⟩
    | false => exact p1.give r1 rfl⟩
theorem iw_or (ha : IT X cl Wx a ta) (hb : IW X cl Wx (.BoolOp .Or (b :: rest) pos) tb) : IW X cl Wx (.BoolOp .Or (a :: b :: rest) pos) (mOr ta tb) :=
  pw_weak (pw_or ha hb) fun σ H Q ⟨env, ρ, G, st, rel, er, p⟩ => ⟨env, ρ, G, st, rel, er, p.bind fun x st1 ρ1 G1 H1 u f1 r1 s1 p1 => by
    subst s1
    cases x with
    | true => exact p1.give r1 rfl
    | false => exact ⟨env, ρ1, G1, st1, r1, er.mono f1, p1⟩⟩
theorem it_not (ha : IT X cl Wx a ta) : IT X cl Wx (.UnaryOp .Not a pos) (mNot ta) :=
  pt_weak (pt_not ha) fun σ H Q ⟨env, ρ, G, st, rel, er, p⟩ => ⟨env, ρ, G, st, rel, er, p.bind fun x st1 ρ1 G1 H1 u f1 r1 s1 p1 => by
    subst s1; exact p1.give r1 rfl⟩
theorem ie_one {op} (h : IE X cl Wx a ma) : IE X cl Wx (.BoolOp op [a] pos) ma := pe_one h
theorem ie_and (ha : IE X cl Wx a ma) (hb : IE X cl Wx (.BoolOp .And (b :: rest) pos) mb) : IE X cl Wx (.BoolOp .And (a :: b :: rest) pos) (mAndV ma mb) :=
  pe_weak (pe_and ha hb) fun σ H Q ⟨env, ρ, G, st, rel, er, p⟩ => ⟨env, ρ, G, st, rel, er, p.bind fun x st1 ρ1 G1 H1 u f1 r1 s1 p1 => by
    obtain ⟨k, h1, h2⟩ := PostR.tru p1 s1
    refine ⟨k, h1, ?_⟩
    cases k with
    | true => exact ⟨env, ρ1, G1, st1, r1, er.mono f1, h2⟩
    | false => exact PostR.give h2 r1 (by unfold SlR Rep; rfl)⟩
theorem ie_or (ha : IE X cl Wx a ma) (hb : IE X cl Wx (.BoolOp .Or (b :: rest) pos) mb) : IE X cl Wx (.BoolOp .Or (a :: b :: rest) pos) (mOrV ma mb) :=
  pe_weak (pe_or ha hb) fun σ H Q ⟨env, ρ, G, st, rel, er, p⟩ => ⟨env, ρ, G, st, rel, er, p.bind fun x st1 ρ1 G1 H1 u f1 r1 s1 p1 => by
    obtain ⟨k, h1, h2⟩ := PostR.tru p1 s1
    refine ⟨k, h1, ?_⟩
    cases k with
    | true => exact PostR.give h2 r1 (by unfold SlR Rep; rfl)
    | false => exact ⟨env, ρ1, G1, st1, r1, er.mono f1, h2⟩⟩
theorem ie_not (ha : IE X cl Wx a ma) : IE X cl Wx (.UnaryOp .Not a pos) (mNotV ma) :=
  pe_weak (pe_not ha) fun σ H Q ⟨env, ρ, G, st, rel, er, p⟩ => ⟨env, ρ, G, st, rel, er, p.bind fun x st1 ρ1 G1 H1 u f1 r1 s1 p1 => by
    obtain ⟨k, h1, h2⟩ := PostR.tru p1 s1
    exact ⟨k, h1, PostR.give h2 r1 (by unfold SlR Rep; rfl)⟩⟩
theorem ie_if (hc : IT X cl Wx c ta) (ha : IE X cl Wx a ma) (hb : IE X cl Wx b mb) : IE X cl Wx (.IfExp c a b pos) (mIf ta ma mb) :=
  pe_weak (pe_ifExp hc ha hb) fun σ H Q ⟨env, ρ, G, st, rel, er, p⟩ => ⟨env, ρ, G, st, rel, er, p.bind fun x st1 ρ1 G1 H1 u f1 r1 s1 p1 => by
    subst s1
    cases x with
    | true => exact ⟨env, ρ1, G1, st1, r1, er.mono f1, p1⟩
    | false => exact ⟨env, ρ1, G1, st1, r1, er.mono f1, p1⟩⟩
theorem ia_nil : IA X cl Wx [] mNil := pa_weak pa_nil fun σ H Q ⟨env, ρ, G, st, rel, er, p⟩ => p.give rel (by rfl)
theorem ia_cons {ra : MA} (ha : IE X cl Wx a ma) (hr : IA X cl Wx rest ra) (hs : starEach (a :: rest) X.env = (false, eval a X.env) :: starEach rest X.env := by rfl) : IA X cl Wx (a :: rest) (mCons ma ra) :=
  pa_weak (pa_cons ha hr hs) fun σ H Q ⟨env, ρ, G, st, rel, er, p⟩ => ⟨env, ρ, G, st, rel, er, p.bind fun x st1 ρ1 G1 H1 u f1 r1 s1 p1 => ⟨env, ρ1, G1, st1, r1, er.mono f1, PostR.bind (R1 := SlRs ⟨X.K, cl⟩) p1 fun xs st2 ρ2 G2 H2 us f2 r2 s2 p2 =>
    p2.give r2 ⟨u, us, rfl, s1.mono f2, s2⟩⟩⟩
theorem ie_tup {es : List Expr} {x1} {ra : MA} (h : IA X cl Wx es ra) : IE X cl Wx (.Tuple es x1 pos) (mTup ra) :=
  pe_weak (pe_tup h) fun σ H Q ⟨env, ρ, G, st, rel, er, p⟩ => ⟨env, ρ, G, st, rel, er, PostR.bind (R1 := SlRs ⟨X.K, cl⟩) p fun xs st1 ρ1 G1 H1 us f1 r1 s1 p1 => by
    split at p1
    · rename_i ws e
      split at p1
      · rename_i hb
        have hr := vals_reps e s1
        refine ⟨by rw [big_line, ← hr.length]; exact hb, fun q hq => ?_⟩
        obtain ⟨f2, r2⟩ := r1.newG (o := .tup us) hq
        exact p1 _ _ _ _ f2 r2 (by unfold SlR Rep; exact ⟨q, us, rfl, SqT.of upd_same, Reps.mono f2.ex _ _ hr⟩)
      · exact p1.elim
    · exact p1.elim⟩
theorem ie_lst {es : List Expr} {ra : MA} (h : IA X cl Wx es ra) : IE X cl Wx (.List es pos) (mLst ra) :=
  pe_weak (pe_lst h) fun σ H Q ⟨env, ρ, G, st, rel, er, p⟩ => ⟨env, ρ, G, st, rel, er, PostR.bind (R1 := SlRs ⟨X.K, cl⟩) p fun xs st1 ρ1 G1 H1 us f1 r1 s1 p1 => by
    split at p1
    · rename_i ws e
      split at p1
      · rename_i hb
        have hr := vals_reps e s1
        refine ⟨by rw [big_line, ← hr.length]; exact hb, fun q hq => ?_⟩
        obtain ⟨f2, r2⟩ := r1.newG (o := .lst us) hq
        exact p1 _ _ _ _ f2 r2 (by unfold SlR Rep; exact ⟨q, us, rfl, upd_same, Reps.mono f2.ex _ _ hr⟩)
      · exact p1.elim
    · exact p1.elim⟩
theorem ie_lstM {es : List Expr} {ra : MA} (h : IA X cl Wx es ra) : IE X cl Wx (.List es pos) (mLstM ra) :=
  pe_weak (pe_lst h) fun σ H Q ⟨env, ρ, G, st, rel, er, p⟩ => ⟨env, ρ, G, st, rel, er, PostR.bind (R1 := SlRs ⟨X.K, cl⟩) p fun xs st1 ρ1 G1 H1 us f1 r1 s1 p1 => by
    split at p1
    · rename_i ws e
      split at p1
      · rename_i hb
        have hr := vals_reps e s1
        refine ⟨by rw [big_line, ← hr.length]; exact hb, fun q hq => ?_⟩
        obtain ⟨f2, r2⟩ := r1.newL (o := .lst us) (x := .lst ws) hq ⟨us, rfl, hr⟩
        exact p1 _ _ _ _ f2 r2 ⟨q, by show (ρ1.l ++ [q])[st1.l.length]? = some q; rw [← r1.ll]; simp, rfl⟩
      · exact p1.elim
    · exact p1.elim⟩
def spM (T : Tx) (n : Nat) (F : MF) : Sp := fun vs H Q E => ∃ ρ G st args, Rel T ρ G H st ∧ SlRs T ρ G args vs ∧ args.length = n ∧ PostR T ρ G (SlR T) (F args st) Q E
def Ar (F : MF) (n : Nat) : Prop := ∀ args st, args.length ≠ n → F args st = .bad
theorem ie_call {F : MF} {k n : Nat} {f : Addr} {fd : FuncData} {ps : List Str} {x : Str} {p pos : Pos} {e : Expr} {es : List Expr} {ra : MA} (hF : FnOk X.prog X.w X.K X.mg X.base (CXm X.K X.prog X.w) k f fd ps (spM ⟨X.K, cl⟩ n F)) (hn : Ar F n) (tk : Takes X Wx) (hr : Room k X.A) (hg : Gl X x) (hm : X.mg x = some (.ref f)) (hk : PySem.W.keepIn X.K (.ref f) = true) (hb : Binds X.K fd ps [])
    (ha : IA X cl Wx (e :: es) ra) (hdb : (x == ("__debug__" : Str)) = false := by decide) (he : starEach (e :: es) X.env = (false, eval e X.env) :: starEach es X.env := by rfl) (hpl : (backTo pos (starEach es X.env)).any (·.1) = false := by rfl) :
    IE X cl Wx (.Call (.Name x p) (e :: es) [] pos) (mCall F ra) :=
  pe_weak (pe_callS hF hr hg hm hk hb (fun σ => passAt tk σ) ha hdb he hpl) fun σ H Q ⟨env, ρ, G, st, rel, er, p⟩ => ⟨env, ρ, G, st, rel, er, PostR.bind (R1 := SlRs ⟨X.K, cl⟩) p fun xs st1 ρ1 G1 H1 us f1 r1 s1 p1 => by
    refine ⟨ρ1, G1, st1, xs, r1, s1, ?_, p1⟩
    by_cases h : xs.length = n
    · exact h
    · rw [hn xs st1 h] at p1; exact p1.elim⟩
theorem ie_callB {id : String} {r : List V → Hp → VK → Prop} {F : MF} {x : Str} {p pos : Pos} {e : Expr} {es : List Expr} {ra : MA} (hc : CallR X (.builtin id) r) (hs : CaS ⟨X.K, cl⟩ r F) (hg : Gl X x) (hm : X.mg x = none) (hv : bootBuiltins x = some (.builtin id)) (ha : IA X cl Wx (e :: es) ra) (hn : x ≠ "__name__" := by decide) (hdb : (x == ("__debug__" : Str)) = false := by decide)
    (he : starEach (e :: es) X.env = (false, eval e X.env) :: starEach es X.env := by rfl) (hpl : (backTo pos (starEach es X.env)).any (·.1) = false := by rfl) : IE X cl Wx (.Call (.Name x p) (e :: es) [] pos) (mCall F ra) :=
  pe_weak (pe_callB hc hg hm hv ha hn hdb he hpl) fun σ H Q ⟨env, ρ, G, st, rel, er, p⟩ => ⟨env, ρ, G, st, rel, er, PostR.bind (R1 := SlRs ⟨X.K, cl⟩) p fun xs st1 ρ1 G1 H1 us f1 r1 s1 p1 => hs ρ1 G1 H1 st1 xs us Q _ r1 s1 p1⟩
theorem ie_callTy {id : String} {r : List V → Hp → VK → Prop} {F : MF} {x : Str} {p pos : Pos} {e : Expr} {es : List Expr} {ra : MA} (hc : CallR X (.type id) r) (hs : CaS ⟨X.K, cl⟩ r F) (hg : Gl X x) (hm : X.mg x = none) (hv : bootBuiltins x = some (.type id)) (ha : IA X cl Wx (e :: es) ra) (hn : x ≠ "__name__" := by decide) (hdb : (x == ("__debug__" : Str)) = false := by decide)
    (he : starEach (e :: es) X.env = (false, eval e X.env) :: starEach es X.env := by rfl) (hpl : (backTo pos (starEach es X.env)).any (·.1) = false := by rfl) : IE X cl Wx (.Call (.Name x p) (e :: es) [] pos) (mCall F ra) :=
  pe_weak (pe_callTy hc hg hm hv ha hn hdb he hpl) fun σ H Q ⟨env, ρ, G, st, rel, er, p⟩ => ⟨env, ρ, G, st, rel, er, PostR.bind (R1 := SlRs ⟨X.K, cl⟩) p fun xs st1 ρ1 G1 H1 us f1 r1 s1 p1 => hs ρ1 G1 H1 st1 xs us Q _ r1 s1 p1⟩
end
end Mz

set_option Elab.async false
set_option linter.all false
set_option maxRecDepth 100000
set_option maxHeartbeats 4000000
namespace Mz
open PySem PySem.Spec PyProof.Rows L2

inductive Pat where
  | nm (i : Nat) | tp (ps : List Pat)
mutual
def bindP : Pat → W → Env → Option Env
  | .nm i, w, env => some (env.set i (some (.v w)))
  | .tp ps, .tup ws, env => bindPs ps ws env
  | .tp _, _, _ => none
def bindPs : List Pat → List W → Env → Option Env
  | [], [], env => some env
  | p :: ps, w :: ws, env => match bindP p w env with
    | some env1 => bindPs ps ws env1
    | none => none
  | _, _, _ => none
end
mutual
def Pat.slots : Pat → List Nat
  | .nm i => [i]
  | .tp ps => Pat.slotss ps
def Pat.slotss : List Pat → List Nat
  | [] => []
  | p :: ps => Pat.slots p ++ Pat.slotss ps
end
theorem wipe_at (σ : L2.St) : ∀ (vs : List Nat) (i : Nat), (wipe σ vs)[i]? = if i ∈ vs ∧ i < σ.length then some none else σ[i]?
  | [], i => by simp [wipe]
  | v :: vs, i => by
    unfold wipe
    by_cases h : v = i
    · subst h
      by_cases hl : v < σ.length
      · rw [List.getElem?_set_self (by rw [wipe_length]; exact hl), if_pos ⟨List.mem_cons_self, hl⟩]
      · rw [List.getElem?_eq_none (by rw [List.length_set, wipe_length]; omega), if_neg (fun z => hl z.2), List.getElem?_eq_none (by omega)]
    · rw [List.getElem?_set_ne h, wipe_at σ vs i]
      have e : (i ∈ v :: vs) ↔ (i ∈ vs) := by
        rw [List.mem_cons]
        exact ⟨fun z => z.elim (fun z => absurd z.symm h) id, Or.inr⟩
      simp only [e]
theorem wipe_eq {σ τ : L2.St} {vs : List Nat} (hl : σ.length = τ.length) (h : ∀ i, i ∉ vs → σ[i]? = τ[i]?) : wipe σ vs = wipe τ vs := by
  apply List.ext_getElem?
  intro i
  rw [wipe_at, wipe_at, hl]
  by_cases hv : i ∈ vs
  · by_cases hi : i < τ.length
    · rw [if_pos ⟨hv, hi⟩, if_pos ⟨hv, hi⟩]
    · rw [if_neg (fun z => hi z.2), if_neg (fun z => hi z.2), List.getElem?_eq_none (by omega), List.getElem?_eq_none (by omega)]
  · rw [if_neg (fun z => hv z.1), if_neg (fun z => hv z.1)]
    exact h i hv
def Only (vs : List Nat) (σ σ' : L2.St) : Prop := σ'.length = σ.length ∧ ∀ i, i ∉ vs → σ'[i]? = σ[i]?
theorem Only.refl (vs : List Nat) (σ : L2.St) : Only vs σ σ := ⟨rfl, fun _ _ => rfl⟩
theorem Only.trans {v1 v2 : List Nat} {σ σ1 σ2 : L2.St} (a : Only v1 σ σ1) (b : Only v2 σ1 σ2) : Only (v1 ++ v2) σ σ2 := ⟨b.1.trans a.1, fun i hi => (b.2 i (fun z => hi (List.mem_append_right _ z))).trans (a.2 i (fun z => hi (List.mem_append_left _ z)))⟩
theorem Only.wipe {v vs : List Nat} {σ σ' : L2.St} (h : Only v σ σ') (hs : ∀ i ∈ v, i ∈ vs) : wipe σ' vs = wipe σ vs := wipe_eq h.1 fun i hi => h.2 i fun z => hi (hs i z)
def GoS (T : Tx) (g : TG) (p : Pat) : Prop := ∀ ρ G H st w u env env' σ Q, Rel T ρ G H st → Rep T G w u → EnvR T ρ G env σ → bindP p w env = some env' → (∀ σ', EnvR T ρ G env' σ' → Only p.slots σ σ' → Q σ' H) → g u σ H Q
def GosS (T : Tx) (g : TGs) (ps : List Pat) : Prop := ∀ ρ G H st ws us env env' σ Q, Rel T ρ G H st → Reps T G ws us → EnvR T ρ G env σ → bindPs ps ws env = some env' → (∀ σ', EnvR T ρ G env' σ' → Only (Pat.slotss ps) σ σ' → Q σ' H) → g us σ H Q
theorem go_nm {T : Tx} {i : Nat} : GoS T (gName i) (.nm i) := fun ρ G H st w u env env' σ Q r hw er hb k => by
  unfold bindP at hb; cases hb
  exact k _ (er.set i (show SlR T ρ G (.v w) u from hw)) ⟨List.length_set, fun j hj => List.getElem?_set_ne (fun z => hj (by rw [z]; unfold Pat.slots; simp))⟩
theorem gos_nil {T : Tx} : GosS T gNil [] := fun ρ G H st ws us env env' σ Q r hw er hb k => by
  cases ws with
  | nil => unfold bindPs at hb; cases hb; unfold Reps at hw; exact ⟨hw, k σ er (Only.refl _ _)⟩
  | cons w ws => unfold bindPs at hb; cases hb
theorem gos_cons {T : Tx} {g : TG} {gs : TGs} {p : Pat} {ps : List Pat} (h : GoS T g p) (hs : GosS T gs ps) : GosS T (gCons g gs) (p :: ps) := fun ρ G H st ws us env env' σ Q r hw er hb k => by
  cases ws with
  | nil => unfold bindPs at hb; cases hb
  | cons w ws =>
    unfold bindPs at hb
    split at hb
    · rename_i env1 e1
      unfold Reps at hw
      obtain ⟨v, q, rfl, h1, h2⟩ := hw
      exact ⟨v, q, rfl, h ρ G H st w v env env1 σ _ r h1 er e1 fun σ1 er1 o1 => hs ρ G H st ws q env1 env' σ1 Q r h2 er1 hb fun σ2 er2 o2 => k σ2 er2 (by unfold Pat.slotss; exact o1.trans o2)⟩
    · cases hb
theorem bindPs_len : ∀ {ps : List Pat} {ws : List W} {env env' : Env}, bindPs ps ws env = some env' → ws.length = ps.length
  | [], [], _, _, _ => rfl
  | [], _ :: _, _, _, h => by unfold bindPs at h; cases h
  | _ :: _, [], _, _, h => by unfold bindPs at h; cases h
  | p :: ps, w :: ws, env, env', h => by
    unfold bindPs at h
    split at h
    · rw [List.length_cons, List.length_cons, bindPs_len h]
    · cases h
theorem go_tp {T : Tx} {g : TGs} {ps : List Pat} {n : Nat} (hn : n = ps.length) (h : GosS T g ps) : GoS T (gTup T.K n g) (.tp ps) := fun ρ G H st w u env env' σ Q r hw er hb k => by
  cases w with
  | tup ws =>
    unfold bindP at hb
    unfold Rep at hw
    obtain ⟨a, vs, h1, h2, h3⟩ := hw
    refine ⟨a, vs, h1, sqt_mono r.ext h2, ?_, h ρ G H st ws vs env env' σ Q r h3 er hb fun σ' e' o' => k σ' e' (by unfold Pat.slots; exact o')⟩
    rw [hn, ← h3.length, bindPs_len hb]
  | _ => unfold bindP at hb; cases hb

def mSeq (a b : MS) : MS := fun env st => match a env st with
  | .nx env1 st1 => b env1 st1
  | r => r
def mPass : MS := fun env st => .nx env st
def mBrk : MS := fun env st => .bk env st
def ofR {α : Type} (env : Env) (r : Res α) (k : α → Store → SR) : SR := match r with
  | .ok a st => k a st
  | .ex c ns ws st => .ex c ns ws env st
  | .bad => .bad
def mAsg (i : Nat) (a : ME) : MS := fun env st => ofR env (a env st) fun x st1 => .nx (env.set i (some x)) st1
def mDrop (a : ME) : MS := fun env st => ofR env (a env st) fun _ st1 => .nx env st1
def mRet (a : ME) : MS := fun env st => ofR env (a env st) fun x st1 => .rt x st1
def mIfS (t : MT) (a b : MS) : MS := fun env st => ofR env (t env st) fun c st1 => if c = true then a env st1 else b env st1

section
variable {T : Tx} {ρ ρ' : Mp} {G G' H : Hp} {st : Store}
theorem PostS.ofR {α β : Type} {R : Mp → Hp → α → β → Prop} {r : Res α} {k : α → Store → SR} {env : Env} {σ : L2.St} {D : Ends} {Wx : WX} {Q' : β → Hp → Prop} (er : EnvR T ρ G env σ) (h : PostS T ρ G (Mz.ofR env r k) D Wx)
    (hk : ∀ a st' ρ' G' H' u, Fr ρ ρ' G G' → Rel T ρ' G' H' st' → R ρ' G' a u → PostS T ρ' G' (k a st') D Wx → Q' u H') : PostR T ρ G R r Q' fun c d H' => Wx c d σ H' := by
  cases r with
  | ok a st => exact fun ρ1 G1 H1 u f1 rel r1 => hk a st ρ1 G1 H1 u f1 rel r1 (PostS.mono f1 h)
  | ex c ns ws st => exact fun ρ1 G1 H1 d f1 rel hx => h ρ1 G1 H1 σ d f1 rel (er.mono f1) hx
  | bad => exact h
theorem PostS.nx {env : Env} {σ : L2.St} {D : Ends} {Wx : WX} (h : PostS T ρ G (.nx env st) D Wx) (r : Rel T ρ G H st) (er : EnvR T ρ G env σ) : D.nx σ H := h ρ G H σ (Fr.refl ρ G) r er
theorem PostS.seq {a : SR} {b : MS} {D : Ends} {Wx : WX} {P : L2.St → Hp → Prop} (h : PostS T ρ G (match a with | .nx env1 st1 => b env1 st1 | r => r) D Wx)
    (hk : ∀ env1 st1 ρ' G' H' σ', Fr ρ ρ' G G' → Rel T ρ' G' H' st1 → EnvR T ρ' G' env1 σ' → PostS T ρ' G' (b env1 st1) D Wx → P σ' H') : PostS T ρ G a { D with nx := P } Wx := by
  cases a with
  | nx env1 st1 => exact fun ρ1 G1 H1 σ1 f1 r1 e1 => hk env1 st1 ρ1 G1 H1 σ1 f1 r1 e1 (PostS.mono f1 h)
  | rt s st1 => exact h
  | bk env1 st1 => exact h
  | ct env1 st1 => exact h
  | ex c ns ws env1 st1 => exact h
  | bad => exact h
end
section
variable {X : Cx} {cl : Nat → Addr} {Wx : WX} {s : Stmt} {ss : List Stmt} {ms mss : MS} {e c : Expr} {me : ME} {mt : MT} {pos : Pos}
theorem is_nil : ISs X cl Wx [] mPass := pss_weak pss_nil fun D σ H ⟨env, ρ, G, st, r, er, p⟩ => PostS.nx p r er
theorem is_one (h : IS X cl Wx s ms) : ISs X cl Wx [s] ms := pss_one h
theorem is_cons (h : IS X cl Wx s ms) (hs : ISs X cl Wx ss mss) : ISs X cl Wx (s :: ss) (mSeq ms mss) :=
  pss_weak (pss_cons h hs) fun D σ H ⟨env, ρ, G, st, r, er, p⟩ => ⟨env, ρ, G, st, r, er, PostS.seq p fun env1 st1 ρ1 G1 H1 σ1 f1 r1 e1 p1 => ⟨env1, ρ1, G1, st1, r1, e1, p1⟩⟩
theorem is_brk : IS X cl Wx (.Break pos) mBrk := ps_weak ps_break fun D σ H ⟨env, ρ, G, st, r, er, p⟩ => p ρ G H σ (Fr.refl ρ G) r er
theorem is_asg (i : Nat) {x : Str} {pos' : Pos} (hN : X.N.Nodup) (he : IE X cl Wx e me) (hi : X.N[i]? = some x := by rfl) (hx : Loc X.env.scope x := by first | exact Or.inl rfl | exact Or.inr rfl) (hs : swapsWith e (some (.Name x pos')) pos.line X.env = pure false := by rfl)
    (hf : X.fn x = true ∨ X.env.scope.names.lookup x = some .local := by first | exact .inl rfl | exact .inr rfl | assumption) : IS X cl Wx (.Assign [.Name x pos'] e pos) (mAsg i me) :=
  ps_weak (ps_set hN hi hx he hs hf) fun D σ H ⟨env, ρ, G, st, r, er, p⟩ => ⟨env, ρ, G, st, r, er, PostS.ofR er p fun x st1 ρ1 G1 H1 u f1 r1 s1 p1 => PostS.nx p1 r1 ((er.mono f1).set i s1)⟩
theorem is_expr (he : IE X cl Wx e me) (hs : swapsWith e none pos.line X.env = pure false := by rfl) : IS X cl Wx (.Expr e pos) (mDrop me) :=
  ps_weak (ps_expr he hs) fun D σ H ⟨env, ρ, G, st, r, er, p⟩ => ⟨env, ρ, G, st, r, er, PostS.ofR (R := SlR ⟨X.K, cl⟩) er p fun x st1 ρ1 G1 H1 u f1 r1 s1 p1 => PostS.nx p1 r1 (er.mono f1)⟩
theorem is_ret (he : IE X cl Wx e me) : IS X cl Wx (.Return (some e) pos) (mRet me) :=
  ps_weak (ps_ret he) fun D σ H ⟨env, ρ, G, st, r, er, p⟩ => ⟨env, ρ, G, st, r, er, PostS.ofR (R := SlR ⟨X.K, cl⟩) er p fun x st1 ρ1 G1 H1 u f1 r1 s1 p1 => p1 ρ1 G1 H1 u (Fr.refl _ _) r1 s1⟩
theorem is_if {a b : List Stmt} {ma mb : MS} (hc : IT X cl Wx c mt) (ha : ISs X cl Wx a ma) (hb : ISs X cl Wx b mb) : IS X cl Wx (.If c a b pos) (mIfS mt ma mb) :=
  ps_weak (ps_if hc ha hb) fun D σ H ⟨env, ρ, G, st, r, er, p⟩ => ⟨env, ρ, G, st, r, er, PostS.ofR (R := fun _ _ a b => a = b) er p fun x st1 ρ1 G1 H1 u f1 r1 s1 p1 => by
    subst s1
    cases x with
    | true => exact ⟨env, ρ1, G1, st1, r1, er.mono f1, p1⟩
    | false => exact ⟨env, ρ1, G1, st1, r1, er.mono f1, p1⟩⟩
end

structure Src where
  xs : List W
  gd : Store → Prop
structure ItS (T : Tx) (ρ : Mp) (G : Hp) (s : Src) (J : It) : Prop where
  stop : ∀ i H st ρ' G', Fr ρ ρ' G G' → Rel T ρ' G' H st → s.gd st → s.xs.length ≤ i → J.stop i H
  go : ∀ i w H st ρ' G', Fr ρ ρ' G G' → Rel T ρ' G' H st → s.gd st → s.xs[i]? = some w → J.go i H ∧ ∀ x H', J.yld i H x H' → ∃ G'', Fr ρ' ρ' G' G'' ∧ Rel T ρ' G'' H' st ∧ Rep T G'' w x
theorem ItS.mono {T : Tx} {ρ ρ' : Mp} {G G' : Hp} {s : Src} {J : It} (f : Fr ρ ρ' G G') (h : ItS T ρ G s J) : ItS T ρ' G' s J :=
  ⟨fun i H st ρ1 G1 f1 => h.stop i H st ρ1 G1 (f.trans f1), fun i w H st ρ1 G1 f1 => h.go i w H st ρ1 G1 (f.trans f1)⟩
abbrev MI := Env → Store → Res Src
def tI (T : Tx) (Wx : WX) (m : MI) : TI := fun σ H R => ∃ env ρ G st, Rel T ρ G H st ∧ EnvR T ρ G env σ ∧ PostR T ρ G (ItS T) (m env st) R fun c d H' => Wx c d σ H'
abbrev II (X : Cx) (cl : Nat → Addr) (Wx : WX) (tg iter : Expr) (m : MI) : Prop := PI X tg iter (tI ⟨X.K, cl⟩ Wx m)
theorem pi_weak {X : Cx} {tg e : Expr} {t t' : TI} (h : PI X tg e t) (k : ∀ σ H Q, t' σ H Q → t σ H Q) : PI X tg e t' := ⟨fun pins s σ H Q I q => h.run pins s σ H Q I (k σ H Q q)⟩
def stands (s : Sl) (xs : List W) (st : Store) : Prop := match s with
  | .l n => st.lget n = some xs
  | _ => True
def rangeW (lo : Int) (n : Nat) : List W := (List.range n).map fun i => .int (lo + (i : Nat))
def mItR1 (a : MA) : MI := fun env st => (a env st).bind fun xs st1 => match xs with
  | [.v (.int n)] => if -(2 ^ 62) ≤ n ∧ n < 2 ^ 62 then .ok ⟨rangeW 0 n.toNat, fun _ => True⟩ st1 else .bad
  | _ => .bad
def mItR2 (a : MA) : MI := fun env st => (a env st).bind fun xs st1 => match xs with
  | [.v (.int i), .v (.int j)] => if -(2 ^ 62) ≤ i ∧ i < 2 ^ 62 ∧ -(2 ^ 62) ≤ j ∧ j < 2 ^ 62 then .ok ⟨rangeW i (j - i).toNat, fun _ => True⟩ st1 else .bad
  | _ => .bad
theorem litems_stand {st st' : Store} {x : Sl} {xs : List W} (h : litems st x = some xs) (hs : stands x xs st') : litems st' x = some xs := by
  cases x with
  | v w => cases w <;> exact h
  | l n => exact hs
  | o n => cases h
  | t ns => cases h
  | q k y => cases h
  | z k y => cases h
theorem its_list {T : Tx} {ρ : Mp} {G H : Hp} {st : Store} {x : Sl} {u : V} {xs : List W} {a : Addr} (hx : SlR T ρ G x (.ref a)) (h : litems st x = some xs) : ItS T ρ G ⟨xs, stands x xs⟩ (Itl T.K a) := by
  refine ⟨fun i H st' ρ' G' f r g hi => ?_, fun i w H st' ρ' G' f r g hw => ?_⟩
  · obtain ⟨b, vs, e, hq, hr⟩ := litems_at r (hx.mono f) (litems_stand h g)
    cases e
    exact ⟨vs, hq, by rw [← hr.length]; exact hi⟩
  · obtain ⟨b, vs, e, hq, hr⟩ := litems_at r (hx.mono f) (litems_stand h g)
    cases e
    obtain ⟨v, hv, rv⟩ := Reps.get' hr hw
    refine ⟨⟨vs, v, hq, hv⟩, fun y H' hy => ?_⟩
    obtain ⟨rfl, hy⟩ := hy
    have e := hy vs hq
    rw [hv] at e
    cases e
    exact ⟨G', Fr.refl _ _, r, rv⟩
theorem its_tup {T : Tx} {ρ : Mp} {G : Hp} {xs : List W} {a : Addr} {vs : List V} (hq : SqT T.K G a vs) (hr : Reps T G xs vs) : ItS T ρ G ⟨xs, fun _ => True⟩ (Itt T.K a) := by
  refine ⟨fun i H st' ρ' G' f r g hi => ?_, fun i w H st' ρ' G' f r g hw => ?_⟩
  · exact ⟨vs, sqt_mono r.ext (sqt_mono f.ex hq), by rw [← hr.length]; exact hi⟩
  · obtain ⟨v, hv, rv⟩ := Reps.get' hr hw
    have hq' := sqt_mono r.ext (sqt_mono f.ex hq)
    refine ⟨⟨vs, v, hq', hv⟩, fun y H' hy => ?_⟩
    obtain ⟨rfl, hy⟩ := hy
    have e := hy vs hq'
    rw [hv] at e
    cases e
    exact ⟨G', Fr.refl _ _, r, Rep.mono f.ex _ _ rv⟩
theorem its_range {T : Tx} {ρ : Mp} {G : Hp} {lo : Int} {n : Nat} : ItS T ρ G ⟨rangeW lo n, fun _ => True⟩ (Itr lo n) := by
  refine ⟨fun i H st' ρ' G' f r g hi => ?_, fun i w H st' ρ' G' f r g hw => ?_⟩
  · unfold rangeW at hi; simp at hi; exact hi
  · have hw' : (rangeW lo n)[i]? = some w := hw
    have hl := get_lt hw'
    unfold rangeW at hw' hl
    simp at hl
    rw [List.getElem?_map, List.getElem?_range hl] at hw'
    cases hw'
    refine ⟨hl, fun y H' hy => ?_⟩
    obtain ⟨rfl, rfl⟩ := hy
    exact ⟨G', Fr.refl _ _, r, by unfold Rep; rfl⟩
section
variable {X : Cx} {cl : Nat → Addr} {Wx : WX} {tg e : Expr} {me : ME} {ma : MA} {pos : Pos}
theorem slrs1 {T : Tx} {ρ : Mp} {G : Hp} {x : Sl} {us : List V} (h : SlRs T ρ G [x] us) : ∃ u, us = [u] ∧ SlR T ρ G x u := by
  obtain ⟨v, r, rfl, h1, rfl⟩ := h; exact ⟨v, rfl, h1⟩
theorem slrs2 {T : Tx} {ρ : Mp} {G : Hp} {x y : Sl} {us : List V} (h : SlRs T ρ G [x, y] us) : ∃ u v, us = [u, v] ∧ SlR T ρ G x u ∧ SlR T ρ G y v := by
  obtain ⟨v, r, rfl, h1, h2⟩ := h; obtain ⟨w, rfl, h3⟩ := slrs1 h2; exact ⟨v, w, rfl, h1, h3⟩
theorem ii_range1 {a : Expr} {p pos : Pos} (hg : Gl X "range") (hm : X.mg "range" = none) (ha : IA X cl Wx [a] ma) (hs : starEach [a] X.env = [(false, eval a X.env)] := by rfl) : II X cl Wx tg (.Call (.Name "range" p) [a] [] pos) (mItR1 ma) :=
  pi_weak (pi_range1 hg hm ha hs) fun σ H Q ⟨env, ρ, G, st, rel, er, p⟩ => ⟨env, ρ, G, st, rel, er, PostR.bind (R1 := SlRs ⟨X.K, cl⟩) p fun xs st1 ρ1 G1 H1 us f1 r1 s1 p1 => by
    split at p1
    · split at p1
      · rename_i n hb
        obtain ⟨u, rfl, h1⟩ := slrs1 s1
        unfold SlR Rep at h1
        subst h1
        exact ⟨n, rfl, hb.1, hb.2, p1.give r1 its_range⟩
      · exact p1.elim
    · exact p1.elim⟩
theorem ii_range2 {a b : Expr} {p pos : Pos} (hg : Gl X "range") (hm : X.mg "range" = none) (ha : IA X cl Wx [a, b] ma) (hs : starEach [a, b] X.env = [(false, eval a X.env), (false, eval b X.env)] := by rfl) (hs2 : starEach [b] X.env = [(false, eval b X.env)] := by rfl) : II X cl Wx tg (.Call (.Name "range" p) [a, b] [] pos) (mItR2 ma) :=
  pi_weak (pi_range2 hg hm ha hs hs2) fun σ H Q ⟨env, ρ, G, st, rel, er, p⟩ => ⟨env, ρ, G, st, rel, er, PostR.bind (R1 := SlRs ⟨X.K, cl⟩) p fun xs st1 ρ1 G1 H1 us f1 r1 s1 p1 => by
    split at p1
    · split at p1
      · rename_i i j hb
        obtain ⟨u, v, rfl, h1, h2⟩ := slrs2 s1
        unfold SlR Rep at h1 h2
        subst h1 h2
        exact ⟨i, j, rfl, hb, p1.give r1 its_range⟩
      · exact p1.elim
    · exact p1.elim⟩
end

open Classical in
noncomputable def loopL (gd : Store → Prop) (pt : Pat) (mb : MS) : List W → MS
  | [], env, st => if gd st then .nx env st else .bad
  | x :: xs, env, st => if gd st then (match bindP pt x env with
    | some env1 => match mb env1 st with
      | .nx env2 st2 => loopL gd pt mb xs env2 st2
      | .ct env2 st2 => loopL gd pt mb xs env2 st2
      | .bk env2 st2 => .nx env2 st2
      | r => r
    | none => .bad) else .bad
noncomputable def mFor (mi : MI) (pt : Pat) (mb : MS) : MS := fun env st => ofR env (mi env st) fun s st1 => loopL s.gd pt mb s.xs env st1
section
variable {T : Tx} {ρ ρ' : Mp} {G G' H : Hp} {st : Store}
theorem loop_gd {gd : Store → Prop} {pt : Pat} {mb : MS} {xs : List W} {env : Env} {D : Ends} {Wx : WX} (h : PostS T ρ G (loopL gd pt mb xs env st) D Wx) : gd st := by
  by_cases g : gd st
  · exact g
  · cases xs with
    | nil => unfold loopL at h; rw [if_neg g] at h; exact h.elim
    | cons x xs => unfold loopL at h; rw [if_neg g] at h; exact h.elim
theorem drop_at {α : Type} {xs : List α} {i : Nat} (h : i < xs.length) : xs.drop i = xs[i] :: xs.drop (i + 1) := List.drop_eq_getElem_cons h
end
section
variable {X : Cx} {cl : Nat → Addr} {Wx : WX} {tg iter : Expr} {body : List Stmt} {mi : MI} {mb : MS} {g : TG} {pt : Pat} {pos : Pos} {mt : MT} {c : Expr}
theorem is_for (hp : PassesOwn (model X.prog X.w) X.A X.env X.xe) (hc : X.calm = true) (hi : II X cl Wx tg iter mi) (hg : PG X tg g) (hgs : GoS ⟨X.K, cl⟩ g pt) (hb : ISs X cl Wx body mb) (hs : ∀ x, foldedSetIterable iter X.env x = pure x := by intro _; rfl) : IS X cl Wx (.For tg iter body [] pos) (mFor mi pt mb) :=
  ps_weak (ps_for hp hc hi hg hb hs) fun D σ H ⟨env, ρ, G, st, rel, er, p⟩ => ⟨env, ρ, G, st, rel, er, PostS.ofR (R := ItS ⟨X.K, cl⟩) er p fun s st1 ρ1 G1 H1 J f1 r1 its p1 => by
    refine ⟨fun i m σ' H' => ∃ env' ρ' G' st', m = s.xs.length - i ∧ i ≤ s.xs.length ∧ Fr ρ1 ρ' G1 G' ∧ Rel ⟨X.K, cl⟩ ρ' G' H' st' ∧ EnvR ⟨X.K, cl⟩ ρ' G' env' σ' ∧ PostS ⟨X.K, cl⟩ ρ' G' (loopL s.gd pt mb (s.xs.drop i) env' st') D Wx,
      ⟨s.xs.length, env, ρ1, G1, st1, by simp, Nat.zero_le _, Fr.refl _ _, r1, er.mono f1, p1⟩, ?_⟩
    rintro i m σ' H' ⟨env', ρ', G', st', rfl, hi, f, r, e, q⟩
    have g' := loop_gd q
    by_cases hlt : i < s.xs.length
    · obtain ⟨h1, h2⟩ := its.go i s.xs[i] H' st' ρ' G' f r g' (List.getElem?_eq_getElem hlt)
      refine .inr ⟨h1, fun σ2 H2 => ∃ env' ρ' G' st', Fr ρ1 ρ' G1 G' ∧ Rel ⟨X.K, cl⟩ ρ' G' H2 st' ∧ EnvR ⟨X.K, cl⟩ ρ' G' env' σ2 ∧ PostS ⟨X.K, cl⟩ ρ' G' (loopL s.gd pt mb (s.xs.drop (i + 1)) env' st') D Wx,
        fun σ2 H2 ⟨env2, ρ2, G2, st2, f2, r2, e2, q2⟩ => ⟨s.xs.length - (i + 1), by omega, env2, ρ2, G2, st2, rfl, hlt, f2, r2, e2, q2⟩, fun x H2 hy => ?_⟩
      obtain ⟨G2, f2, r2, hx⟩ := h2 x H2 hy
      rw [drop_at hlt] at q
      unfold loopL at q
      rw [if_pos g'] at q
      split at q
      · rename_i env1 e1
        refine hgs ρ' G2 H2 st' s.xs[i] x env' env1 σ' _ r2 hx (e.mono f2) e1 fun σ1 er1 _ => ⟨env1, ρ', G2, st', r2, er1, ?_⟩
        have q := PostS.mono f2 q
        revert q
        cases mb env1 st' with
        | nx env2 st2 => exact fun q ρ3 G3 H3 σ3 f3 r3 e3 => ⟨env2, ρ3, G3, st2, (f.trans f2).trans f3, r3, e3, PostS.mono f3 q⟩
        | ct env2 st2 => exact fun q ρ3 G3 H3 σ3 f3 r3 e3 => ⟨env2, ρ3, G3, st2, (f.trans f2).trans f3, r3, e3, PostS.mono f3 q⟩
        | bk env2 st2 => exact fun q => q
        | rt s' st2 => exact fun q => q
        | ex c' ns ws env2 st2 => exact fun q => q
        | bad => exact fun q => q
      · exact q.elim
    · have hi' : i = s.xs.length := by omega
      subst hi'
      rw [List.drop_length] at q
      unfold loopL at q
      rw [if_pos g'] at q
      exact .inl ⟨its.stop _ H' st' ρ' G' f r g' (Nat.le_refl _), PostS.nx q r e⟩⟩

end
def whileN (t : MT) (b : MS) : Nat → Env → Store → Option SR
  | 0, _, _ => none
  | n + 1, env, st => match t env st with
    | .ok c st1 => if c = true then (match b env st1 with
        | .nx env2 st2 => whileN t b n env2 st2
        | .ct env2 st2 => whileN t b n env2 st2
        | .bk env2 st2 => some (.nx env2 st2)
        | r => some r) else some (.nx env st1)
    | .ex c ns ws st1 => some (.ex c ns ws env st1)
    | .bad => some .bad
open Classical in
noncomputable def mWhile (t : MT) (b : MS) : MS := fun env st => if h : ∃ n r, whileN t b n env st = some r then (Classical.choose_spec h).choose else .bad
theorem whileN_succ {t : MT} {b : MS} : ∀ {n : Nat} {env : Env} {st : Store} {r : SR}, whileN t b n env st = some r → whileN t b (n + 1) env st = some r
  | 0, _, _, _, h => by cases h
  | n + 1, env, st, r, h => by
    unfold whileN at h ⊢
    split
    · rename_i c st1 e
      rw [e] at h
      dsimp only at h
      split
      · rename_i hc
        rw [if_pos hc] at h
        split
        · rename_i env2 st2 e2; rw [e2] at h; exact whileN_succ h
        · rename_i env2 st2 e2; rw [e2] at h; exact whileN_succ h
        · rename_i env2 st2 e2; rw [e2] at h; exact h
        · rename_i n1 n2 n3
          revert h
          cases e2 : b env st1 with
          | nx x y => exact absurd e2 (n1 x y)
          | ct x y => exact absurd e2 (n2 x y)
          | bk x y => exact absurd e2 (n3 x y)
          | rt x y => exact fun h => h
          | ex x1 x2 x3 x4 x5 => exact fun h => h
          | bad => exact fun h => h
      · rename_i hc
        rw [if_neg hc] at h; exact h
    · rename_i e; rw [e] at h; exact h
    · rename_i e; rw [e] at h; exact h
theorem whileN_le {t : MT} {b : MS} {n m : Nat} {env : Env} {st : Store} {r : SR} (h : whileN t b n env st = some r) (hm : n ≤ m) : whileN t b m env st = some r := by
  obtain ⟨k, rfl⟩ := Nat.le.dest hm
  clear hm
  induction k with
  | zero => exact h
  | succ k ih => exact whileN_succ ih
theorem mWhile_of {t : MT} {b : MS} {n : Nat} {env : Env} {st : Store} {r : SR} (h : whileN t b n env st = some r) : mWhile t b env st = r := by
  have hx : ∃ n r, whileN t b n env st = some r := ⟨n, r, h⟩
  unfold mWhile
  rw [dif_pos hx]
  have e := (Classical.choose_spec hx).choose_spec
  have e1 := whileN_le e (Nat.le_max_left _ n)
  have e2 := whileN_le h (Nat.le_max_right (Classical.choose hx) n)
  rw [e1] at e2
  exact Option.some.inj e2
theorem mWhile_get {t : MT} {b : MS} {env : Env} {st : Store} (h : mWhile t b env st ≠ .bad) : ∃ n, whileN t b n env st = some (mWhile t b env st) := by
  by_cases hx : ∃ n r, whileN t b n env st = some r
  · obtain ⟨n, r, e⟩ := hx
    exact ⟨n, by rw [mWhile_of e]; exact e⟩
  · unfold mWhile at h
    rw [dif_neg hx] at h
    exact absurd rfl h
section
variable {X : Cx} {cl : Nat → Addr} {Wx : WX} {body : List Stmt} {mb : MS} {pos : Pos} {mt : MT} {c : Expr}
theorem is_while (hp : PassesOwn (model X.prog X.w) X.A X.env X.xe) (hc : IT X cl Wx c mt) (hb : ISs X cl Wx body mb) : IS X cl Wx (.While c body [] pos) (mWhile mt mb) :=
  ps_weak (ps_while hp hc hb) fun D σ H ⟨env, ρ, G, st, rel, er, p⟩ => by
    have hne : mWhile mt mb env st ≠ .bad := fun z => by rw [z] at p; exact p
    obtain ⟨n, hn⟩ := mWhile_get hne
    refine ⟨fun m σ' H' => ∃ env' ρ' G' st' r, whileN mt mb m env' st' = some r ∧ Rel ⟨X.K, cl⟩ ρ' G' H' st' ∧ EnvR ⟨X.K, cl⟩ ρ' G' env' σ' ∧ PostS ⟨X.K, cl⟩ ρ' G' r D Wx, ⟨n, env, ρ, G, st, _, hn, rel, er, p⟩, ?_⟩
    rintro m σ' H' ⟨env', ρ', G', st', r, h, r1, e1, q⟩
    cases m with
    | zero => cases h
    | succ m =>
      refine ⟨env', ρ', G', st', r1, e1, ?_⟩
      unfold whileN at h
      revert h
      cases mt env' st' with
      | ok c st1 =>
        intro h ρ2 G2 H2 u f2 r2 hu
        subst hu
        dsimp only at h
        have q2 := PostS.mono f2 q
        have e2 := e1.mono f2
        cases c with
        | true =>
          rw [if_pos rfl] at h
          refine ⟨fun σ3 H3 => ∃ env' ρ' G' st' r, whileN mt mb m env' st' = some r ∧ Rel ⟨X.K, cl⟩ ρ' G' H3 st' ∧ EnvR ⟨X.K, cl⟩ ρ' G' env' σ3 ∧ PostS ⟨X.K, cl⟩ ρ' G' r D Wx, fun σ3 H3 w => ⟨m, Nat.lt_succ_self _, w⟩, env', ρ2, G2, st1, r2, e2, ?_⟩
          revert h
          cases mb env' st1 with
          | nx env2 st2 => exact fun h ρ3 G3 H3 σ3 f3 r3 e3 => ⟨env2, ρ3, G3, st2, r, h, r3, e3, PostS.mono f3 q2⟩
          | ct env2 st2 => exact fun h ρ3 G3 H3 σ3 f3 r3 e3 => ⟨env2, ρ3, G3, st2, r, h, r3, e3, PostS.mono f3 q2⟩
          | bk env2 st2 => intro h; cases h; exact q2
          | rt s' st2 => intro h; cases h; exact q2
          | ex c' ns ws env2 st2 => intro h; cases h; exact q2
          | bad => intro h; cases h; exact q2
        | false =>
          rw [if_neg Bool.false_ne_true] at h
          cases h
          exact PostS.nx q2 r2 e2
      | ex c ns ws st1 =>
        intro h
        cases h
        exact fun ρ1 G1 H1 d f1 rel hx => q ρ1 G1 H1 σ' d f1 rel (e1.mono f1) hx
      | bad =>
        intro h
        cases h
        exact q
end
end Mz

set_option Elab.async false
set_option linter.all false
set_option maxRecDepth 100000
set_option maxHeartbeats 4000000
namespace Mz
open PySem PySem.Spec PyProof.Rows L2

def wipeE (env : Env) : List Nat → Env
  | [] => env
  | v :: vs => (wipeE env vs).set v none
theorem EnvR.wipe {T : Tx} {ρ : Mp} {G : Hp} {env : Env} {σ : L2.St} (h : EnvR T ρ G env σ) : ∀ vs, EnvR T ρ G (wipeE env vs) (L2.wipe σ vs)
  | [] => h
  | v :: vs => EnvR.unset v none (EnvR.wipe h vs)
def Res.then {α β : Type} (r : Res α) (k : α → Store → Res β) : Res β := match r with
  | .ok a st => k a st
  | _ => .bad
open Classical in
noncomputable def lcL {β : Type} (gd : Store → Prop) (pt : Pat) (mt : MT) (me : ME) (env : Env) (n : Nat) (fin : Store → Res β) : List W → Store → Res β
  | [], st => if gd st then fin st else .bad
  | x :: xs, st => if gd st then (match bindP pt x env with
    | some env1 => (mt env1 st).then fun c st1 => if c = true then (me env1 st1).then fun y st2 => match y, st2.lget n with
        | .v w, some acc => if acc.length < big then lcL gd pt mt me env n fin xs (st2.setl n (.lst (acc ++ [w]))) else .bad
        | _, _ => .bad
      else lcL gd pt mt me env n fin xs st1
    | none => .bad) else .bad
open Classical in
noncomputable def freezeF (n : Nat) (o : List In) (st : Store) : Res Sl := match st.lget n with
  | some xs => if st.l.length = n + 1 ∧ st.o = o then .ok (.v (.lst xs)) ⟨st.l.take n, o⟩ else .bad
  | none => .bad
noncomputable def mLc (mi : MI) (pt : Pat) (mt : MT) (me : ME) (vs : List Nat) : ME := fun env st => (mi env st).bind fun s st1 =>
  lcL s.gd pt mt me (wipeE env vs) st1.l.length (freezeF st1.l.length st1.o) s.xs (st1.push (.lst []))
noncomputable def mLcM (mi : MI) (pt : Pat) (mt : MT) (me : ME) (vs : List Nat) : ME := fun env st => (mi env st).bind fun s st1 =>
  lcL s.gd pt mt me (wipeE env vs) st1.l.length (fun st2 => .ok (.l st1.l.length) st2) s.xs (st1.push (.lst []))
def mYes : MT := fun _ st => .ok true st
abbrev WF : WX := fun _ _ _ _ => False

section
variable {T : Tx} {ρ ρ' : Mp} {G G' H : Hp} {st : Store}
theorem PostR.then {α β γ δ : Type} {ρb : Mp} {Gb : Hp} {R1 : Mp → Hp → α → β → Prop} {R2 : Mp → Hp → γ → δ → Prop} {r : Res α} {k : α → Store → Res γ} {Q : δ → Hp → Prop} {Q' : β → Hp → Prop} {E : XK}
    (h : PostR T ρb Gb R2 (r.then k) Q E)
    (hk : ∀ a st' ρ' G' H' u, Fr ρ ρ' G G' → Rel T ρ' G' H' st' → R1 ρ' G' a u → PostR T ρb Gb R2 (k a st') Q E → Q' u H') : PostR T ρ G R1 r Q' fun _ _ _ => False := by
  cases r with
  | ok a st => exact fun ρ1 G1 H1 u f1 rel r1 => hk a st ρ1 G1 H1 u f1 rel r1 h
  | ex c ns ws st => exact h.elim
  | bad => exact h
theorem lc_gd {β γ : Type} {R : Mp → Hp → β → γ → Prop} {gd : Store → Prop} {pt : Pat} {mt : MT} {me : ME} {env : Env} {n : Nat} {fin : Store → Res β} {xs : List W} {Q : γ → Hp → Prop} {E : XK} (h : PostR T ρ G R (lcL gd pt mt me env n fin xs st) Q E) : gd st := by
  by_cases g : gd st
  · exact g
  · cases xs with
    | nil => unfold lcL at h; rw [if_neg g] at h; exact h.elim
    | cons x xs => unfold lcL at h; rw [if_neg g] at h; exact h.elim
theorem Rel.addG (r : Rel T ρ G H st) {p : Addr} {o : HO} (hp : H p = some o) (hG : G p = none) (hl : ∀ n : Nat, ρ.l[n]? ≠ some p) (ho : ∀ n : Nat, ρ.o[n]? ≠ some p) (hnt : ∀ ps, o ≠ .tbl ps := by first | (intro _ z; cases z; done) | (intro _ z; unfold ItA at z; cases z) | assumption) : Fr ρ ρ G (upd G p o) ∧ Rel T ρ (upd G p o) H st := by
  have f : Fr ρ ρ G (upd G p o) := ⟨(Fr.refl ρ G).le, updG_ex hG⟩
  refine ⟨f, fun b u e => ?_, r.ll, r.lo, fun m b y hm hy => ?_, fun m b y hm hy => ?_, r.nl, r.no, r.tb, nt_upd r.nt hnt⟩
  · by_cases hb : b = p
    · subst hb; rw [upd_same] at e; rw [← e]; exact hp
    · rw [upd_ne hb] at e; exact r.ext b u e
  · obtain ⟨h1, o', h2, h3⟩ := r.la m b y hm hy
    have hb : b ≠ p := fun z => hl m (z ▸ hm)
    exact ⟨fun hd => by rw [upd_ne hb]; exact h1 hd, o', h2, h3.mono f.ex⟩
  · obtain ⟨h1, o', h2, h3⟩ := r.oa m b y hm hy
    have hb : b ≠ p := fun z => ho m (z ▸ hm)
    exact ⟨by rw [upd_ne hb]; exact h1, o', h2, h3.mono f⟩
theorem Rel.keep {ρ1 : Mp} {G1 H1 : Hp} {st1 : Store} {H0 : Hp} {k : Nat} {xs : List W} (r : Rel T ρ G H0 st) (r1 : Rel T ρ1 G1 H1 st1) (f : Fr ρ ρ1 G G1) (ho : st1.o.take st.o.length = st.o) (hk : st.l.length ≤ k) (hx : st1.lget k = some xs) {a : Addr} (ha : ρ1.l[k]? = some a) :
    ∃ ρ2 vs, Fr ρ ρ2 G (upd G1 a (.lst vs)) ∧ Rel T ρ2 (upd G1 a (.lst vs)) H1 ⟨st1.l.take st.l.length, st.o⟩ ∧ upd G1 a (.lst vs) a = some (.lst vs) ∧ Reps T (upd G1 a (.lst vs)) xs vs := by
  obtain ⟨hG, o, h1, vs, rfl, h2⟩ := r1.la k a _ ha (Store.lget_of hx)
  replace hG := hG (fun z => by cases z)
  obtain ⟨ρ2, f2, r2, _⟩ := Rel.trunc r r1 f ho
  have hf1 := r1
  have hlt : ∀ n, ρ2.l[n]? ≠ some a := fun n hn => by
    have hl := get_lt hn
    rw [r2.ll, List.length_take] at hl
    have hl0 : n < st.l.length := by omega
    obtain ⟨x2, hx2⟩ := r2.lat' hn
    -- the place n stands ahead of st's length, and the same address stands at n in ρ1
    have e0 : ∃ b, ρ.l[n]? = some b := ⟨ρ.l[n]'(by rw [r.ll]; exact hl0), List.getElem?_eq_getElem _⟩
    obtain ⟨b, hb⟩ := e0
    have hb2 := f2.le.1 n b hb
    rw [hn] at hb2
    cases hb2
    have hb1 := f.le.1 n a hb
    have := nodup_get r1.nl hb1 ha
    omega
  have hlo : ∀ n, ρ2.o[n]? ≠ some a := fun n hn => by
    obtain ⟨y, hy⟩ := r2.oat' hn
    obtain ⟨_, o', g2, dx, us, e1, _⟩ := r2.oa n a y hn hy
    rw [h1] at g2; cases g2; cases e1
  obtain ⟨f3, r3⟩ := r2.addG (o := .lst vs) h1 hG hlt hlo
  exact ⟨ρ2, vs, f2.trans f3, r3, upd_same, Reps.mono f3.ex _ _ h2⟩
def frzO (st1 : Store) (base : Nat) : List Sl → Option (List W)
  | [] => some []
  | .v w :: r => (frzO st1 base r).map (w :: ·)
  | .l n :: r => if base ≤ n then (match st1.lget n with
    | some xs => (frzO st1 base r).map (W.lst xs :: ·)
    | none => none) else none
  | .o _ :: _ => none
  | .t _ :: _ => none
  | .q _ _ :: _ => none
  | .z _ _ :: _ => none
theorem Rel.keepO {ρ1 : Mp} {G1 H1 : Hp} {st1 : Store} {H0 : Hp} {k : Nat} {y : In} {ws : List W} (r : Rel T ρ G H0 st) (r1 : Rel T ρ1 G1 H1 st1) (f : Fr ρ ρ1 G G1) (ho : st1.o.take st.o.length = st.o) (hk : st.o.length ≤ k) (hy : st1.o[k]? = some y) (hw : frzO st1 st.l.length y.vs = some ws) {a : Addr} (ha : ρ1.o[k]? = some a) :
    ∃ ρ2 G', Fr ρ ρ2 G G' ∧ Rel T ρ2 G' H1 ⟨st1.l.take st.l.length, st.o⟩ ∧ Rep T G' (.ins y.c y.ns ws) (.ref a) := by
  obtain ⟨hG, o, h1, dx, us, rfl, hlen, hs⟩ := r1.oa k a y ha hy
  obtain ⟨ρ2, f2, r2, _⟩ := Rel.trunc r r1 f ho
  have aux : ∀ (ss : List Sl) (us : List V) (ws : List W) (Gc : Hp), SlRs T ρ1 G1 ss us → frzO st1 st.l.length ss = some ws → (∀ p o, G1 p = some o → Gc p = some o) → (∀ p o, Gc p = some o → G1 p = some o ∨ ∃ vs, o = .lst vs ∧ H1 p = some o) → Rel T ρ2 Gc H1 ⟨st1.l.take st.l.length, st.o⟩ →
      ∃ G', (∀ p o, Gc p = some o → G' p = some o) ∧ (∀ p o, G' p = some o → G1 p = some o ∨ ∃ vs, o = .lst vs ∧ H1 p = some o) ∧ Rel T ρ2 G' H1 ⟨st1.l.take st.l.length, st.o⟩ ∧ Reps T G' ws us := by
    intro ss
    induction ss with
    | nil =>
      intro us ws Gc h e m1 m2 rc
      cases e
      have : us = [] := h
      subst this
      exact ⟨Gc, fun _ _ h => h, m2, rc, by unfold Reps; rfl⟩
    | cons s ss ih =>
      intro us ws Gc h e m1 m2 rc
      obtain ⟨v, q, rfl, e2, e3⟩ := h
      cases s with
      | v w =>
        unfold frzO at e
        obtain ⟨zs, hz, rfl⟩ := Option.map_eq_some_iff.mp e
        obtain ⟨G', g1, g2, g3, g4⟩ := ih q zs Gc e3 hz m1 m2 rc
        exact ⟨G', g1, g2, g3, by unfold Reps; exact ⟨v, q, rfl, Rep.mono (fun p o h => g1 p o (m1 p o h)) w v e2, g4⟩⟩
      | l n =>
        unfold frzO at e
        split at e
        · rename_i hn
          split at e
          · rename_i xs hx
            obtain ⟨zs, hz, rfl⟩ := Option.map_eq_some_iff.mp e
            obtain ⟨b, hb, rfl⟩ := e2
            obtain ⟨hGb, o, hHb, vs, rfl, hr⟩ := r1.la n b _ hb (Store.lget_of hx)
            replace hGb := hGb (fun z => by cases z)
            obtain ⟨Gd, d1, d2, d3, d4⟩ : ∃ Gd, (∀ p o, Gc p = some o → Gd p = some o) ∧ (∀ p o, Gd p = some o → G1 p = some o ∨ ∃ vs, o = .lst vs ∧ H1 p = some o) ∧ Rel T ρ2 Gd H1 ⟨st1.l.take st.l.length, st.o⟩ ∧ Gd b = some (.lst vs) := by
              cases hc : Gc b with
              | some o =>
                refine ⟨Gc, fun _ _ h => h, m2, rc, ?_⟩
                rcases m2 b o hc with z | ⟨vs', rfl, z⟩
                · rw [hGb] at z; cases z
                · rw [hHb] at z; cases z; exact hc
              | none =>
                have hlt : ∀ m, ρ2.l[m]? ≠ some b := fun m hm => by
                  have hl := get_lt hm
                  rw [r2.ll, List.length_take] at hl
                  have hl0 : m < st.l.length := by omega
                  have e0 : ∃ b, ρ.l[m]? = some b := ⟨ρ.l[m]'(by rw [r.ll]; exact hl0), List.getElem?_eq_getElem _⟩
                  obtain ⟨b', hb'⟩ := e0
                  have hb2 := f2.le.1 m b' hb'
                  rw [hm] at hb2
                  cases hb2
                  have hb1 := f.le.1 m b hb'
                  have := nodup_get r1.nl hb1 hb
                  omega
                have hlo : ∀ m, ρ2.o[m]? ≠ some b := fun m hm => by
                  obtain ⟨y, hy⟩ := r2.oat' hm
                  obtain ⟨_, o', g2, dx, us, e1, _⟩ := r2.oa m b y hm hy
                  rw [hHb] at g2; cases g2; cases e1
                obtain ⟨f3, r3⟩ := rc.addG (o := .lst vs) hHb hc hlt hlo
                refine ⟨_, f3.ex, fun p o h => ?_, r3, upd_same⟩
                by_cases z : p = b
                · subst z
                  rw [upd_same] at h
                  cases h
                  exact .inr ⟨vs, rfl, hHb⟩
                · rw [upd_ne z] at h
                  exact m2 p o h
            obtain ⟨G', g1, g2, g3, g4⟩ := ih q zs Gd e3 hz (fun p o h => d1 p o (m1 p o h)) d2 d3
            refine ⟨G', fun p o h => g1 p o (d1 p o h), g2, g3, ?_⟩
            unfold Reps
            refine ⟨.ref b, q, rfl, ?_, g4⟩
            unfold Rep
            exact ⟨b, vs, rfl, g1 _ _ d4, Reps.mono (fun p o h => g1 p o (d1 p o (m1 p o h))) _ _ hr⟩
          · cases e
        · cases e
      | o n => unfold frzO at e; cases e
      | t ns => unfold frzO at e; cases e
      | q k y => unfold frzO at e; cases e
      | z k y => unfold frzO at e; cases e
  obtain ⟨G', g1, g2, g3, g4⟩ := aux y.vs us ws G1 hs hw (fun _ _ h => h) (fun _ _ h => .inl h) r2
  have hGa : G' a = none := by
    cases z : G' a with
    | none => rfl
    | some o =>
      rcases g2 a o z with q | ⟨vs, rfl, q⟩
      · rw [hG] at q; cases q
      · rw [h1] at q; cases q
  have hlt : ∀ m, ρ2.l[m]? ≠ some a := fun m hm => by
    obtain ⟨x2, hx2⟩ := r2.lat' hm
    obtain ⟨_, o, q1, q2⟩ := r2.la m a x2 hm hx2
    rw [h1] at q1
    cases q1
    cases x2 with
    | lst xs => obtain ⟨_, z, _⟩ := q2; cases z
    | dct ks xs => obtain ⟨_, z, _⟩ := q2; cases z
    | dn ks xs => obtain ⟨_, _, _, z, _⟩ := q2; cases z
    | dead => rcases q2 with ⟨_, z⟩ | ⟨_, z⟩ <;> cases z
  have hlo : ∀ m, ρ2.o[m]? ≠ some a := fun m hm => by
    have hl := get_lt hm
    rw [r2.lo] at hl
    have e0 : ∃ b, ρ.o[m]? = some b := ⟨ρ.o[m]'(by rw [r.lo]; exact hl), List.getElem?_eq_getElem _⟩
    obtain ⟨b, hb⟩ := e0
    have hb2 := f2.le.2 m b hb
    rw [hm] at hb2
    cases hb2
    have hb1 := f.le.2 m a hb
    have := nodup_get r1.no hb1 ha
    show False
    have hl' : m < st.o.length := hl
    omega
  obtain ⟨f3, r3⟩ := g3.addG (o := .ins (T.cl y.c) dx (y.ns.zip us)) h1 hGa hlt hlo
  refine ⟨ρ2, _, ⟨f2.le, fun p o h => f3.ex p o (g1 p o (f2.ex p o h))⟩, r3, ?_⟩
  unfold Rep
  exact ⟨a, dx, us, rfl, upd_same, hlen, Reps.mono f3.ex _ _ g4⟩
end

section
variable {X : Cx} {cl : Nat → Addr} {Wx : WX} {tg iter elt : Expr} {ifs : List Expr} {mi : MI} {me : ME} {mt : MT} {g : TG} {pt : Pat} {pos : Pos} {scope : Scope} {own : List (Str × Nat)} {vs : List Nat}
theorem tM_lc {fin : Nat → List In → Store → Res Sl} (hgs : GoS ⟨X.K, cl⟩ g pt) (hv : ∀ i ∈ pt.slots, i ∈ vs)
    (hfin : ∀ (ρ : Mp) G H st D n o Q E ρ0 G0 H0 l0, Rel ⟨X.K, cl⟩ ρ G H st → ρ.l[n]? = some D → Fr ρ0 ρ G0 G → Rel ⟨X.K, cl⟩ ρ0 G0 H0 ⟨l0, o⟩ → l0.length = n → PostR ⟨X.K, cl⟩ ρ0 G0 (SlR ⟨X.K, cl⟩) (fin n o st) Q E → Q (.ref D) H) :
    ∀ σ H Q, tM ⟨X.K, cl⟩ Wx (fun env st => (mi env st).bind fun s st1 => lcL s.gd pt mt me (wipeE env vs) st1.l.length (fin st1.l.length st1.o) s.xs (st1.push (.lst []))) σ H Q →
      tLc (tI ⟨X.K, cl⟩ Wx mi) g (tB ⟨X.K, cl⟩ WF mt) (tM ⟨X.K, cl⟩ WF me) vs σ H Q := fun σ H Q ⟨env, ρ, G, st, rel, er, p⟩ => by
  refine ⟨env, ρ, G, st, rel, er, PostR.bind (R1 := ItS ⟨X.K, cl⟩) p fun s st1 ρ1 G1 H1 J f1 r1 its p1 => fun D hD => ?_⟩
  obtain ⟨f2, r2⟩ := r1.newL (o := .lst []) (x := .lst []) hD ⟨[], rfl, Reps.nil⟩
  have hD2 : ((ρ1.l ++ [D])[st1.l.length]? : Option Addr) = some D := by rw [← r1.ll]; simp
  refine ⟨fun i m H' => ∃ ρ' G' st', m = s.xs.length - i ∧ i ≤ s.xs.length ∧ Fr ⟨ρ1.l ++ [D], ρ1.o⟩ ρ' G1 G' ∧ Rel ⟨X.K, cl⟩ ρ' G' H' st' ∧ PostR ⟨X.K, cl⟩ ρ1 G1 (SlR ⟨X.K, cl⟩) (lcL s.gd pt mt me (wipeE env vs) st1.l.length (fin st1.l.length st1.o) (s.xs.drop i) st') Q fun c d H' => Wx c d σ H',
    ⟨s.xs.length, _, G1, _, by simp, Nat.zero_le _, Fr.refl _ _, r2, p1⟩, ?_⟩
  rintro i m H' ⟨ρ', G', st', rfl, hi, f, r, q⟩
  have g' := lc_gd q
  have ff := f2.trans f
  by_cases hlt : i < s.xs.length
  · obtain ⟨h1, h2⟩ := its.go i s.xs[i] H' st' ρ' G' ff r g' (List.getElem?_eq_getElem hlt)
    refine .inr ⟨h1, fun H2 => ∃ ρ' G' st', Fr ⟨ρ1.l ++ [D], ρ1.o⟩ ρ' G1 G' ∧ Rel ⟨X.K, cl⟩ ρ' G' H2 st' ∧ PostR ⟨X.K, cl⟩ ρ1 G1 (SlR ⟨X.K, cl⟩) (lcL s.gd pt mt me (wipeE env vs) st1.l.length (fin st1.l.length st1.o) (s.xs.drop (i + 1)) st') Q fun c d H' => Wx c d σ H',
      fun H2 ⟨ρ2, G2, st2, f2, r2, q2⟩ => ⟨s.xs.length - (i + 1), by omega, ρ2, G2, st2, rfl, hlt, f2, r2, q2⟩, fun x H2 hy => ?_⟩
    obtain ⟨G2, fy, ry, hx⟩ := h2 x H2 hy
    rw [drop_at hlt] at q
    unfold lcL at q
    rw [if_pos g'] at q
    split at q
    · rename_i env1 e1
      have er2 := ((er.mono f1).mono (ff.trans fy)).wipe vs
      refine hgs ρ' G2 H2 st' s.xs[i] x (wipeE env vs) env1 (L2.wipe σ vs) _ ry hx er2 e1 fun σ1 er1 only => ⟨?_, ?_⟩
      · rw [Only.wipe only hv]
        exact wipe_eq (wipe_length σ vs) fun j hj => by rw [wipe_at, if_neg (fun z => hj z.1)]
      · refine ⟨env1, ρ', G2, st', ry, er1, PostR.then (R1 := fun _ _ a b => a = b) q fun c st3 ρ3 G3 H3 b f3 r3 hb q3 => ?_⟩
        subst hb
        cases c with
        | true =>
          show tM _ _ _ _ _ _
          refine ⟨env1, ρ3, G3, st3, r3, er1.mono f3, PostR.then (R1 := SlR ⟨X.K, cl⟩) q3 fun y st4 ρ4 G4 H4 u f4 r4 hu q4 => ?_⟩
          split at q4
          · rename_i w acc hacc
            split at q4
            · rename_i hz
              have hD4 : ρ4.l[st1.l.length]? = some D := (f.trans (fy.trans (f3.trans f4))).le.1 _ _ hD2
              obtain ⟨_, o, ho, vs', rfl, hr⟩ := r4.la _ D _ hD4 (Store.lget_of hacc)
              have hlo : LoR ⟨X.K, cl⟩ G4 (.lst (acc ++ [w])) (.lst (vs' ++ [u])) := ⟨_, rfl, hr.append (Reps.cons hu Reps.nil)⟩
              refine ⟨vs', ho, by rw [big_line, ← hr.length]; exact hz, ρ4, G4, _, f.trans (fy.trans (f3.trans f4)), r4.setl hD4 hlo (Store.lget_of hacc) (fun z => by cases z), q4⟩
            · exact q4.elim
          · exact q4.elim
        | false => exact ⟨ρ3, G3, st3, f.trans (fy.trans f3), r3, q3⟩
    · exact q.elim
  · have hi' : i = s.xs.length := by omega
    subst hi'
    rw [List.drop_length] at q
    unfold lcL at q
    rw [if_pos g'] at q
    exact .inl ⟨its.stop _ H' st' ρ' G' ff r g' (Nat.le_refl _), hfin ρ' G' H' st' D _ _ Q _ ρ1 G1 H1 st1.l r (f.le.1 _ _ hD2) ff r1 rfl q⟩
theorem fin_freeze : ∀ (ρ : Mp) G H st D n o Q E ρ0 G0 H0 l0, Rel ⟨X.K, cl⟩ ρ G H st → ρ.l[n]? = some D → Fr ρ0 ρ G0 G → Rel ⟨X.K, cl⟩ ρ0 G0 H0 ⟨l0, o⟩ → l0.length = n → PostR ⟨X.K, cl⟩ ρ0 G0 (SlR ⟨X.K, cl⟩) (freezeF n o st) Q E → Q (.ref D) H := fun ρ G H st D n o Q E ρ0 G0 H0 l0 r hD f0 r0 hl p => by
  unfold freezeF at p
  split at p
  · rename_i xs hx
    split at p
    · rename_i hc
      obtain ⟨h1, h2⟩ := hc
      subst hl
      have hoo : st.o.take (Store.mk l0 o).o.length = (Store.mk l0 o).o := by
        show st.o.take o.length = o
        rw [h2]; exact List.take_length
      obtain ⟨ρ2, vs, f2, r2, e2, hr⟩ := Rel.keep r0 r f0 hoo (Nat.le_refl _) hx hD
      exact p ρ2 _ H _ f2 r2 (by unfold SlR Rep; exact ⟨D, vs, rfl, e2, hr⟩)
    · exact p.elim
  · exact p.elim
theorem fin_live : ∀ (ρ : Mp) G H st D n o Q E ρ0 G0 H0 l0, Rel ⟨X.K, cl⟩ ρ G H st → ρ.l[n]? = some D → Fr ρ0 ρ G0 G → Rel ⟨X.K, cl⟩ ρ0 G0 H0 ⟨l0, o⟩ → l0.length = n → PostR ⟨X.K, cl⟩ ρ0 G0 (SlR ⟨X.K, cl⟩) ((fun n _ st => .ok (.l n) st : Nat → List In → Store → Res Sl) n o st) Q E → Q (.ref D) H := fun ρ G H st D n o Q E ρ0 G0 H0 l0 r hD f0 r0 hl p =>
  p ρ G H _ f0 r ⟨D, hD, rfl⟩
abbrev ITs (X : Cx) (cl : Nat → Addr) (Wx : WX) (e : List Expr) (m : MT) : Prop := PTs X e (tB ⟨X.K, cl⟩ Wx m)
theorem its_nil : ITs X cl Wx [] mYes := pts_weak pts_nil fun σ H Q ⟨env, ρ, G, st, rel, er, p⟩ => PostR.give p rel rfl
theorem its_one {c : Expr} {mc : MT} (h : IT X cl Wx c mc) : ITs X cl Wx [c] mc := pts_one h
abbrev blkCx (X : Cx) (scope : Scope) (s : Shared) (H : Hp) (C : Addr) (cs : List (Str × Addr)) (fp : List Addr) : Cx := X.blk s H scope (compEnvC scope cs C X.env) fp
theorem ie_lc (hc : X.calm = true) (hN : X.N.Nodup) (hi : II X cl Wx tg iter mi) (ok : BlkOk X.N X.env.scope scope own)
    (hg : ∀ s H C cs fp, PG (blkCx X scope s H C cs fp) tg g) (hgs : GoS ⟨X.K, cl⟩ g pt) (ht : ∀ s H C cs fp, ITs (blkCx X scope s H C cs fp) cl WF ifs mt) (he : ∀ s H C cs fp, IE (blkCx X scope s H C cs fp) cl WF elt me)
    (hv : ∀ i ∈ pt.slots, i ∈ own.map (·.2)) (hs : ∀ x, foldedSetIterable iter X.env x = pure x := by intro _; rfl) :
    IE X cl Wx (.ListComp elt [⟨tg, iter, ifs, 0⟩] scope pos) (mLc mi pt mt me (own.map (·.2))) := pe_weak (pe_lc hc hN hi ok hg ht he hs) (tM_lc hgs hv fin_freeze)
theorem tS_asg {i : Nat} {te : TE} {m : ME} (h : ∀ σ H Q, tM ⟨X.K, cl⟩ Wx m σ H Q → te σ H Q) : ∀ D σ H, tS ⟨X.K, cl⟩ Wx (mAsg i m) D σ H → tAsg te (gName i) D σ H := fun D σ H ⟨env, ρ, G, st, r, er, p⟩ =>
  h σ H _ ⟨env, ρ, G, st, r, er, PostS.ofR (R := SlR ⟨X.K, cl⟩) er p fun x st1 ρ1 G1 H1 u f1 r1 s1 p1 => PostS.nx p1 r1 ((er.mono f1).set i s1)⟩
theorem is_setLc {i : Nat} {y : Str} {py spos : Pos} (hc : X.calm = true) (hN : X.N.Nodup) (hy : X.N[i]? = some y) (hyl : X.env.scope.names.lookup y = some .local)
    (hsw : swapsWith (.ListComp elt [⟨tg, iter, ifs, 0⟩] scope pos) (some (.Name y py)) spos.line X.env = pure true) (hi : II X cl Wx tg iter mi) (ok : BlkOk X.N X.env.scope scope own)
    (hg : ∀ s H C cs fp, PG (blkCx X scope s H C cs fp) tg g) (hgs : GoS ⟨X.K, cl⟩ g pt) (ht : ∀ s H C cs fp, ITs (blkCx X scope s H C cs fp) cl WF ifs mt) (he : ∀ s H C cs fp, IE (blkCx X scope s H C cs fp) cl WF elt me)
    (hv : ∀ i ∈ pt.slots, i ∈ own.map (·.2)) (hs : ∀ x, foldedSetIterable iter X.env x = pure x := by intro _; rfl) :
    IS X cl Wx (.Assign [.Name y py] (.ListComp elt [⟨tg, iter, ifs, 0⟩] scope pos) spos) (mAsg i (mLc mi pt mt me (own.map (·.2)))) :=
  ps_weak (ps_setLc hc hN hy hyl hsw hi ok hg ht he hs) (tS_asg (tM_lc hgs hv fin_freeze))
theorem is_setLcM {i : Nat} {y : Str} {py spos : Pos} (hc : X.calm = true) (hN : X.N.Nodup) (hy : X.N[i]? = some y) (hyl : X.env.scope.names.lookup y = some .local)
    (hsw : swapsWith (.ListComp elt [⟨tg, iter, ifs, 0⟩] scope pos) (some (.Name y py)) spos.line X.env = pure true) (hi : II X cl Wx tg iter mi) (ok : BlkOk X.N X.env.scope scope own)
    (hg : ∀ s H C cs fp, PG (blkCx X scope s H C cs fp) tg g) (hgs : GoS ⟨X.K, cl⟩ g pt) (ht : ∀ s H C cs fp, ITs (blkCx X scope s H C cs fp) cl WF ifs mt) (he : ∀ s H C cs fp, IE (blkCx X scope s H C cs fp) cl WF elt me)
    (hv : ∀ i ∈ pt.slots, i ∈ own.map (·.2)) (hs : ∀ x, foldedSetIterable iter X.env x = pure x := by intro _; rfl) :
    IS X cl Wx (.Assign [.Name y py] (.ListComp elt [⟨tg, iter, ifs, 0⟩] scope pos) spos) (mAsg i (mLcM mi pt mt me (own.map (·.2)))) :=
  ps_weak (ps_setLc hc hN hy hyl hsw hi ok hg ht he hs) (tS_asg (tM_lc (fin := fun n _ st => .ok (.l n) st) hgs hv fin_live))
end

inductive Md where
  | tr | kp | ini | up
def valsS : List Sl → Bool
  | [] => true
  | .v _ :: r => valsS r
  | _ => false
open Classical in
noncomputable def cut {α : Type} (st st1 : Store) (k : Store → Res α) : Res α := if st1.o.take st.o.length = st.o then k ⟨st1.l.take st.l.length, st.o⟩ else .bad
open Classical in
noncomputable def cutI {α : Type} (st st1 : Store) (k : Store → Res α) : Res α := match st1.o[st.o.length - 1]? with
  | some y => if st1.o.take (st.o.length - 1) = st.o.take (st.o.length - 1) ∧ valsS y.vs = true ∧ 0 < st.o.length then k ⟨st1.l.take st.l.length, st.o.take (st.o.length - 1) ++ [y]⟩ else .bad
  | none => .bad
open Classical in
noncomputable def cutU {α : Type} (st st1 : Store) (k : Store → Res α) : Res α :=
  if st.o.length ≤ st1.o.length ∧ ∀ m y, st1.o[m]? = some y → m < st.o.length → st.o[m]? = some y ∨ valsS y.vs = true then k ⟨st1.l.take st.l.length, st1.o.take st.o.length⟩ else .bad
noncomputable def fin (md : Md) (st : Store) (r : SR) : Res Sl := match md with
  | .up => match r with
    | .nx _ st1 => cutU st st1 fun st2 => .ok (.v .non) st2
    | .rt (.v w) st1 => cutU st st1 fun st2 => .ok (.v w) st2
    | .rt (.l k) st1 => if k < st.l.length then cutU st st1 fun st2 => .ok (.l k) st2 else match st1.lget k with
      | some xs => cutU st st1 fun st2 => .ok (.v (.lst xs)) st2
      | none => .bad
    | .ex c ns ws _ st1 => cutU st st1 fun st2 => .ex c ns ws st2
    | _ => .bad
  | .kp => match r with
    | .nx _ st1 => .ok (.v .non) st1
    | .rt s st1 => .ok s st1
    | .ex c ns ws _ st1 => .ex c ns ws st1
    | _ => .bad
  | .tr => match r with
    | .nx _ st1 => cut st st1 fun st2 => .ok (.v .non) st2
    | .rt (.v w) st1 => cut st st1 fun st2 => .ok (.v w) st2
    | .rt (.l k) st1 => if k < st.l.length then cut st st1 fun st2 => .ok (.l k) st2 else match st1.lget k with
      | some xs => cut st st1 fun st2 => .ok (.v (.lst xs)) st2
      | none => .bad
    | .rt (.o k) st1 => if k < st.o.length then cut st st1 fun st2 => .ok (.o k) st2 else match st1.o[k]? with
      | some y => match frzO st1 st.l.length y.vs with
        | some ws => cut st st1 fun st2 => .ok (.v (.ins y.c y.ns ws)) st2
        | none => .bad
      | none => .bad
    | .ex c ns ws _ st1 => cut st st1 fun st2 => .ex c ns ws st2
    | _ => .bad
  | .ini => match r with
    | .nx _ st1 => cutI st st1 fun st2 => .ok (.v .non) st2
    | .rt (.v .non) st1 => cutI st st1 fun st2 => .ok (.v .non) st2
    | .ex c ns ws _ st1 => cutI st st1 fun st2 => .ex c ns ws st2
    | _ => .bad
noncomputable def mFn (np nl : Nat) (md : Md) (body : MS) : MF := fun args st => if args.length = np then fin md st (body (args.map some ++ List.replicate (nl - np) none) st) else .bad
theorem ar_fn {np nl : Nat} {md : Md} {body : MS} : Ar (mFn np nl md body) np := fun args st h => by unfold mFn; rw [if_neg h]

section
variable {T : Tx} {ρ ρ' : Mp} {G G' H : Hp} {st : Store}
theorem env_start {N : List Str} {args : List Sl} {vs : List V} (h : SlRs T ρ G args vs) {np : Nat} (hn : args.length = np) : EnvR T ρ G (args.map some ++ List.replicate (N.length - np) none) (L2.start N vs) := by
  have hl := h.length
  refine ⟨by unfold L2.start; simp [hn, ← hl], fun i s e => ?_⟩
  have aux : ∀ {args : List Sl} {vs : List V} {i : Nat} {s : Sl}, SlRs T ρ G args vs → args[i]? = some s → ∃ u, vs[i]? = some u ∧ SlR T ρ G s u := by
    intro args
    induction args with
    | nil => intro vs i s _ e; simp at e
    | cons a r ih =>
      intro vs i s h e
      obtain ⟨v, q, rfl, h1, h2⟩ := h
      cases i with
      | zero => simp at e; subst e; exact ⟨v, rfl, h1⟩
      | succ i =>
        have e' : r[i]? = some s := by simpa using e
        obtain ⟨u, h3, h4⟩ := ih h2 e'
        exact ⟨u, by simpa using h3, h4⟩
  by_cases hi : i < args.length
  · rw [List.getElem?_append_left (by simpa using hi), List.getElem?_map] at e
    obtain ⟨s', hs', e'⟩ := Option.map_eq_some_iff.mp e
    cases e'
    obtain ⟨u, h1, h2⟩ := aux h hs'
    refine ⟨u, ?_, h2⟩
    unfold L2.start
    rw [List.getElem?_append_left (by simpa [← hl] using hi), List.getElem?_map, h1]
    rfl
  · rw [List.getElem?_append_right (by simpa using Nat.le_of_not_lt hi)] at e
    have := List.mem_of_getElem? e
    simp at this
theorem valsS_low {ρ1 ρ2 : Mp} {G1 : Hp} : ∀ {ss : List Sl} {us : List V}, valsS ss = true → SlRs T ρ1 G1 ss us → SlRs T ρ2 G1 ss us
  | [], _, _, h => h
  | .v w :: ss, us, e, h => by obtain ⟨v, r, h1, h2, h3⟩ := h; exact ⟨v, r, h1, h2, valsS_low (by simpa [valsS] using e) h3⟩
  | .l n :: ss, us, e, h => by simp [valsS] at e
  | .o n :: ss, us, e, h => by simp [valsS] at e
  | .t n :: ss, us, e, h => by simp [valsS] at e
  | .q k w :: ss, us, e, h => by simp [valsS] at e
  | .z k w :: ss, us, e, h => by simp [valsS] at e
theorem Rel.truncI {ρ1 : Mp} {G1 H1 : Hp} {st1 : Store} {H0 : Hp} {y : In} (r : Rel T ρ G H0 st) (r1 : Rel T ρ1 G1 H1 st1) (f : Fr ρ ρ1 G G1) (hy : st1.o[st.o.length - 1]? = some y) (ho : st1.o.take (st.o.length - 1) = st.o.take (st.o.length - 1)) (hv : valsS y.vs = true) (h0 : 0 < st.o.length) :
    ∃ ρ2, Fr ρ ρ2 G G1 ∧ Rel T ρ2 G1 H1 ⟨st1.l.take st.l.length, st.o.take (st.o.length - 1) ++ [y]⟩ := by
  have sub : ∀ {α : Type} {xs : List α} {k n : Nat} {a : α}, (xs.take k)[n]? = some a → xs[n]? = some a ∧ n < k := fun {α xs k n a} h => by
    have := get_lt h
    rw [List.length_take] at this
    rw [List.getElem?_take_of_lt (by omega)] at h
    exact ⟨h, by omega⟩
  have up : ∀ {α : Type} {xs : List α} {k n : Nat} {a : α}, xs[n]? = some a → n < k → (xs.take k)[n]? = some a := fun {α xs k n a} h hk => by
    rw [List.getElem?_take_of_lt hk]; exact h
  have low : ∀ (ss : List Sl) us us0, SlRs T ρ1 G1 ss us → SlRs T ρ G ss us0 → SlRs T ⟨ρ1.l.take st.l.length, ρ1.o.take st.o.length⟩ G1 ss us := by
    intro ss
    induction ss with
    | nil => intro us us0 h _; exact h
    | cons s ss ih =>
      intro us us0 h h0
      obtain ⟨v, q, e1, e2, e3⟩ := h
      obtain ⟨v0, q0, z1, z2, z3⟩ := h0
      refine ⟨v, q, e1, ?_, ih q q0 e3 z3⟩
      cases s with
      | v w => exact e2
      | l n =>
        obtain ⟨a, x1, x2⟩ := e2
        obtain ⟨b, y1, _⟩ := z2
        exact ⟨a, up x1 (by rw [← r.ll]; exact get_lt y1), x2⟩
      | o n =>
        obtain ⟨a, x1, x2⟩ := e2
        obtain ⟨b, y1, _⟩ := z2
        exact ⟨a, up x1 (by rw [← r.lo]; exact get_lt y1), x2⟩
      | t ns =>
        obtain ⟨a, us1, x1, x2, x3, x4⟩ := e2
        obtain ⟨a', us', _, _, _, y4⟩ := z2
        exact ⟨a, us1, x1, x2, x3, fun i n e => by obtain ⟨b, q1, q2⟩ := x4 i n e; obtain ⟨b', q3, _⟩ := y4 i n e; exact ⟨b, up q1 (by rw [← r.ll]; exact get_lt q3), q2⟩⟩
      | q k w =>
        obtain ⟨a, b, v1, x1, x2, x3, x4⟩ := e2
        obtain ⟨a', b', v', _, _, y3, _⟩ := z2
        exact ⟨a, b, v1, x1, x2, up x3 (by rw [← r.lo]; exact get_lt y3), x4⟩
      | z ws n =>
        obtain ⟨a, us1, b, x1, x2, x3, x4⟩ := e2
        obtain ⟨a', us', b', _, _, y3, _⟩ := z2
        exact ⟨a, us1, b, x1, x2, up x3 (by rw [← r.ll]; exact get_lt y3), x4⟩
  have hlen1 : st.o.length ≤ st1.o.length := by have := get_lt hy; omega
  have hlt : (st.o.take (st.o.length - 1)).length = st.o.length - 1 := by rw [List.length_take]; omega
  refine ⟨⟨ρ1.l.take st.l.length, ρ1.o.take st.o.length⟩, ⟨⟨fun n a h => up (f.le.1 n a h) (by rw [← r.ll]; exact get_lt h), fun n a h => up (f.le.2 n a h) (by rw [← r.lo]; exact get_lt h)⟩, f.ex⟩, ⟨r1.ext, ?_, ?_, fun m b x hm hx => ?_, fun m b x hm hx => ?_, ?_, ?_, r1.tb, r1.nt⟩⟩
  · show (ρ1.l.take _).length = (st1.l.take _).length
    rw [List.length_take, List.length_take, r1.ll]
  · show (ρ1.o.take _).length = (st.o.take (st.o.length - 1) ++ [y]).length
    rw [List.length_take, r1.lo, List.length_append, hlt, List.length_singleton]
    omega
  · obtain ⟨hm', _⟩ := sub hm
    obtain ⟨hy', _⟩ := sub hx
    exact r1.la m b x hm' hy'
  · obtain ⟨hm', hmk⟩ := sub hm
    rcases get_snoc (show (st.o.take (st.o.length - 1) ++ [y])[m]? = some x from hx) with hx' | ⟨rfl, rfl⟩
    · have hx1 : st1.o[m]? = some x := by
        rw [← ho] at hx'
        exact (sub hx').1
      obtain ⟨h1, o', h2, dx, us, e1, e2, e3⟩ := r1.oa m b x hm' hx1
      obtain ⟨a0, ha0⟩ := r.oat (sub hx').1
      obtain ⟨_, _, _, _, us0, _, _, e03⟩ := r.oa m a0 x ha0 (sub hx').1
      exact ⟨h1, o', h2, dx, us, e1, e2, low _ _ _ e3 e03⟩
    · rw [hlt] at hm'
      obtain ⟨h1, o', h2, dx, us, e1, e2, e3⟩ := r1.oa _ b x hm' hy
      exact ⟨h1, o', h2, dx, us, e1, e2, valsS_low hv e3⟩
  · exact List.Nodup.sublist (List.take_sublist _ _) r1.nl
  · exact List.Nodup.sublist (List.take_sublist _ _) r1.no
theorem Rel.truncU {ρ1 : Mp} {G1 H1 : Hp} {st1 : Store} {H0 : Hp} (r : Rel T ρ G H0 st) (r1 : Rel T ρ1 G1 H1 st1) (f : Fr ρ ρ1 G G1) (hle : st.o.length ≤ st1.o.length) (ho : ∀ m y, st1.o[m]? = some y → m < st.o.length → st.o[m]? = some y ∨ valsS y.vs = true) :
    ∃ ρ2, Fr ρ ρ2 G G1 ∧ Rel T ρ2 G1 H1 ⟨st1.l.take st.l.length, st1.o.take st.o.length⟩ ∧ ∀ (s : Sl) u, SlR T ρ1 G1 s u → (∀ n, s = .l n → n < st.l.length) → (∀ n, s = .o n → n < st.o.length) → (∀ ns, s = .t ns → ∀ n ∈ ns, n < st.l.length) → (∀ k w, s = .q k w → k < st.o.length) → (∀ ws n, s = .z ws n → n < st.l.length) → SlR T ρ2 G1 s u := by
  have sub : ∀ {α : Type} {xs : List α} {k n : Nat} {a : α}, (xs.take k)[n]? = some a → xs[n]? = some a ∧ n < k := fun {α xs k n a} h => by
    have := get_lt h
    rw [List.length_take] at this
    rw [List.getElem?_take_of_lt (by omega)] at h
    exact ⟨h, by omega⟩
  have up : ∀ {α : Type} {xs : List α} {k n : Nat} {a : α}, xs[n]? = some a → n < k → (xs.take k)[n]? = some a := fun {α xs k n a} h hk => by
    rw [List.getElem?_take_of_lt hk]; exact h
  have low : ∀ (s : Sl) u, SlR T ρ1 G1 s u → (∀ n, s = .l n → n < st.l.length) → (∀ n, s = .o n → n < st.o.length) → (∀ ns, s = .t ns → ∀ n ∈ ns, n < st.l.length) → (∀ k w, s = .q k w → k < st.o.length) → (∀ ws n, s = .z ws n → n < st.l.length) → SlR T ⟨ρ1.l.take st.l.length, ρ1.o.take st.o.length⟩ G1 s u := fun s u h h1 h2 h5 h6 h7 => by
    cases s with
    | v w => exact h
    | l n => obtain ⟨a, e1, e2⟩ := h; exact ⟨a, up e1 (h1 n rfl), e2⟩
    | o n => obtain ⟨a, e1, e2⟩ := h; exact ⟨a, up e1 (h2 n rfl), e2⟩
    | t ns => obtain ⟨a, us, e1, e2, e3, e4⟩ := h; exact ⟨a, us, e1, e2, e3, fun i n e => by obtain ⟨b, q1, q2⟩ := e4 i n e; exact ⟨b, up q1 (h5 ns rfl n (List.mem_of_getElem? e)), q2⟩⟩
    | q k w => obtain ⟨a, b, v, e1, e2, e3, e4⟩ := h; exact ⟨a, b, v, e1, e2, up e3 (h6 k w rfl), e4⟩
    | z ws n => obtain ⟨a, us, b, e1, e2, e3, e4⟩ := h; exact ⟨a, us, b, e1, e2, up e3 (h7 ws n rfl), e4⟩
  have lows : ∀ (ss : List Sl) us us0, SlRs T ρ1 G1 ss us → SlRs T ρ G ss us0 → SlRs T ⟨ρ1.l.take st.l.length, ρ1.o.take st.o.length⟩ G1 ss us := by
    intro ss
    induction ss with
    | nil => intro us us0 h _; exact h
    | cons s ss ih =>
      intro us us0 h h0
      obtain ⟨v, q, e1, e2, e3⟩ := h
      obtain ⟨v0, q0, z1, z2, z3⟩ := h0
      refine ⟨v, q, e1, low s v e2 (fun n hn => ?_) (fun n hn => ?_) (fun ns hn n hm => ?_) (fun k w hn => ?_) (fun ws n hn => ?_), ih q q0 e3 z3⟩
      · subst hn; obtain ⟨a, y1, _⟩ := z2; rw [← r.ll]; exact get_lt y1
      · subst hn; obtain ⟨a, y1, _⟩ := z2; rw [← r.lo]; exact get_lt y1
      · subst hn; obtain ⟨a, us, _, _, _, y4⟩ := z2; obtain ⟨i, hi⟩ := List.getElem?_of_mem hm; obtain ⟨b, y1, _⟩ := y4 i n hi; rw [← r.ll]; exact get_lt y1
      · subst hn; obtain ⟨a, b, v0, _, _, y1, _⟩ := z2; rw [← r.lo]; exact get_lt y1
      · subst hn; obtain ⟨a, us, b, _, _, y1, _⟩ := z2; rw [← r.ll]; exact get_lt y1
  refine ⟨⟨ρ1.l.take st.l.length, ρ1.o.take st.o.length⟩, ⟨⟨fun n a h => up (f.le.1 n a h) (by rw [← r.ll]; exact get_lt h), fun n a h => up (f.le.2 n a h) (by rw [← r.lo]; exact get_lt h)⟩, f.ex⟩, ⟨r1.ext, ?_, ?_, fun m b y hm hy => ?_, fun m b y hm hy => ?_, ?_, ?_, r1.tb, r1.nt⟩, low⟩
  · show (ρ1.l.take _).length = (st1.l.take _).length
    rw [List.length_take, List.length_take, r1.ll]
  · show (ρ1.o.take _).length = (st1.o.take _).length
    rw [List.length_take, List.length_take, r1.lo]
  · obtain ⟨hm', _⟩ := sub hm
    obtain ⟨hy', _⟩ := sub hy
    exact r1.la m b y hm' hy'
  · obtain ⟨hm', hmk⟩ := sub hm
    obtain ⟨hy1, _⟩ := sub hy
    obtain ⟨h1, o', h2, dx, us, e1, e2, e3⟩ := r1.oa m b y hm' hy1
    rcases ho m y hy1 hmk with hy0 | hv
    · obtain ⟨a0, ha0⟩ := r.oat hy0
      obtain ⟨_, _, _, _, us0, _, _, e03⟩ := r.oa m a0 y ha0 hy0
      exact ⟨h1, o', h2, dx, us, e1, e2, lows _ _ _ e3 e03⟩
    · exact ⟨h1, o', h2, dx, us, e1, e2, valsS_low hv e3⟩
  · exact List.Nodup.sublist (List.take_sublist _ _) r1.nl
  · exact List.Nodup.sublist (List.take_sublist _ _) r1.no
theorem Rel.keepU {ρ1 : Mp} {G1 H1 : Hp} {st1 : Store} {H0 : Hp} {k : Nat} {xs : List W} (r : Rel T ρ G H0 st) (r1 : Rel T ρ1 G1 H1 st1) (f : Fr ρ ρ1 G G1) (hle : st.o.length ≤ st1.o.length) (ho : ∀ m y, st1.o[m]? = some y → m < st.o.length → st.o[m]? = some y ∨ valsS y.vs = true) (hk : st.l.length ≤ k) (hx : st1.lget k = some xs) {a : Addr} (ha : ρ1.l[k]? = some a) :
    ∃ ρ2 vs, Fr ρ ρ2 G (upd G1 a (.lst vs)) ∧ Rel T ρ2 (upd G1 a (.lst vs)) H1 ⟨st1.l.take st.l.length, st1.o.take st.o.length⟩ ∧ upd G1 a (.lst vs) a = some (.lst vs) ∧ Reps T (upd G1 a (.lst vs)) xs vs := by
  obtain ⟨hG, o, h1, vs, rfl, h2⟩ := r1.la k a _ ha (Store.lget_of hx)
  replace hG := hG (fun z => by cases z)
  obtain ⟨ρ2, f2, r2, _⟩ := Rel.truncU r r1 f hle ho
  have hlt : ∀ n, ρ2.l[n]? ≠ some a := fun n hn => by
    have hl := get_lt hn
    rw [r2.ll, List.length_take] at hl
    have hl0 : n < st.l.length := by omega
    have e0 : ∃ b, ρ.l[n]? = some b := ⟨ρ.l[n]'(by rw [r.ll]; exact hl0), List.getElem?_eq_getElem _⟩
    obtain ⟨b, hb⟩ := e0
    have hb2 := f2.le.1 n b hb
    rw [hn] at hb2
    cases hb2
    have hb1 := f.le.1 n a hb
    have := nodup_get r1.nl hb1 ha
    omega
  have hlo : ∀ n, ρ2.o[n]? ≠ some a := fun n hn => by
    obtain ⟨y, hy⟩ := r2.oat' hn
    obtain ⟨_, o', g2, dx, us, e1, _⟩ := r2.oa n a y hn hy
    rw [h1] at g2; cases g2; cases e1
  obtain ⟨f3, r3⟩ := r2.addG (o := .lst vs) h1 hG hlt hlo
  exact ⟨ρ2, vs, f2.trans f3, r3, upd_same, Reps.mono f3.ex _ _ h2⟩
theorem fin_post {md : Md} {sr : SR} {Q : VK} {E : XK} (r : Rel T ρ G H st) (h : PostR T ρ G (SlR T) (fin md st sr) Q E) : PostS T ρ G sr { nx := fun _ H' => Q .non H', rt := Q } fun c d _ H' => E c d H' := by
  have cutp : ∀ {st1 : Store} {k : Store → Res Sl} {ρ1 : Mp} {G1 H1 : Hp}, Rel T ρ1 G1 H1 st1 → Fr ρ ρ1 G G1 → PostR T ρ G (SlR T) (cut st st1 k) Q E → ∃ ρ2, Fr ρ ρ2 G G1 ∧ Rel T ρ2 G1 H1 ⟨st1.l.take st.l.length, st.o⟩ ∧ st1.o.take st.o.length = st.o ∧ PostR T ρ G (SlR T) (k ⟨st1.l.take st.l.length, st.o⟩) Q E := by
    intro st1 k ρ1 G1 H1 r1 f1 p
    unfold cut at p
    split at p
    · rename_i ho
      obtain ⟨ρ2, f2, r2, _⟩ := Rel.trunc r r1 f1 ho
      exact ⟨ρ2, f2, r2, ho, p⟩
    · exact p.elim
  have cutq : ∀ {st1 : Store} {k : Store → Res Sl} {ρ1 : Mp} {G1 H1 : Hp}, Rel T ρ1 G1 H1 st1 → Fr ρ ρ1 G G1 → PostR T ρ G (SlR T) (cutI st st1 k) Q E → ∃ ρ2 st2, Fr ρ ρ2 G G1 ∧ Rel T ρ2 G1 H1 st2 ∧ PostR T ρ G (SlR T) (k st2) Q E := by
    intro st1 k ρ1 G1 H1 r1 f1 p
    unfold cutI at p
    split at p
    · rename_i y hy
      split at p
      · rename_i hc
        obtain ⟨ρ2, f2, r2⟩ := Rel.truncI r r1 f1 hy hc.1 hc.2.1 hc.2.2
        exact ⟨ρ2, _, f2, r2, p⟩
      · exact p.elim
    · exact p.elim
  have cutv : ∀ {st1 : Store} {k : Store → Res Sl} {ρ1 : Mp} {G1 H1 : Hp}, Rel T ρ1 G1 H1 st1 → Fr ρ ρ1 G G1 → PostR T ρ G (SlR T) (cutU st st1 k) Q E → (st.o.length ≤ st1.o.length ∧ ∀ m y, st1.o[m]? = some y → m < st.o.length → st.o[m]? = some y ∨ valsS y.vs = true) ∧ PostR T ρ G (SlR T) (k ⟨st1.l.take st.l.length, st1.o.take st.o.length⟩) Q E := by
    intro st1 k ρ1 G1 H1 r1 f1 p
    unfold cutU at p
    split at p
    · rename_i ho; exact ⟨ho, p⟩
    · exact p.elim
  cases md with
  | up =>
    cases sr with
    | nx env st1 =>
      intro ρ1 G1 H1 σ f1 r1 e1
      obtain ⟨ho, p⟩ := cutv r1 f1 h
      obtain ⟨ρ2, f2, r2, _⟩ := Rel.truncU r r1 f1 ho.1 ho.2
      exact p ρ2 G1 H1 .non f2 r2 (by unfold SlR Rep; rfl)
    | rt s st1 =>
      intro ρ1 G1 H1 u f1 r1 hs
      cases s with
      | v w =>
        obtain ⟨ho, p⟩ := cutv r1 f1 h
        obtain ⟨ρ2, f2, r2, _⟩ := Rel.truncU r r1 f1 ho.1 ho.2
        exact p ρ2 G1 H1 u f2 r2 hs
      | l k =>
        unfold fin at h
        dsimp only at h
        split at h
        · rename_i hk
          obtain ⟨ho, p⟩ := cutv r1 f1 h
          obtain ⟨ρ2, f2, r2, low⟩ := Rel.truncU r r1 f1 ho.1 ho.2
          exact p ρ2 G1 H1 u f2 r2 (low _ _ hs (fun n e => by cases e; exact hk) (fun n e => by cases e) (fun n e => by cases e) (fun k w e => by cases e) (fun ws n e => by cases e))
        · rename_i hk
          split at h
          · rename_i xs hx
            obtain ⟨ho, p⟩ := cutv r1 f1 h
            obtain ⟨a, ha, rfl⟩ := hs
            obtain ⟨ρ2, vs, f2, r2, e2, hr⟩ := Rel.keepU r r1 f1 ho.1 ho.2 (Nat.le_of_not_lt hk) hx ha
            exact p ρ2 _ H1 _ f2 r2 (by unfold SlR Rep; exact ⟨a, vs, rfl, e2, hr⟩)
          · exact h.elim
      | o k => exact h.elim
      | t ns => exact h.elim
      | q k y => exact h.elim
      | z k y => exact h.elim
    | ex c ns ws env st1 =>
      intro ρ1 G1 H1 σ d f1 r1 e1 hx
      obtain ⟨ho, p⟩ := cutv r1 f1 h
      obtain ⟨ρ2, f2, r2, _⟩ := Rel.truncU r r1 f1 ho.1 ho.2
      exact p ρ2 G1 H1 d f2 r2 hx
    | bk env st1 => exact h.elim
    | ct env st1 => exact h.elim
    | bad => exact h.elim
  | kp =>
    cases sr with
    | nx env st1 => exact fun ρ1 G1 H1 σ f1 r1 e1 => h ρ1 G1 H1 .non f1 r1 (by unfold SlR Rep; rfl)
    | rt s st1 => exact h
    | ex c ns ws env st1 => exact fun ρ1 G1 H1 σ d f1 r1 e1 hx => h ρ1 G1 H1 d f1 r1 hx
    | bk env st1 => exact h.elim
    | ct env st1 => exact h.elim
    | bad => exact h.elim
  | tr =>
    cases sr with
    | nx env st1 =>
      intro ρ1 G1 H1 σ f1 r1 e1
      obtain ⟨ρ2, f2, r2, _, p⟩ := cutp r1 f1 h
      exact p ρ2 G1 H1 .non f2 r2 (by unfold SlR Rep; rfl)
    | rt s st1 =>
      intro ρ1 G1 H1 u f1 r1 hs
      cases s with
      | v w =>
        obtain ⟨ρ2, f2, r2, _, p⟩ := cutp r1 f1 h
        exact p ρ2 G1 H1 u f2 r2 hs
      | l k =>
        unfold fin at h
        dsimp only at h
        split at h
        · rename_i hk
          unfold cut at h
          split at h
          · rename_i ho
            obtain ⟨ρ2, f2, r2, low⟩ := Rel.trunc r r1 f1 ho
            exact h ρ2 G1 H1 u f2 r2 (low _ _ hs (fun n e => by cases e; exact hk) (fun n e => by cases e) (fun n e => by cases e) (fun k w e => by cases e) (fun ws n e => by cases e))
          · exact h.elim
        · rename_i hk
          split at h
          · rename_i xs hx
            unfold cut at h
            split at h
            · rename_i ho
              obtain ⟨a, ha, rfl⟩ := hs
              obtain ⟨ρ2, vs, f2, r2, e2, hr⟩ := Rel.keep r r1 f1 ho (Nat.le_of_not_lt hk) hx ha
              exact h ρ2 _ H1 _ f2 r2 (by unfold SlR Rep; exact ⟨a, vs, rfl, e2, hr⟩)
            · exact h.elim
          · exact h.elim
      | t ns => exact h.elim
      | q k y => exact h.elim
      | z k y => exact h.elim
      | o k =>
        unfold fin at h
        dsimp only at h
        split at h
        · rename_i hk
          unfold cut at h
          split at h
          · rename_i ho
            obtain ⟨ρ2, f2, r2, low⟩ := Rel.trunc r r1 f1 ho
            exact h ρ2 G1 H1 u f2 r2 (low _ _ hs (fun n e => by cases e) (fun n e => by cases e; exact hk) (fun n e => by cases e) (fun k w e => by cases e) (fun ws n e => by cases e))
          · exact h.elim
        · rename_i hk
          split at h
          · rename_i y hy
            split at h
            · rename_i ws hw
              unfold cut at h
              split at h
              · rename_i ho
                obtain ⟨a, ha, rfl⟩ := hs
                obtain ⟨ρ2, G', f2, r2, hr⟩ := Rel.keepO r r1 f1 ho (Nat.le_of_not_lt hk) hy hw ha
                exact h ρ2 G' H1 _ f2 r2 hr
              · exact h.elim
            · exact h.elim
          · exact h.elim
    | ex c ns ws env st1 =>
      intro ρ1 G1 H1 σ d f1 r1 e1 hx
      obtain ⟨ρ2, f2, r2, _, p⟩ := cutp r1 f1 h
      exact p ρ2 G1 H1 d f2 r2 hx
    | bk env st1 => exact h.elim
    | ct env st1 => exact h.elim
    | bad => exact h.elim
  | ini =>
    cases sr with
    | nx env st1 =>
      intro ρ1 G1 H1 σ f1 r1 e1
      obtain ⟨ρ2, st2, f2, r2, p⟩ := cutq r1 f1 h
      exact p ρ2 G1 H1 .non f2 r2 (by unfold SlR Rep; rfl)
    | rt s st1 =>
      intro ρ1 G1 H1 u f1 r1 hs
      cases s with
      | v w =>
        cases w with
        | non =>
          obtain ⟨ρ2, st2, f2, r2, p⟩ := cutq r1 f1 h
          exact p ρ2 G1 H1 u f2 r2 hs
        | _ => exact h.elim
      | _ => exact h.elim
    | ex c ns ws env st1 =>
      intro ρ1 G1 H1 σ d f1 r1 e1 hx
      obtain ⟨ρ2, st2, f2, r2, p⟩ := cutq r1 f1 h
      exact p ρ2 G1 H1 d f2 r2 hx
    | bk env st1 => exact h.elim
    | ct env st1 => exact h.elim
    | bad => exact h.elim
end
section
variable {P : Program} {w : World} {K : PySem.W.Frag} {mg : Str → Option Value} {base : Heap} {cl : Nat → Addr}
end
end Mz

set_option Elab.async false
set_option linter.all false
set_option maxRecDepth 100000
set_option maxHeartbeats 4000000
namespace Mz
open PySem PySem.Spec PyProof.Rows L2

def wide : Int := ((2 ^ 8000 : Nat) : Int)
theorem wide_log {j : Int} (h : 0 < j) (h2 : j < wide) : CDivW 0 j := wide_div (b := 8000) h (by
  have : (j.natAbs : Int) < ((2 ^ 8000 : Nat) : Int) := by
    have e : (j.natAbs : Int) = j := by omega
    rw [e]
    exact h2
  exact Int.ofNat_lt.mp this) (by omega) (by omega)
abbrev Op2 := Sl → Sl → Store → Res Sl
def opI (C : Int → Int → Bool) (g : Int → Int → W) : Op2
  | .v (.int i), .v (.int j), st => if C i j = true then .ok (.v (g i j)) st else .bad
  | _, _, _ => .bad
def opAdd : Op2
  | .v (.int i), .v (.int j), st => .ok (.v (.int (i + j))) st
  | .v (.str x), .v (.str y), st => if x.length + y.length ≤ big then .ok (.v (.str (x ++ y))) st else .bad
  | .v (.tup xs), .v (.tup ys), st => if xs.length + ys.length ≤ big then .ok (.v (.tup (xs ++ ys))) st else .bad
  | .v (.lst xs), .v (.lst ys), st => if xs.length + ys.length ≤ big then .ok (.v (.lst (xs ++ ys))) st else .bad
  | .v (.lst xs), .l n, st => match st.lget n with
    | some ys => if xs.length + ys.length ≤ big then .ok (.v (.lst (xs ++ ys))) st else .bad
    | none => .bad
  | .l n, .v (.lst ys), st => match st.lget n with
    | some xs => if xs.length + ys.length ≤ big then .ok (.v (.lst (xs ++ ys))) st else .bad
    | none => .bad
  | .l n, .l m, st => match st.lget n, st.lget m with
    | some xs, some ys => if xs.length + ys.length ≤ big then .ok (.v (.lst (xs ++ ys))) st else .bad
    | _, _ => .bad
  | _, _, _ => .bad
def opSub : Op2 := opI (fun _ _ => true) fun i j => .int (i - j)
def opMul : Op2 := opI (fun i j => (decide (-(2 ^ 64) < i) && decide (i < 2 ^ 64)) || (decide (-(2 ^ 64) < j) && decide (j < 2 ^ 64))) fun i j => .int (i * j)
def opMod : Op2 := opI (fun _ j => decide (0 < j)) fun i j => .int (i % j)
def opDiv : Op2 := opI (fun _ j => decide (0 < j) && decide (j < wide)) fun i j => .int (i / j)
def opShl : Op2 := opI (fun i j => decide (0 ≤ j) && decide (j ≤ 1000000) && decide (i.natAbs < 2 ^ 64)) fun i j => .int (i * 2 ^ j.toNat)
def opLt : Op2 := opI (fun _ _ => true) fun i j => .bl (decide (i < j))
def opLe : Op2 := opI (fun _ _ => true) fun i j => .bl (decide (i ≤ j))
def opGt : Op2 := opI (fun _ _ => true) fun i j => .bl (decide (j < i))
def opGe : Op2 := opI (fun _ _ => true) fun i j => .bl (decide (j ≤ i))

theorem pg {T : Tx} {ρ : Mp} {G H : Hp} {st : Store} {w : W} {u : V} {Q : VK} {E : XK} (p : PostR T ρ G (SlR T) (.ok (.v w) st) Q E) (r : Rel T ρ G H st) (h : Rep T G w u) : Q u H := p.give r h
theorem ops_I {T : Tx} {C : Int → Int → Prop} {C' : Int → Int → Bool} {g : Int → Int → W} {g' : Int → Int → V} (hC : ∀ i j, C' i j = true → C i j) (hg : ∀ G i j, Rep T G (g i j) (g' i j)) : OpS T (rI C g') (opI C' g) := fun ρ G H st x y u v Q E r hx hy p => by
  unfold opI at p
  split at p
  · rename_i i j
    split at p
    · rename_i hc
      unfold SlR Rep at hx hy
      subst hx hy
      exact ⟨i, j, rfl, rfl, hC i j hc, pg p r (hg G i j)⟩
    · exact p.elim
  · exact p.elim
theorem ops_I0 {T : Tx} {g : Int → Int → W} {g' : Int → Int → V} (hg : ∀ G i j, Rep T G (g i j) (g' i j)) : OpS T (rI0 g') (opI (fun _ _ => true) g) := fun ρ G H st x y u v Q E r hx hy p => by
  unfold opI at p
  split at p
  · rename_i i j
    rw [if_pos rfl] at p
    unfold SlR Rep at hx hy
    subst hx hy
    exact ⟨i, j, rfl, rfl, pg p r (hg G i j)⟩
  · exact p.elim
theorem rep_int {T : Tx} {G : Hp} {i : Int} : Rep T G (.int i) (.int i) := by unfold Rep; rfl
theorem rep_bl {T : Tx} {G : Hp} {b : Bool} : Rep T G (.bl b) (.bl b) := by unfold Rep; rfl
theorem rep_str {T : Tx} {G : Hp} {x : Str} : Rep T G (.str x) (.str x) := by unfold Rep; rfl
theorem rep_non {T : Tx} {G : Hp} : Rep T G .non .non := by unfold Rep; rfl
theorem s_sub {T : Tx} : OpS T (rI0 fun i j => .int (i - j)) opSub := ops_I0 fun _ _ _ => rep_int
theorem s_lt {T : Tx} : OpS T (rI0 fun i j => .bl (decide (i < j))) opLt := ops_I0 fun _ _ _ => rep_bl
theorem s_le {T : Tx} : OpS T (rI0 fun i j => .bl (decide (i ≤ j))) opLe := ops_I0 fun _ _ _ => rep_bl
theorem s_gt {T : Tx} : OpS T (rI0 fun i j => .bl (decide (j < i))) opGt := ops_I0 fun _ _ _ => rep_bl
theorem s_ge {T : Tx} : OpS T (rI0 fun i j => .bl (decide (j ≤ i))) opGe := ops_I0 fun _ _ _ => rep_bl
theorem s_mul {T : Tx} : OpS T (rI CMul fun i j => .int (i * j)) opMul := ops_I (fun i j h => by
  simp only [Bool.or_eq_true, Bool.and_eq_true, decide_eq_true_eq] at h; exact h) fun _ _ _ => rep_int
theorem s_mod {T : Tx} : OpS T (rI (fun _ j => 0 < j) fun i j => .int (i % j)) opMod := ops_I (fun i j h => of_decide_eq_true h) fun _ _ _ => rep_int
theorem s_div {T : Tx} : OpS T (rI CDivW fun i j => .int (i / j)) opDiv := ops_I (fun i j h => by
  simp only [Bool.and_eq_true, decide_eq_true_eq] at h; exact wide_log h.1 h.2) fun _ _ _ => rep_int
theorem s_shl {T : Tx} : OpS T (rI CPow fun i j => .int (i * 2 ^ j.toNat)) opShl := ops_I (fun i j h => by
  simp only [Bool.and_eq_true, decide_eq_true_eq] at h; exact ⟨h.1.1, h.1.2, h.2⟩) fun _ _ _ => rep_int
abbrev rAddStr : R2 := fun x y H Q => ∃ i j, x = .str i ∧ y = .str j ∧ i.length + j.length ≤ sizeLine ∧ Q (.str (i ++ j)) H
abbrev rAddAll (K : PySem.W.Frag) : R2 := fun x y H Q => (rI0 fun i j => V.int (i + j)) x y H Q ∨ (fun x y H Q => rAddStr x y H Q ∨ (fun x y H Q => rCatA K x y H Q ∨ rCat x y H Q) x y H Q) x y H Q
theorem op_addAll {X : Cx} : OpR X (binaryOp .Add) (rAddAll X.K) := op_add.or (op_add_str.or (op_catA.or op_cat))
theorem lst_at {T : Tx} {ρ : Mp} {G H : Hp} {st : Store} (r : Rel T ρ G H st) {n : Nat} {u : V} {xs : List W} (hs : SlR T ρ G (.l n) u) (h : st.lget n = some xs) : ∃ a vs, ρ.l[n]? = some a ∧ u = .ref a ∧ H a = some (.lst vs) ∧ Reps T G xs vs := by
  obtain ⟨a, h1, h2⟩ := hs
  obtain ⟨_, o, h3, vs, h4, h5⟩ := r.la n a _ h1 (Store.lget_of h)
  exact ⟨a, vs, h1, h2, by rw [h3, h4], h5⟩
theorem vlst_at {T : Tx} {ρ : Mp} {G H : Hp} {st : Store} (r : Rel T ρ G H st) {u : V} {xs : List W} (hs : SlR T ρ G (.v (.lst xs)) u) : ∃ a vs, u = .ref a ∧ H a = some (.lst vs) ∧ Reps T G xs vs := by
  unfold SlR Rep at hs
  obtain ⟨a, vs, h1, h2, h3⟩ := hs
  exact ⟨a, vs, h1, r.ext _ _ h2, h3⟩
theorem cat_done {T : Tx} {ρ : Mp} {G H : Hp} {st : Store} (r : Rel T ρ G H st) {a b : Addr} {xs ys : List W} {vs us : List V} {Q : VK} {E : XK} (ha : H a = some (.lst vs)) (hb : H b = some (.lst us)) (hx : Reps T G xs vs) (hy : Reps T G ys us)
    (p : PostR T ρ G (SlR T) (if xs.length + ys.length ≤ big then .ok (.v (.lst (xs ++ ys))) st else .bad) Q E) : rCat (.ref a) (.ref b) H Q := by
  split at p
  · rename_i hz
    refine ⟨a, b, vs, us, rfl, rfl, ha, hb, by rw [big_line, ← hx.length, ← hy.length]; exact hz, fun q hq => ?_⟩
    obtain ⟨f, r2⟩ := r.newG (o := .lst (vs ++ us)) hq
    exact p _ _ _ _ f r2 (by unfold SlR Rep; exact ⟨q, _, rfl, upd_same, Reps.mono f.ex _ _ (hx.append hy)⟩)
  · exact p.elim
theorem s_add {T : Tx} : OpS T (rAddAll T.K) opAdd := fun ρ G H st x y u v Q E r hx hy p => by
  unfold opAdd at p
  split at p
  · unfold SlR Rep at hx hy; subst hx hy; exact .inl ⟨_, _, rfl, rfl, pg p r rep_int⟩
  · rename_i x' y' 
    split at p
    · rename_i hz
      unfold SlR Rep at hx hy; subst hx hy; exact .inr (.inl ⟨_, _, rfl, rfl, by rw [big_line]; exact hz, pg p r rep_str⟩)
    · exact p.elim
  · rename_i xs ys
    split at p
    · rename_i hz
      have hx0 := hx
      have hy0 := hy
      unfold SlR Rep at hx hy
      obtain ⟨a, vs, rfl, ha, hvs⟩ := hx
      obtain ⟨b, us, rfl, hb, hus⟩ := hy
      refine .inr (.inr (.inl ⟨a, b, vs, us, rfl, rfl, sqt_mono r.ext ha, sqt_mono r.ext hb, by rw [big_line, ← hvs.length, ← hus.length]; exact hz, fun e => ?_, fun e e2 => ?_, fun e e2 q hq => ?_⟩))
      · have : xs = [] := List.length_eq_zero_iff.mp (by rw [hvs.length, e]; rfl)
        subst this
        exact p.give r hy0
      · have : ys = [] := List.length_eq_zero_iff.mp (by rw [hus.length, e2]; rfl)
        subst this
        rw [List.append_nil] at p
        exact p.give r hx0
      · obtain ⟨f, r2⟩ := r.newG (o := .tup (vs ++ us)) hq
        exact p _ _ _ _ f r2 (by unfold SlR Rep; exact ⟨q, _, rfl, SqT.of upd_same, Reps.mono f.ex _ _ (hvs.append hus)⟩)
    · exact p.elim
  · obtain ⟨a, vs, rfl, ha, hvs⟩ := vlst_at r hx
    obtain ⟨b, us, rfl, hb, hus⟩ := vlst_at r hy
    exact .inr (.inr (.inr (cat_done r ha hb hvs hus p)))
  · split at p
    · rename_i ys e
      obtain ⟨a, vs, rfl, ha, hvs⟩ := vlst_at r hx
      obtain ⟨b, us, _, rfl, hb, hus⟩ := lst_at r hy e
      exact .inr (.inr (.inr (cat_done r ha hb hvs hus p)))
    · exact p.elim
  · split at p
    · rename_i ys e
      obtain ⟨b, us, _, rfl, hb, hus⟩ := lst_at r hx e
      obtain ⟨a, vs, rfl, ha, hvs⟩ := vlst_at r hy
      exact .inr (.inr (.inr (cat_done r hb ha hus hvs p)))
    · exact p.elim
  · split at p
    · rename_i xs ys e1 e2
      obtain ⟨a, vs, _, rfl, ha, hvs⟩ := lst_at r hx e1
      obtain ⟨b, us, _, rfl, hb, hus⟩ := lst_at r hy e2
      exact .inr (.inr (.inr (cat_done r ha hb hvs hus p)))
    · exact p.elim
  · exact p.elim
def toV : W → V
  | .bl b => .bl b
  | .int i => .int i
  | .str x => .str x
  | _ => .non
def flatW : W → Bool
  | .non => true
  | .bl _ => true
  | .int _ => true
  | .str _ => true
  | _ => false
theorem flat_rep {T : Tx} {G : Hp} {w : W} {u : V} (f : flatW w = true) (h : Rep T G w u) : u = toV w := by
  cases w <;> first | (unfold Rep at h; exact h) | cases f
theorem flat_toV {w : W} (f : flatW w = true) : flatV (toV w) = true := by
  cases w <;> first | rfl | cases f
theorem flat_reps {T : Tx} {G : Hp} : ∀ {ws : List W} {us : List V}, ws.all flatW = true → Reps T G ws us → us = ws.map toV
  | [], _, _, h => by unfold Reps at h; exact h
  | w :: ws, us, f, h => by
    rw [List.all_cons, Bool.and_eq_true] at f
    unfold Reps at h
    obtain ⟨v, q, rfl, h1, h2⟩ := h
    rw [flat_rep f.1 h1, flat_reps f.2 h2, List.map_cons]
theorem flat_all {ws : List W} (f : ws.all flatW = true) : (ws.map toV).all flatV = true := by
  rw [List.all_map]
  rw [List.all_eq_true] at f ⊢
  exact fun w hw => flat_toV (f w hw)
def opIn (neg : Bool) : Op2
  | .v w, y, st => match items st y with
    | some xs => if flatW w = true ∧ xs.all flatW = true then .ok (.v (.bl (if neg then !inV (toV w) (xs.map toV) else inV (toV w) (xs.map toV)))) st else .bad
    | none => .bad
  | _, _, _ => .bad
theorem s_in {T : Tx} {neg : Bool} : OpS T (rIn T.K neg) (opIn neg) := fun ρ G H st x y u v Q E r hx hy p => by
  unfold opIn at p
  split at p
  · split at p
    · rename_i w st' xs hxs
      split at p
      · rename_i hf
        obtain ⟨a, vs, rfl, hq, hr⟩ := items_at r hy hxs
        have e1 := flat_rep hf.1 hx
        have e2 := flat_reps hf.2 hr
        subst e1 e2
        exact ⟨a, _, rfl, hq, flat_toV hf.1, flat_all hf.2, pg p r rep_bl⟩
      · exact p.elim
    · exact p.elim
  · exact p.elim
def opIx : Op2
  | x, .v (.int i), st => match items st x with
    | some xs => match atI xs i with
      | some w => .ok (.v w) st
      | none => .bad
    | none => match x with
      | .v (.str z) => if z.length ≤ big then (match atI z.cps.toList i with
        | some c => .ok (.v (.str ⟨#[c]⟩)) st
        | none => .bad) else .bad
      | .t ns => (match atI ns i with
        | some n => .ok (.l n) st
        | none => .bad)
      | .z ws n => if 0 ≤ i then (match ws[i.toNat]? with
        | some w => .ok (.v w) st
        | none => if i.toNat = ws.length then .ok (.l n) st else .bad) else .bad
      | _ => .bad
  | _, _, _ => .bad
theorem tu_at {T : Tx} {ρ : Mp} {G : Hp} {ns : List Nat} {us : List V} {i : Int} {n : Nat} (h : TuR ρ ns us) (e : atI ns i = some n) : ∃ v, atI us i = some v ∧ SlR T ρ G (.l n) v := by
  unfold atI at e ⊢
  rw [← h.1]
  cases e1 : ixN ns.length i with
  | none => rw [e1] at e; cases e
  | some j =>
    rw [e1] at e
    obtain ⟨b, q1, q2⟩ := h.2 j n e
    exact ⟨.ref b, q2, b, q1, rfl⟩
theorem atI_reps {T : Tx} {G : Hp} {xs : List W} {vs : List V} {i : Int} {w : W} (h : Reps T G xs vs) (e : atI xs i = some w) : ∃ v, atI vs i = some v ∧ Rep T G w v := by
  unfold atI at e ⊢
  rw [← h.length]
  cases e1 : ixN xs.length i with
  | none => rw [e1] at e; cases e
  | some j =>
    rw [e1] at e
    obtain ⟨v, h1, h2⟩ := Reps.get' h (show xs[j]? = some w from e)
    exact ⟨v, h1, h2⟩
theorem atI_geZ {α : Type} {xs : List α} {i : Int} (h : 0 ≤ i) : atI xs i = xs[i.toNat]? := by
  unfold atI ixN
  by_cases h2 : i < xs.length
  · rw [if_pos h, if_pos h2]; rfl
  · rw [if_pos h, if_neg h2, List.getElem?_eq_none (by omega)]; rfl
theorem s_ix {T : Tx} : OpS T (rIx T.K) opIx := fun ρ G H st x y u v Q E r hx hy p => by
  obtain ⟨i, rfl⟩ : ∃ i, y = .v (.int i) := by
    cases y with
    | v w => cases w <;> first | exact ⟨_, rfl⟩ | (cases x <;> exact p.elim)
    | _ => cases x <;> exact p.elim
  have hy : v = .int i := by unfold SlR Rep at hy; exact hy
  subst hy
  unfold opIx at p
  dsimp only at p
  cases hxs : items st x with
  | some xs =>
    rw [hxs] at p
    dsimp only at p
    cases hw : atI xs i with
    | some w =>
      rw [hw] at p
      obtain ⟨a, vs, rfl, hq, hr⟩ := items_at r hx hxs
      obtain ⟨v, hv, rv⟩ := atI_reps hr hw
      rcases hq with hq | hq
      · exact .inl ⟨a, vs, i, v, rfl, rfl, hq, hv, pg p r rv⟩
      · exact .inr (.inl ⟨a, vs, i, v, rfl, rfl, hq, hv, pg p r rv⟩)
    | none => rw [hw] at p; exact p.elim
  | none =>
    rw [hxs] at p
    dsimp only at p
    split at p
    · rename_i z
      split at p
      · rename_i hz
        cases hc : atI z.cps.toList i with
        | some c =>
          rw [hc] at p
          have hx : u = .str z := by unfold SlR Rep at hx; exact hx
          subst hx
          exact .inr (.inr ⟨z, i, c, rfl, rfl, by rw [big_line]; exact hz, hc, pg p r rep_str⟩)
        | none => rw [hc] at p; exact p.elim
      · exact p.elim
    · rename_i ns
      cases hn : atI ns i with
      | some n =>
        rw [hn] at p
        obtain ⟨a, us, rfl, hq, ht⟩ := hx
        obtain ⟨v, hv, rv⟩ := tu_at (T := T) (G := G) ht hn
        exact .inr (.inl ⟨a, us, i, v, rfl, rfl, sqt_mono r.ext hq, hv, p.give r rv⟩)
      | none => rw [hn] at p; exact p.elim
    · rename_i ws n
      split at p
      · rename_i hi
        obtain ⟨a, us, b, rfl, h1, h2, h3⟩ := hx
        have hL := h3.length
        split at p
        · rename_i w hw
          obtain ⟨v, hv, rv⟩ := Reps.get' h3 hw
          refine .inl ⟨a, _, i, v, rfl, rfl, SqL.of (r.ext _ _ h1), ?_, pg p r rv⟩
          have hlt := (List.getElem?_eq_some_iff.mp hv).1
          exact (atI_geZ hi).trans ((List.getElem?_append_left hlt).trans hv)
        · split at p
          · rename_i hl
            refine .inl ⟨a, _, i, .ref b, rfl, rfl, SqL.of (r.ext _ _ h1), ?_, p.give r ⟨b, h2, rfl⟩⟩
            refine (atI_geZ hi).trans ?_
            rw [List.getElem?_append_right (by omega), show i.toNat - us.length = 0 by omega]; rfl
          · exact p.elim
      · exact p.elim
    · exact p.elim
mutual
def toD : W → Option PyData
  | .non => some .none
  | .bl b => some (.bool b)
  | .int i => some (.int i)
  | .str x => some (.str x)
  | .tup xs => (toDs xs).map .tuple
  | .lst xs => (toDs xs).map .list
  | .ro xs => (toDs xs).map .list
  | _ => none
def toDs : List W → Option (List PyData)
  | [] => some []
  | w :: ws => match toD w, toDs ws with
    | some d, some ds => some (d :: ds)
    | _, _ => none
end
mutual
theorem toD_dp {T : Tx} {G H : Hp} (e : ∀ a o, G a = some o → H a = some o) : ∀ (w : W) (u : V) (d : PyData), toD w = some d → Rep T G w u → Dp T.K H u d
  | .non, u, d, h, r => by unfold toD at h; cases h; unfold Rep at r; subst r; exact .non
  | .bl b, u, d, h, r => by unfold toD at h; cases h; unfold Rep at r; subst r; exact .bl b
  | .int i, u, d, h, r => by unfold toD at h; cases h; unfold Rep at r; subst r; exact .int i
  | .str x, u, d, h, r => by unfold toD at h; cases h; unfold Rep at r; subst r; exact .str x
  | .tup xs, u, d, h, r => by
    unfold toD at h; obtain ⟨ds, h1, rfl⟩ := Option.map_eq_some_iff.mp h
    unfold Rep at r; obtain ⟨a, vs, rfl, h2, h3⟩ := r
    exact .tup (sqt_mono e h2) (toDs_dp e xs vs ds h1 h3)
  | .lst xs, u, d, h, r => by
    unfold toD at h; obtain ⟨ds, h1, rfl⟩ := Option.map_eq_some_iff.mp h
    unfold Rep at r; obtain ⟨a, vs, rfl, h2, h3⟩ := r
    exact .lst (SqL.of (e _ _ h2)) (toDs_dp e xs vs ds h1 h3)
  | .ro xs, u, d, h, r => by
    unfold toD at h; obtain ⟨ds, h1, rfl⟩ := Option.map_eq_some_iff.mp h
    unfold Rep at r; obtain ⟨a, vs, rfl, h2, h3⟩ := r
    exact .lst (sql_mono e h2) (toDs_dp e xs vs ds h1 h3)
  | .dct _ _, u, d, h, r => by unfold toD at h; cases h
  | .ins _ _ _, u, d, h, r => by unfold toD at h; cases h
theorem toDs_dp {T : Tx} {G H : Hp} (e : ∀ a o, G a = some o → H a = some o) : ∀ (ws : List W) (us : List V) (ds : List PyData), toDs ws = some ds → Reps T G ws us → DpAll T.K H us ds
  | [], us, ds, h, r => by unfold toDs at h; cases h; unfold Reps at r; subst r; exact .nil
  | w :: ws, us, ds, h, r => by
    unfold toDs at h
    split at h
    · rename_i d ds' h1 h2
      cases h
      unfold Reps at r; obtain ⟨v, q, rfl, h3, h4⟩ := r
      exact .cons (toD_dp e w v d h1 h3) (toDs_dp e ws q ds' h2 h4)
    · cases h
end
def datum (st : Store) : Sl → Option PyData
  | .v w => toD w
  | .l n => match st.lget n with
    | some xs => (toDs xs).map .list
    | none => none
  | .o _ => none
  | .t _ => none
  | .q _ _ => none
  | .z _ _ => none
theorem datum_dp {T : Tx} {ρ : Mp} {G H : Hp} {st : Store} (r : Rel T ρ G H st) {s : Sl} {u : V} {d : PyData} (hs : SlR T ρ G s u) (h : datum st s = some d) : Dp T.K H u d := by
  cases s with
  | v w => exact toD_dp r.ext w u d h hs
  | l n =>
    unfold datum at h
    dsimp only at h
    split at h
    · rename_i xs e
      obtain ⟨ds, h1, rfl⟩ := Option.map_eq_some_iff.mp h
      obtain ⟨a, vs, _, rfl, ha, hr⟩ := lst_at r hs e
      exact .lst (SqL.of ha) (toDs_dp r.ext xs vs ds h1 hr)
    · cases h
  | o n => cases h
  | t ns => cases h
  | q k y => cases h
  | z k y => cases h
def opEq (neg : Bool) : Op2
  | .v (.int i), .v (.int j), st => .ok (.v (.bl (if neg then !decide (i = j) else decide (i = j)))) st
  | .v (.str i), .v (.str j), st => .ok (.v (.bl (if neg then !decide (i = j) else decide (i = j)))) st
  | x, y, st => match datum st x, datum st y with
    | some d, some e => if SeqAt.shaped d = true ∧ SeqAt.shaped e = true then .ok (.v (.bl (if neg then !PyData.eqv d e else PyData.eqv d e))) st else .bad
    | _, _ => .bad
abbrev rEqAll (K : PySem.W.Frag) : R2 := fun x y H Q => rEq x y H Q ∨ rEqD K x y H Q
abbrev rNeAll (K : PySem.W.Frag) : R2 := fun x y H Q => rNe x y H Q ∨ rNeD K x y H Q
theorem op_eqAll {X : Cx} (hu : X.A.units + 64 < cLine) : OpR X (compareOp .Eq) (rEqAll X.K) := op_eq.or (op_eqD hu)
theorem op_neAll {X : Cx} (hu : X.A.units + 64 < cLine) : OpR X (compareOp .NotEq) (rNeAll X.K) := op_ne.or (op_neD hu)
theorem s_eq {T : Tx} : OpS T (rEqAll T.K) (opEq false) := fun ρ G H st x y u v Q E r hx hy p => by
  unfold opEq at p
  split at p
  · unfold SlR Rep at hx hy; subst hx hy
    refine .inl ⟨rfl, ?_⟩
    have := pg p r rep_bl
    simpa [V.int.injEq] using this
  · unfold SlR Rep at hx hy; subst hx hy
    refine .inl ⟨rfl, ?_⟩
    have := pg p r rep_bl
    simpa [V.str.injEq] using this
  · split at p
    · rename_i d e h1 h2
      split at p
      · rename_i hs
        exact .inr ⟨d, e, datum_dp r hx h1, datum_dp r hy h2, hs.1, hs.2, pg p r rep_bl⟩
      · exact p.elim
    · exact p.elim
theorem s_ne {T : Tx} : OpS T (rNeAll T.K) (opEq true) := fun ρ G H st x y u v Q E r hx hy p => by
  unfold opEq at p
  split at p
  · unfold SlR Rep at hx hy; subst hx hy
    refine .inl ⟨rfl, ?_⟩
    have := pg p r rep_bl
    simpa [V.int.injEq] using this
  · unfold SlR Rep at hx hy; subst hx hy
    refine .inl ⟨rfl, ?_⟩
    have := pg p r rep_bl
    simpa [V.str.injEq] using this
  · split at p
    · rename_i d e h1 h2
      split at p
      · rename_i hs
        exact .inr ⟨d, e, datum_dp r hx h1, datum_dp r hy h2, hs.1, hs.2, pg p r rep_bl⟩
      · exact p.elim
    · exact p.elim
end Mz

set_option Elab.async false
set_option linter.all false
set_option maxRecDepth 100000
set_option maxHeartbeats 4000000
namespace Mz
open PySem PySem.Spec PyProof.Rows L2

def fLen : MF
  | [x], st => match items st x with
    | some xs => .ok (.v (.int xs.length)) st
    | none => match x with
      | .v (.str z) => if z.length ≤ big then .ok (.v (.int z.length)) st else .bad
      | .t ns => .ok (.v (.int ns.length)) st
      | .z ws _ => .ok (.v (.int ((ws.length + 1 : Nat) : Int))) st
      | _ => .bad
  | _, _ => .bad
abbrev rLenAll (K : PySem.W.Frag) : List V → Hp → VK → Prop := fun xs H Q => (∃ p ys, xs = [.ref p] ∧ (SqL K H p ys ∨ SqT K H p ys) ∧ Q (.int ys.length) H) ∨ (∃ z, xs = [.str z] ∧ z.length ≤ sizeLine ∧ Q (.int z.length) H)
theorem c_len {X : Cx} : CallR X (.builtin "len") (rLenAll X.K) := call_len_seq.or call_len_str
theorem s_len {T : Tx} : CaS T (rLenAll T.K) fLen := fun ρ G H st xs us Q E r hs p => by
  unfold fLen at p
  split at p
  · rename_i x
    obtain ⟨u, rfl, hx⟩ := slrs1 hs
    split at p
    · rename_i ys e
      obtain ⟨a, vs, rfl, hq, hr⟩ := items_at r hx e
      exact .inl ⟨a, vs, rfl, hq, by rw [← hr.length]; exact pg p r rep_int⟩
    · split at p
      · rename_i z _
        split at p
        · rename_i hz
          unfold SlR Rep at hx; subst hx
          exact .inr ⟨z, rfl, by rw [big_line]; exact hz, pg p r rep_int⟩
        · exact p.elim
      · rename_i ns _
        obtain ⟨a, us, rfl, hq, ht⟩ := hx
        exact .inl ⟨a, us, rfl, .inr (sqt_mono r.ext hq), by rw [← ht.1]; exact pg p r rep_int⟩
      · rename_i ws n _
        obtain ⟨a, us, b, rfl, h1, h2, h3⟩ := hx
        exact .inl ⟨a, us ++ [.ref b], rfl, .inl (SqL.of (r.ext _ _ h1)), by rw [List.length_append, ← h3.length]; exact pg p r rep_int⟩
      · exact p.elim
  · exact p.elim
def fInt : MF
  | [.v (.int i)], st => .ok (.v (.int i)) st
  | [.v (.bl b)], st => .ok (.v (.int (if b then 1 else 0))) st
  | _, _ => .bad
abbrev rInt1 : List V → Hp → VK → Prop := fun xs H Q => (∃ i, xs = [.int i] ∧ Q (.int i) H) ∨ ∃ k, xs = [.bl k] ∧ Q (.int (if k then 1 else 0)) H
theorem s_int {T : Tx} : CaS T rInt1 fInt := fun ρ G H st xs us Q E r hs p => by
  unfold fInt at p
  split at p
  · obtain ⟨u, rfl, hx⟩ := slrs1 hs
    unfold SlR Rep at hx; subst hx
    exact .inl ⟨_, rfl, pg p r rep_int⟩
  · obtain ⟨u, rfl, hx⟩ := slrs1 hs
    unfold SlR Rep at hx; subst hx
    exact .inr ⟨_, rfl, pg p r rep_int⟩
  · exact p.elim
def fAbs : MF
  | [.v (.int i)], st => .ok (.v (.int (if i < 0 then -i else i))) st
  | _, _ => .bad
theorem s_abs {T : Tx} : CaS T (fun xs H Q => ∃ i, xs = [.int i] ∧ Q (.int (if i < 0 then -i else i)) H) fAbs := fun ρ G H st xs us Q E r hs p => by
  unfold fAbs at p
  split at p
  · obtain ⟨u, rfl, hx⟩ := slrs1 hs
    unfold SlR Rep at hx; subst hx
    exact ⟨_, rfl, pg p r rep_int⟩
  · exact p.elim
def fMax2 : MF
  | [.v (.int i), .v (.int j)], st => .ok (.v (.int (if j > i then j else i))) st
  | _, _ => .bad
theorem s_max2 {T : Tx} : CaS T (fun xs H Q => ∃ i j, xs = [.int i, .int j] ∧ Q (.int (if j > i then j else i)) H) fMax2 := fun ρ G H st xs us Q E r hs p => by
  unfold fMax2 at p
  split at p
  · obtain ⟨u, v, rfl, hx, hy⟩ := slrs2 hs
    unfold SlR Rep at hx hy; subst hx hy
    exact ⟨_, _, rfl, pg p r rep_int⟩
  · exact p.elim
def fMin2 : MF
  | [.v (.int i), .v (.int j)], st => .ok (.v (.int (if j < i then j else i))) st
  | _, _ => .bad
theorem s_min2 {T : Tx} : CaS T (fun xs H Q => ∃ i j, xs = [.int i, .int j] ∧ Q (.int (if j < i then j else i)) H) fMin2 := fun ρ G H st xs us Q E r hs p => by
  unfold fMin2 at p
  split at p
  · obtain ⟨u, v, rfl, hx, hy⟩ := slrs2 hs
    unfold SlR Rep at hx hy; subst hx hy
    exact ⟨_, _, rfl, pg p r rep_int⟩
  · exact p.elim
def intsOf : List W → Option (List Int)
  | [] => some []
  | .int i :: r => (intsOf r).map (i :: ·)
  | _ => none
theorem ints_rep {T : Tx} {G : Hp} : ∀ {ws : List W} {ns : List Int} {us : List V}, intsOf ws = some ns → Reps T G ws us → us = ns.map V.int
  | [], ns, us, h, r => by cases h; unfold Reps at r; exact r
  | w :: ws, ns, us, h, r => by
    cases w with
    | int i =>
      unfold intsOf at h
      obtain ⟨ms, h1, rfl⟩ := Option.map_eq_some_iff.mp h
      unfold Reps at r
      obtain ⟨v, q, rfl, h2, h3⟩ := r
      unfold Rep at h2
      rw [h2, ints_rep h1 h3, List.map_cons]
    | _ => cases h
def bsOf : List W → Option (List Bool)
  | [] => some []
  | .bl i :: r => (bsOf r).map (i :: ·)
  | _ => none
theorem bs_rep {T : Tx} {G : Hp} : ∀ {ws : List W} {ns : List Bool} {us : List V}, bsOf ws = some ns → Reps T G ws us → us = ns.map V.bl
  | [], ns, us, h, r => by cases h; unfold Reps at r; exact r
  | w :: ws, ns, us, h, r => by
    cases w with
    | bl i =>
      unfold bsOf at h
      obtain ⟨ms, h1, rfl⟩ := Option.map_eq_some_iff.mp h
      unfold Reps at r
      obtain ⟨v, q, rfl, h2, h3⟩ := r
      unfold Rep at h2
      rw [h2, bs_rep h1 h3, List.map_cons]
    | _ => cases h
def fSum : MF
  | [x], st => match litems st x with
    | some xs => match intsOf xs with
      | some ns => .ok (.v (.int ns.sum)) st
      | none => .bad
    | none => .bad
  | _, _ => .bad
theorem s_sum {T : Tx} : CaS T (rSum T.K) fSum := fun ρ G H st xs us Q E r hs p => by
  unfold fSum at p
  split at p
  · obtain ⟨u, rfl, hx⟩ := slrs1 hs
    split at p
    · rename_i ys e
      split at p
      · rename_i ns e2
        obtain ⟨a, vs, rfl, hq, hr⟩ := litems_at r hx e
        rw [ints_rep e2 hr] at hq
        exact ⟨a, ns, rfl, hq, pg p r rep_int⟩
      · exact p.elim
    · exact p.elim
  · exact p.elim
def maxOf : List Int → Int
  | [] => 0
  | [x] => x
  | x :: xs => if maxOf xs < x then x else maxOf xs
theorem maxOf_is : ∀ {ns : List Int} {m : Int}, m ∈ ns → (∀ y, y ∈ ns → y ≤ m) → m = maxOf ns
  | [], m, h, _ => by cases h
  | [x], m, h, _ => by simp at h; exact h
  | x :: y :: r, m, h, g => by
    show m = if maxOf (y :: r) < x then x else maxOf (y :: r)
    have hx := g x List.mem_cons_self
    have hin : ∀ (ns : List Int), ns ≠ [] → maxOf ns ∈ ns := by
      intro ns
      induction ns with
      | nil => intro h; exact absurd rfl h
      | cons a l ih =>
        intro _
        cases l with
        | nil => simp [maxOf]
        | cons b l' =>
          show (if maxOf (b :: l') < a then a else maxOf (b :: l')) ∈ a :: b :: l'
          split
          · exact List.mem_cons_self
          · exact List.mem_cons_of_mem _ (ih (by simp))
    have hr := g _ (List.mem_cons_of_mem x (hin (y :: r) (by simp)))
    rcases List.mem_cons.mp h with e | e
    · subst e
      split
      · rfl
      · omega
    · have e2 := maxOf_is e (fun z hz => g z (List.mem_cons_of_mem x hz))
      split
      · omega
      · exact e2
def fMaxL : MF
  | [x], st => match litems st x with
    | some xs => match intsOf xs with
      | some ns => if 0 < ns.length then .ok (.v (.int (maxOf ns))) st else .bad
      | none => .bad
    | none => .bad
  | _, _ => .bad
theorem s_maxL {T : Tx} : CaS T (rMax T.K) fMaxL := fun ρ G H st xs us Q E r hs p => by
  unfold fMaxL at p
  split at p
  · obtain ⟨u, rfl, hx⟩ := slrs1 hs
    split at p
    · rename_i ys e
      split at p
      · rename_i ns e2
        split at p
        · rename_i h0
          obtain ⟨a, vs, rfl, hq, hr⟩ := litems_at r hx e
          rw [ints_rep e2 hr] at hq
          exact ⟨a, ns, rfl, hq, h0, fun m hm hg => by rw [maxOf_is hm hg]; exact pg p r rep_int⟩
        · exact p.elim
      · exact p.elim
    · exact p.elim
  · exact p.elim
def fAll (f : List Bool → Bool) : MF
  | [x], st => match litems st x with
    | some xs => match bsOf xs with
      | some ns => .ok (.v (.bl (f ns))) st
      | none => .bad
    | none => .bad
  | _, _ => .bad
theorem s_all {T : Tx} : CaS T (rAll T.K) (fAll fun bs => bs.all id) := fun ρ G H st xs us Q E r hs p => by
  unfold fAll at p
  split at p
  · obtain ⟨u, rfl, hx⟩ := slrs1 hs
    split at p
    · rename_i ys e
      split at p
      · rename_i ns e2
        obtain ⟨a, vs, rfl, hq, hr⟩ := litems_at r hx e
        rw [bs_rep e2 hr] at hq
        exact ⟨a, ns, rfl, hq, pg p r rep_bl⟩
      · exact p.elim
    · exact p.elim
  · exact p.elim
def fList : MF
  | [x], st => match items st x with
    | some xs => .ok (.v (.lst xs)) st
    | none => .bad
  | _, _ => .bad
def fListM : MF
  | [x], st => match items st x with
    | some xs => .ok (.l st.l.length) (st.push (.lst xs))
    | none => .bad
  | _, _ => .bad
abbrev rListAll (K : PySem.W.Frag) : List V → Hp → VK → Prop := fun xs H Q => ∃ p ys, xs = [.ref p] ∧ (SqL K H p ys ∨ SqT K H p ys) ∧ ∀ l, H l = none → Q (.ref l) (upd H l (.lst ys))
theorem s_list {T : Tx} : CaS T (rListAll T.K) fList := fun ρ G H st xs us Q E r hs p => by
  unfold fList at p
  split at p
  · obtain ⟨u, rfl, hx⟩ := slrs1 hs
    split at p
    · rename_i ys e
      obtain ⟨a, vs, rfl, hq, hr⟩ := items_at r hx e
      refine ⟨a, vs, rfl, hq, fun q hq => ?_⟩
      obtain ⟨f, r2⟩ := r.newG (o := .lst vs) hq
      exact p _ _ _ _ f r2 (by unfold SlR Rep; exact ⟨q, _, rfl, upd_same, Reps.mono f.ex _ _ hr⟩)
    · exact p.elim
  · exact p.elim
theorem s_listM {T : Tx} : CaS T (rListAll T.K) fListM := fun ρ G H st xs us Q E r hs p => by
  unfold fListM at p
  split at p
  · obtain ⟨u, rfl, hx⟩ := slrs1 hs
    split at p
    · rename_i ys e
      obtain ⟨a, vs, rfl, hq, hr⟩ := items_at r hx e
      refine ⟨a, vs, rfl, hq, fun q hq => ?_⟩
      obtain ⟨f, r2⟩ := r.newL (o := .lst vs) (x := .lst ys) hq ⟨vs, rfl, hr⟩
      exact p _ _ _ _ f r2 ⟨q, by show (ρ.l ++ [q])[st.l.length]? = some q; rw [← r.ll]; simp, rfl⟩
    · exact p.elim
  · exact p.elim
def fTuple : MF
  | [.v (.tup xs)], st => .ok (.v (.tup xs)) st
  | [x], st => match litems st x with
    | some xs => .ok (.v (.tup xs)) st
    | none => .bad
  | _, _ => .bad
abbrev rTupAll (K : PySem.W.Frag) : List V → Hp → VK → Prop := fun xs H Q => ∃ p ys, xs = [.ref p] ∧ ((SqL K H p ys ∧ ∀ l, H l = none → Q (.ref l) (upd H l (.tup ys))) ∨ (SqT K H p ys ∧ Q (.ref p) H))
theorem s_tuple {T : Tx} : CaS T (rTupAll T.K) fTuple := fun ρ G H st xs us Q E r hs p => by
  unfold fTuple at p
  split at p
  · obtain ⟨u, rfl, hx⟩ := slrs1 hs
    have hx0 := hx
    unfold SlR Rep at hx
    obtain ⟨a, vs, rfl, hq, hr⟩ := hx
    exact ⟨a, vs, rfl, .inr ⟨sqt_mono r.ext hq, p.give r hx0⟩⟩
  · obtain ⟨u, rfl, hx⟩ := slrs1 hs
    split at p
    · rename_i ys e
      obtain ⟨a, vs, rfl, hq, hr⟩ := litems_at r hx e
      refine ⟨a, vs, rfl, .inl ⟨hq, fun q hq => ?_⟩⟩
      obtain ⟨f, r2⟩ := r.newG (o := .tup vs) hq
      exact p _ _ _ _ f r2 (by unfold SlR Rep; exact ⟨q, _, rfl, SqT.of upd_same, Reps.mono f.ex _ _ hr⟩)
    · exact p.elim
  · exact p.elim
def opIsN (neg : Bool) : Op2
  | .v .non, .v .non, st => .ok (.v (.bl (!neg))) st
  | _, .v .non, st => .ok (.v (.bl neg)) st
  | .v (.bl a), .v (.bl b), st => .ok (.v (.bl (if neg then !decide (a = b) else decide (a = b)))) st
  | _, .v (.bl _), st => .ok (.v (.bl neg)) st
  | _, _, _ => .bad
def rIsO (c : Bool) : R2 := fun x y H Q => ∃ b, y = .bl b ∧ (∀ a, x ≠ .bl a) ∧ Q (.bl c) H
theorem relV_notbl {x : V} {v : Value} (h : L2.RelV x v) (hx : ∀ a, x ≠ .bl a) (b : Bool) : plainIs v (.bool b) = true ∧ v ≠ .bool b := by
  cases x <;> unfold L2.RelV at h <;> first | exact absurd rfl (hx _) | (cases h; exact ⟨rfl, fun e => by cases e⟩) | (obtain ⟨t, rfl⟩ := h; exact ⟨rfl, fun e => by cases e⟩)
theorem op_isO {X : Cx} : OpR X (compareOp .Is) (rIsO false) := by
  intro pins s σ H x y v u Q I rx ry h
  obtain ⟨b, rfl, hx, q⟩ := h
  cases (show u = Value.bool b from ry)
  obtain ⟨h1, h2⟩ := relV_notbl rx hx b
  exact wpAny_is_other h1 h2 ⟨.bl false, H, I, rfl, q⟩
theorem op_notO {X : Cx} : OpR X (compareOp .IsNot) (rIsO true) := by
  intro pins s σ H x y v u Q I rx ry h
  obtain ⟨b, rfl, hx, q⟩ := h
  cases (show u = Value.bool b from ry)
  obtain ⟨h1, h2⟩ := relV_notbl rx hx b
  exact wpAny_isNot_other h1 h2 ⟨.bl true, H, I, rfl, q⟩
abbrev rIsN : R2 := fun x y H Q => y = .non ∧ Q (.bl (decide (x = .non))) H
abbrev rNotN : R2 := fun x y H Q => y = .non ∧ Q (.bl (!decide (x = .non))) H
theorem op_isAll {X : Cx} : OpR X (compareOp .Is) (fun x y H Q => rIsN x y H Q ∨ rIsB x y H Q ∨ rIsO false x y H Q) := op_isN.or (op_isBl.or op_isO)
theorem op_notAll {X : Cx} : OpR X (compareOp .IsNot) (fun x y H Q => rNotN x y H Q ∨ rNotB x y H Q ∨ rIsO true x y H Q) := op_notN.or (op_notBl.or op_notO)
theorem slr_not_non {T : Tx} {ρ : Mp} {G : Hp} {x : Sl} {u : V} (h : SlR T ρ G x u) (hx : x ≠ .v .non) : u ≠ .non := by
  intro e
  subst e
  cases x with
  | v w =>
    cases w <;> unfold SlR Rep at h <;> first | exact hx rfl | (cases h; done) | (obtain ⟨_, _, h, _⟩ := h; cases h; done) | (obtain ⟨_, _, _, h, _⟩ := h; cases h)
  | l n => obtain ⟨_, _, h⟩ := h; cases h
  | o n => obtain ⟨_, _, h⟩ := h; cases h
  | t ns => obtain ⟨_, _, h, _⟩ := h; cases h
  | q k y => obtain ⟨_, _, _, h, _⟩ := h; cases h
  | z k y => obtain ⟨_, _, _, h, _⟩ := h; cases h
theorem slr_not_bl {T : Tx} {ρ : Mp} {G : Hp} {x : Sl} {u : V} (h : SlR T ρ G x u) (hx : ∀ a, x = .v (.bl a) → False) : ∀ a, u ≠ .bl a := by
  intro a e
  subst e
  cases x with
  | v w =>
    cases w <;> unfold SlR Rep at h <;> first | exact hx _ rfl | (cases h; done) | (obtain ⟨_, _, h, _⟩ := h; cases h; done) | (obtain ⟨_, _, _, h, _⟩ := h; cases h)
  | l n => obtain ⟨_, _, h⟩ := h; cases h
  | o n => obtain ⟨_, _, h⟩ := h; cases h
  | t ns => obtain ⟨_, _, h, _⟩ := h; cases h
  | q k y => obtain ⟨_, _, _, h, _⟩ := h; cases h
  | z k y => obtain ⟨_, _, _, h, _⟩ := h; cases h
theorem s_is {T : Tx} : OpS T (fun x y H Q => rIsN x y H Q ∨ rIsB x y H Q ∨ rIsO false x y H Q) (opIsN false) := fun ρ G H st x y u v Q E r hx hy p => by
  unfold opIsN at p
  split at p
  · unfold SlR Rep at hx hy; subst hx hy
    exact .inl ⟨rfl, pg p r rep_bl⟩
  · rename_i hne
    unfold SlR Rep at hy; subst hy
    have := slr_not_non hx hne
    exact .inl ⟨rfl, by rw [decide_eq_false this]; exact pg p r rep_bl⟩
  · unfold SlR Rep at hx hy; subst hx hy
    exact .inr (.inl ⟨_, _, rfl, rfl, pg p r rep_bl⟩)
  · rename_i hne
    unfold SlR Rep at hy; subst hy
    exact .inr (.inr ⟨_, rfl, slr_not_bl hx hne, pg p r rep_bl⟩)
  · exact p.elim
theorem s_isnot {T : Tx} : OpS T (fun x y H Q => rNotN x y H Q ∨ rNotB x y H Q ∨ rIsO true x y H Q) (opIsN true) := fun ρ G H st x y u v Q E r hx hy p => by
  unfold opIsN at p
  split at p
  · unfold SlR Rep at hx hy; subst hx hy
    exact .inl ⟨rfl, pg p r rep_bl⟩
  · rename_i hne
    unfold SlR Rep at hy; subst hy
    have := slr_not_non hx hne
    exact .inl ⟨rfl, by rw [decide_eq_false this]; exact pg p r rep_bl⟩
  · unfold SlR Rep at hx hy; subst hx hy
    exact .inr (.inl ⟨_, _, rfl, rfl, pg p r rep_bl⟩)
  · rename_i hne
    unfold SlR Rep at hy; subst hy
    exact .inr (.inr ⟨_, rfl, slr_not_bl hx hne, pg p r rep_bl⟩)
  · exact p.elim
def tyName (st : Store) : Sl → Option String
  | .v .non => some "NoneType"
  | .v (.bl _) => some "bool"
  | .v (.int _) => some "int"
  | .v (.str _) => some "str"
  | .v (.tup _) => some "tuple"
  | .v (.lst _) => some "list"
  | .v (.dct _ _) => some "dict"
  | .l n => match st.l[n]? with
    | some (.lst _) => some "list"
    | some (.dct _ _) => some "dict"
    | _ => none
  | .t _ => some "tuple"
  | .z _ _ => some "list"
  | _ => none
theorem tyName_at {T : Tx} {ρ : Mp} {G H : Hp} {st : Store} (r : Rel T ρ G H st) {s : Sl} {u : V} {t : String} (hs : SlR T ρ G s u) (h : tyName st s = some t) : ∃ t', TyX T.K H u t' ∧ t' = .type t := by
  cases s with
  | v w =>
    cases w with
    | non => cases h; unfold SlR Rep at hs; subst hs; exact ⟨_, .base .non, rfl⟩
    | bl b => cases h; unfold SlR Rep at hs; subst hs; exact ⟨_, .base (.bl b), rfl⟩
    | int b => cases h; unfold SlR Rep at hs; subst hs; exact ⟨_, .base (.int b), rfl⟩
    | str b => cases h; unfold SlR Rep at hs; subst hs; exact ⟨_, .base (.str b), rfl⟩
    | lst xs => cases h; unfold SlR Rep at hs; obtain ⟨a, vs, rfl, h1, _⟩ := hs; exact ⟨_, .base (.lst (r.ext _ _ h1)), rfl⟩
    | dct ks ws => cases h; unfold SlR Rep at hs; obtain ⟨a, vs, rfl, h1, _⟩ := hs; exact ⟨_, .base (.dK (r.ext _ _ h1)), rfl⟩
    | tup xs =>
      cases h; unfold SlR Rep at hs; obtain ⟨a, vs, rfl, h1, _⟩ := hs
      rcases sqt_mono r.ext h1 with (h1 | ⟨o, h1⟩) | ⟨us, hu⟩
      · exact ⟨_, .base (.tup h1), rfl⟩
      · exact ⟨_, .fTuple h1, rfl⟩
      · obtain ⟨n, o, h1, h2, _⟩ := hu
        exact ⟨_, .kTuple h1 h2, rfl⟩
    | _ => cases h
  | l n =>
    unfold tyName at h
    dsimp only at h
    split at h
    · rename_i xs e
      cases h
      obtain ⟨a, h1, rfl⟩ := hs
      obtain ⟨_, o, h3, vs, rfl, h5⟩ := r.la n a _ h1 e
      exact ⟨_, .base (.lst h3), rfl⟩
    · rename_i xs e e2
      cases h
      obtain ⟨a, h1, rfl⟩ := hs
      obtain ⟨_, o, h3, vs, rfl, h5⟩ := r.la n a _ h1 e2
      exact ⟨_, .base (.dK h3), rfl⟩
    · cases h
  | o n => cases h
  | q k y => cases h
  | z k y => cases h; obtain ⟨a, us, b, rfl, h1, _⟩ := hs; exact ⟨_, .base (.lst (r.ext _ _ h1)), rfl⟩
  | t ns =>
    cases h; obtain ⟨a, vs, rfl, h1, _⟩ := hs
    rcases sqt_mono r.ext h1 with (h1 | ⟨o, h1⟩) | ⟨us, hu⟩
    · exact ⟨_, .base (.tup h1), rfl⟩
    · exact ⟨_, .fTuple h1, rfl⟩
    · obtain ⟨n, o, h1, h2, _⟩ := hu
      exact ⟨_, .kTuple h1 h2, rfl⟩
def mIsTy (t : String) (a : ME) : ME := fun env st => (a env st).bind fun x st1 => match tyName st1 x with
  | some n => match kitB n t with
    | some b => .ok (.v (.bl b)) st1
    | none => .bad
  | none => .bad
section
variable {X : Cx} {cl : Nat → Addr} {Wx : WX} {e : Expr} {me : ME} {pos p p2 : Pos} {x : Str} {t : String}
theorem ie_isTy (he : IE X cl Wx e me) (hg : Gl X "isinstance") (hm : X.mg "isinstance" = none) (hg2 : Gl X x) (hm2 : X.mg x = none) (hv2 : bootBuiltins x = some (.type t)) (hv : bootBuiltins "isinstance" = some (.builtin "isinstance") := by decide +kernel) (hn2 : x ≠ "__name__" := by decide) (hd2 : (x == ("__debug__" : Str)) = false := by decide)
    (hs : starEach (e :: [.Name x p2]) X.env = (false, eval e X.env) :: starEach [.Name x p2] X.env := by rfl) (hs2 : starEach [.Name x p2] X.env = (false, eval (.Name x p2) X.env) :: starEach [] X.env := by rfl) (hpl : (backTo pos (starEach [.Name x p2] X.env)).any (·.1) = false := by rfl) :
    IE X cl Wx (.Call (.Name "isinstance" p) [e, .Name x p2] [] pos) (mIsTy t me) :=
  pe_weak (pe_callB call_isi hg hm hv (pa_cons he (pa_cons (pe_bltn (v := .ty t) hg2 hm2 hv2 rfl hn2 hd2) pa_nil hs2) hs) (by decide) (by decide) hs hpl) fun σ H Q ⟨env, ρ, G, st, rel, er, q⟩ =>
    ⟨env, ρ, G, st, rel, er, PostR.bind (R1 := Mz.SlR ⟨X.K, cl⟩) q fun y st1 ρ1 G1 H1 u f1 r1 s1 p1 => by
      split at p1
      · rename_i n hn
        split at p1
        · rename_i b hb
          obtain ⟨t', h1, rfl⟩ := tyName_at r1 s1 hn
          exact ⟨u, .ty t, _, _, b, rfl, .ty t, h1, kit_ty hb, pg p1 r1 rep_bl⟩
        · exact p1.elim
      · exact p1.elim⟩
end

abbrev LM := List W → List Sl → Option (W × List W)
def mLm (f : LM) (o : ME) (a : MA) : ME := fun env st => (o env st).bind fun x st1 => match x with
  | .l n => match st1.lget n with
    | some _ => (a env st1).bind fun ys st2 => match st2.lget n with
      | some xs => match f xs ys with
        | some (w, zs) => .ok (.v w) (st2.setl n (.lst zs))
        | none => .bad
      | none => .bad
    | none => .bad
  | _ => .bad
def LmS (T : Tx) (r : V → List V → Hp → VK → Prop) (f : LM) : Prop := ∀ ρ G a H vs xs ys us w zs Q, H a = some (.lst vs) → Reps T G xs vs → SlRs T ρ G ys us → f xs ys = some (w, zs) →
  (∀ v vs', Rep T G w v → Reps T G zs vs' → Q v (upd H a (.lst vs'))) → r (.ref a) us H Q
def lmAppend : LM
  | xs, [.v w] => if xs.length < big then some (.non, xs ++ [w]) else none
  | _, _ => none
def lmInsert : LM
  | xs, [.v (.int i), .v w] => if xs.length < big ∧ 0 ≤ i ∧ i < 2 ^ 63 then some (.non, xs.take i.toNat ++ [w] ++ xs.drop i.toNat) else none
  | _, _ => none
theorem lm_append {T : Tx} : LmS T rAppend lmAppend := fun ρ G a H vs xs ys us w zs Q ha hr hs e k => by
  unfold lmAppend at e
  split at e
  · split at e
    · rename_i hz
      cases e
      obtain ⟨u, rfl, hu⟩ := slrs1 hs
      exact ⟨a, vs, u, rfl, rfl, ha, by rw [big_line, ← hr.length]; exact hz, k _ _ rep_non (hr.append (Reps.cons hu Reps.nil))⟩
    · cases e
  · cases e
abbrev rInsert : V → List V → Hp → VK → Prop := fun x vs H Q => ∃ (l : Addr) (xs : List V) (i : Int) (y : V), x = .ref l ∧ vs = [.int i, y] ∧ H l = some (.lst xs) ∧ xs.length < sizeLine ∧ 0 ≤ i ∧ i < 2 ^ 63 ∧
    Q .non (upd H l (.lst (xs.take i.toNat ++ [y] ++ xs.drop i.toNat)))
theorem lm_insert {T : Tx} : LmS T rInsert lmInsert := fun ρ G a H vs xs ys us w zs Q ha hr hs e k => by
  unfold lmInsert at e
  split at e
  · split at e
    · rename_i hz
      cases e
      obtain ⟨u, v, rfl, hu, hv⟩ := slrs2 hs
      unfold SlR Rep at hu; subst hu
      exact ⟨a, vs, _, v, rfl, rfl, ha, by rw [big_line, ← hr.length]; exact hz.1, hz.2.1, hz.2.2, k _ _ rep_non (((hr.take _).append (Reps.cons hv Reps.nil)).append (hr.drop _))⟩
    · cases e
  · cases e
section
variable {X : Cx} {cl : Nat → Addr} {Wx : WX} {o e i : Expr} {es : List Expr} {mo me mi : ME} {ma : MA} {name : Str} {apos cpos pos : Pos} {id : String} {r : V → List V → Hp → VK → Prop}
theorem ie_lm {f : LM} (hs : LmS ⟨X.K, cl⟩ r f) (slot : Slot "list" name id) (hty : typeOf (.builtin id) = pure (.type "method_descriptor")) (hm : MtR X id r) (ho : IE X cl Wx o mo) (ha : IA X cl Wx (e :: es) ma)
    (hbase : attributeBase o name X.env (eval o X.env) = eval o X.env := by rfl)
    (hfew : ((backTo cpos (starEach (e :: es) X.env)).all (fun x => !x.1) && (backToKw cpos (keywordEach [] X.env)).all (fun x => x.1.isSome)
      && decide ((e :: es).length + ([] : List Keyword).length + (if ([] : List Keyword).isEmpty then 0 else 1) < 30)) = true := by rfl)
    (hline : (apos.endLine == cpos.line) = true := by rfl) (he : starEach (e :: es) X.env = (false, eval e X.env) :: starEach es X.env := by rfl) (hplain : (backTo cpos (starEach es X.env)).any (·.1) = false := by rfl) :
    IE X cl Wx (.Call (.Attribute o name apos) (e :: es) [] cpos) (mLm f mo ma) :=
  pe_weak (pe_bm PySem.F.plainAttrs_list slot hty hm ho ha hbase hfew hline he hplain) fun σ H Q ⟨env, ρ, G, st, rel, er, p⟩ => ⟨env, ρ, G, st, rel, er, PostR.bind (R1 := Mz.SlR ⟨X.K, cl⟩) p fun x st1 ρ1 G1 H1 u f1 r1 s1 p1 => by
    split at p1
    · rename_i n
      split at p1
      · rename_i xs0 e0
        obtain ⟨a, vs, ha1, rfl, hH, _⟩ := lst_at r1 s1 e0
        refine ⟨.inl ⟨rfl, vs, SqL.of hH⟩, env, ρ1, G1, st1, r1, er.mono f1, PostR.bind (R1 := SlRs ⟨X.K, cl⟩) p1 fun ys st2 ρ2 G2 H2 us f2 r2 s2 p2 => ?_⟩
        split at p2
        · rename_i xs e1
          obtain ⟨a', vs2, ha2, e2, hH2, hr2⟩ := lst_at r2 (SlR.mono f2 (show Mz.SlR ⟨X.K, cl⟩ ρ1 G1 (.l n) (.ref a) from ⟨a, ha1, rfl⟩)) e1
          cases e2
          split at p2
          · rename_i w zs e3
            exact hs ρ2 G2 a H2 vs2 xs ys us w zs Q hH2 hr2 s2 e3 fun v vs' rv rz => p2 ρ2 G2 _ v (Fr.refl _ _) (r2.setl ha2 ⟨vs', rfl, rz⟩ (Store.lget_of e1) (fun z => by cases z)) rv
          · exact p2.elim
        · exact p2.elim
      · exact p1.elim
    · exact p1.elim⟩
def mSetI (o i e : ME) : MS := fun env st => ofR env (e env st) fun y st1 => ofR env (o env st1) fun x st2 => ofR env (i env st2) fun k st3 => match y, x, k with
  | .v w, .l n, .v (.int j) => match st3.lget n with
    | some xs => match ixN xs.length j with
      | some q => .nx env (st3.setl n (.lst (xs.set q w)))
      | none => .bad
    | none => .bad
  | _, _, _ => .bad
theorem is_setI {p2 : Pos} (he : IE X cl Wx e me) (ho : IE X cl Wx o mo) (hi : IE X cl Wx i mi) (hg : PG X (.Subscript o i p2) (gSub (tM ⟨X.K, cl⟩ Wx mo) (tM ⟨X.K, cl⟩ Wx mi) rSetL)) (hs : swapsWithSole [.Subscript o i p2] e pos.line X.env = pure false := by rfl) (hw : swappedStores [.Subscript o i p2] e X.env = pure none := by rfl)
    (h1 : List.map (fun x => x.snd) (assignEach [.Subscript o i p2] X.env) = [assign (.Subscript o i p2) X.env] := by rfl) : IS X cl Wx (.Assign [.Subscript o i p2] e pos) (mSetI mo mi me) :=
  ps_weak (ps_asg he hg hs hw (h1 := h1)) fun D σ H ⟨env, ρ, G, st, r, er, p⟩ => ⟨env, ρ, G, st, r, er, PostS.ofR (R := Mz.SlR ⟨X.K, cl⟩) er p fun y st1 ρ1 G1 H1 u f1 r1 s1 p1 =>
    ⟨env, ρ1, G1, st1, r1, er.mono f1, PostS.ofR (R := Mz.SlR ⟨X.K, cl⟩) (er.mono f1) p1 fun x st2 ρ2 G2 H2 v f2 r2 s2 p2 =>
      ⟨env, ρ2, G2, st2, r2, (er.mono f1).mono f2, PostS.ofR (R := Mz.SlR ⟨X.K, cl⟩) ((er.mono f1).mono f2) p2 fun k st3 ρ3 G3 H3 z f3 r3 s3 p3 => by
        split at p3
        · rename_i w n j
          split at p3
          · rename_i xs e0
            split at p3
            · rename_i q hq
              obtain ⟨a, vs, ha, rfl, hH, hr⟩ := lst_at r3 (s2.mono f3) e0
              unfold Mz.SlR Rep at s3
              subst s3
              exact ⟨a, vs, j, q, rfl, rfl, hH, by rw [← hr.length]; exact hq, PostS.nx p3 (r3.setl ha ⟨_, rfl, hr.set q ((s1.mono f2).mono f3)⟩ (Store.lget_of e0) (fun z => by cases z)) (((er.mono f1).mono f2).mono f3)⟩
            · exact p3.elim
          · exact p3.elim
        · exact p3.elim⟩⟩⟩
abbrev MO := Env → Store → Res (Option Int)
def mNo : MO := fun _ st => .ok none st
def mPart (a : ME) : MO := fun env st => (a env st).bind fun x st1 => match x with
  | .v (.int i) => .ok (some i) st1
  | _ => .bad
def tO (T : Tx) (Wx : WX) (m : MO) : TO := fun σ H Q => ∃ env ρ G st, Rel T ρ G H st ∧ EnvR T ρ G env σ ∧ PostR T ρ G (fun _ _ a b => a = b) (m env st) Q fun c d H' => Wx c d σ H'
abbrev IO (X : Cx) (cl : Nat → Addr) (Wx : WX) (e : Option Expr) (m : MO) : Prop := PO X e (tO ⟨X.K, cl⟩ Wx m)
theorem po_weak {e : Option Expr} {t t' : TO} (h : PO X e t) (k : ∀ σ H Q, t' σ H Q → t σ H Q) : PO X e t' := ⟨fun pins s σ H Q I q => h.run pins s σ H Q I (k σ H Q q)⟩
theorem io_none : IO X cl Wx none mNo := po_weak po_none fun σ H Q ⟨env, ρ, G, st, rel, er, p⟩ => p.give rel rfl
theorem io_some (h : IE X cl Wx e me) : IO X cl Wx (some e) (mPart me) := po_weak (po_some h) fun σ H Q ⟨env, ρ, G, st, rel, er, p⟩ => ⟨env, ρ, G, st, rel, er, PostR.bind (R1 := Mz.SlR ⟨X.K, cl⟩) p fun x st1 ρ1 G1 H1 u f1 r1 s1 p1 => by
  split at p1
  · unfold Mz.SlR Rep at s1; subst s1
    exact ⟨_, rfl, p1.give r1 rfl⟩
  · exact p1.elim⟩
def cutW (xs : List W) (lo hi : Option Int) : List W := (xs.drop (HT.sIx xs.length 0 lo)).take (HT.sIx xs.length xs.length hi - HT.sIx xs.length 0 lo)
theorem cut_reps {T : Tx} {G : Hp} {xs : List W} {vs : List V} {lo hi : Option Int} (h : Reps T G xs vs) : Reps T G (cutW xs lo hi) (cutV vs lo hi) := by
  unfold cutW cutV
  rw [h.length]
  exact (h.drop _).take _
def mSl (o : ME) (a b : MO) : ME := fun env st => (o env st).bind fun x st1 => (a env st1).bind fun lo st2 => (b env st2).bind fun hi st3 => match x with
  | .v (.tup xs) => .ok (.v (.tup (cutW xs lo hi))) st3
  | .v (.str z) => if z.length ≤ big then .ok (.v (.str (cutS z lo hi))) st3 else .bad
  | _ => match litems st3 x with
    | some xs => .ok (.v (.lst (cutW xs lo hi))) st3
    | none => .bad
end
end Mz

set_option Elab.async false
set_option linter.all false
set_option maxRecDepth 100000
set_option maxHeartbeats 4000000
namespace Mz
open PySem PySem.Spec PyProof.Rows L2

section
variable {X : Cx} {cl : Nat → Addr} {Wx : WX} {o : Expr} {mo : ME} {lo hi : Option Expr} {ml mh : MO} {pos p2 : Pos}
abbrev rSlAll (K : PySem.W.Frag) : V → Option Int → Option Int → Hp → VK → Prop := fun x lo hi H Q => rSlL K x lo hi H Q ∨ (fun x lo hi H Q => rSlA K x lo hi H Q ∨ rSlS x lo hi H Q) x lo hi H Q
theorem sl_all : L2.SlR X (rSlAll X.K) := sl_list.or (sl_tupA.or sl_str)
theorem ie_sl (ho : IE X cl Wx o mo) (hl : IO X cl Wx lo ml) (hh : IO X cl Wx hi mh) : IE X cl Wx (.Subscript o (.Slice lo hi none p2) pos) (mSl mo ml mh) :=
  pe_weak (pe_slice sl_all ho hl hh) fun σ H Q ⟨env, ρ, G, st, rel, er, p⟩ => ⟨env, ρ, G, st, rel, er, PostR.bind (R1 := Mz.SlR ⟨X.K, cl⟩) p fun x st1 ρ1 G1 H1 u f1 r1 s1 p1 =>
    ⟨env, ρ1, G1, st1, r1, er.mono f1, PostR.bind (R1 := fun _ _ a b => a = b) p1 fun l st2 ρ2 G2 H2 l' f2 r2 hl p2 => ⟨env, ρ2, G2, st2, r2, (er.mono f1).mono f2, PostR.bind (R1 := fun _ _ a b => a = b) p2 fun h st3 ρ3 G3 H3 h' f3 r3 hh p3 => by
      subst hl hh
      have s3 := (s1.mono f2).mono f3
      split at p3
      · rename_i xs
        have s0 := s3
        unfold Mz.SlR Rep at s3
        obtain ⟨a, vs, rfl, hq, hr⟩ := s3
        refine .inr (.inl ⟨a, vs, rfl, sqt_mono r3.ext hq, fun hw => ?_, fun hw q hq2 => ?_⟩)
        · have e : cutW xs l h = xs := by
            unfold cutW
            rw [hr.length, hw.1, hw.2, List.drop_zero, Nat.sub_zero, ← hr.length, List.take_length]
          rw [e] at p3
          exact p3.give r3 s0
        · obtain ⟨f, r4⟩ := r3.newG (o := .tup (cutV vs l h)) hq2
          exact p3 _ _ _ _ f r4 (by unfold Mz.SlR Rep; exact ⟨q, _, rfl, SqT.of upd_same, Reps.mono f.ex _ _ (cut_reps hr)⟩)
      · rename_i z
        split at p3
        · rename_i hz
          unfold Mz.SlR Rep at s3
          subst s3
          exact .inr (.inr ⟨z, rfl, by rw [big_line]; exact hz, pg p3 r3 rep_str⟩)
        · exact p3.elim
      · split at p3
        · rename_i xs e
          obtain ⟨a, vs, rfl, hq, hr⟩ := litems_at r3 s3 e
          refine .inl ⟨a, vs, rfl, hq, fun q hq2 => ?_⟩
          obtain ⟨f, r4⟩ := r3.newG (o := .lst (cutV vs l h)) hq2
          exact p3 _ _ _ _ f r4 (by unfold Mz.SlR Rep; exact ⟨q, _, rfl, upd_same, Reps.mono f.ex _ _ (cut_reps hr)⟩)
        · exact p3.elim⟩⟩⟩
theorem pi_or {tg e : Expr} {t t' : TI} (h : PI X tg e t) (h' : PI X tg e t') : PI X tg e (fun σ H R => t σ H R ∨ t' σ H R) := ⟨fun pins s σ H R I q => q.elim (fun q => h.run pins s σ H R I q) fun q => h'.run pins s σ H R I q⟩
def signs (z : Str) : List W := z.cps.toList.map fun c => .str ⟨#[c]⟩
def srcOf (x : Sl) (st1 : Store) : Res Src := match x with
  | .v (.tup xs) => .ok ⟨xs, fun _ => True⟩ st1
  | .v (.str z) => .ok ⟨signs z, fun _ => True⟩ st1
  | _ => match litems st1 x with
    | some xs => .ok ⟨xs, stands x xs⟩ st1
    | none => .bad
def mItS (a : ME) : MI := fun env st => (a env st).bind srcOf
theorem its_str {T : Tx} {ρ : Mp} {G : Hp} {z : Str} : ItS T ρ G ⟨signs z, fun _ => True⟩ (Its z) := by
  have hl : (signs z).length = z.cps.size := by unfold signs; simp
  refine ⟨fun i H st' ρ' G' f r g hi => ?_, fun i w H st' ρ' G' f r g hw => ?_⟩
  · show z.cps.size ≤ i
    rw [← hl]; exact hi
  · have hw' : (signs z)[i]? = some w := hw
    have hlt := get_lt hw'
    rw [hl] at hlt
    unfold signs at hw'
    rw [List.getElem?_map] at hw'
    obtain ⟨c, hc, e⟩ := Option.map_eq_some_iff.mp hw'
    subst e
    refine ⟨hlt, fun y H' hy => ?_⟩
    obtain ⟨rfl, c', hc', rfl⟩ := hy
    rw [← Array.getElem?_toList, hc] at hc'
    cases hc'
    exact ⟨G', Fr.refl _ _, r, rep_str⟩
theorem ii_seq {tg e : Expr} {me : ME} (h : IE X cl Wx e me) : II X cl Wx tg e (mItS me) :=
  pi_weak (pi_or (pi_list h) (pi_or (pi_tup h) (pi_str h))) fun σ H Q ⟨env, ρ, G, st, rel, er, p⟩ => by
    -- which of the three is told by the value: it is asked once, at the end of the expression
    cases e1 : me env st with
    | bad => unfold mItS at p; rw [e1] at p; exact p.elim
    | ex c ns ws st1 =>
      unfold mItS at p; rw [e1] at p
      exact .inl ⟨env, ρ, G, st, rel, er, by rw [e1]; exact p⟩
    | ok x st1 =>
      unfold mItS at p; rw [e1] at p
      replace p : PostR ⟨X.K, cl⟩ ρ G (ItS ⟨X.K, cl⟩) (srcOf x st1) Q fun c d H' => Wx c d σ H' := p
      unfold srcOf at p
      split at p
      · rename_i xs
        refine .inr (.inl ⟨env, ρ, G, st, rel, er, ?_⟩)
        rw [e1]
        intro ρ1 G1 H1 u f1 r1 s1
        unfold Mz.SlR Rep at s1
        obtain ⟨a, vs, rfl, hq, hr⟩ := s1
        exact ⟨a, rfl, ⟨vs, sqt_mono r1.ext hq⟩, p ρ1 G1 H1 _ f1 r1 (its_tup hq hr)⟩
      · rename_i z
        refine .inr (.inr ⟨env, ρ, G, st, rel, er, ?_⟩)
        rw [e1]
        intro ρ1 G1 H1 u f1 r1 s1
        unfold Mz.SlR Rep at s1
        exact ⟨z, s1, p ρ1 G1 H1 _ f1 r1 its_str⟩
      · split at p
        · rename_i xs hx
          refine .inl ⟨env, ρ, G, st, rel, er, ?_⟩
          rw [e1]
          intro ρ1 G1 H1 u f1 r1 s1
          obtain ⟨a, vs, rfl, hq, hr⟩ := litems_at r1 s1 hx
          exact ⟨a, rfl, ⟨vs, hq⟩, p ρ1 G1 H1 _ f1 r1 (its_list (H := H1) (u := .ref a) s1 hx)⟩
        · exact p.elim
def mAug (i : Nat) (f : Int → Int → Int) (e : ME) : MS := fun env st => match env[i]? with
  | some (some (.v (.int a))) => ofR env (e env st) fun x st1 => match x with
    | .v (.int b) => .nx (env.set i (some (.v (.int (f a b))))) st1
    | _ => .bad
  | _ => .bad
theorem is_aug (i : Nat) {x : Str} {e : Expr} {me : ME} {op : Operator} {f : Int → Int → Int} {pos' : Pos} (hN : X.N.Nodup) (he : IE X cl Wx e me) (hp : PIp X op (ipI f)) (hi : X.N[i]? = some x := by rfl) (hx : Loc X.env.scope x := by first | exact Or.inl rfl | exact Or.inr rfl)
    (hf : X.fn x = true ∨ X.env.scope.names.lookup x = some .local := by first | exact .inl rfl | exact .inr rfl | assumption) : IS X cl Wx (.AugAssign (.Name x pos') op e pos) (mAug i f me) :=
  ps_weak (ps_aug hN hi hx he hp hf) fun D σ H ⟨env, ρ, G, st, r, er, p⟩ => by
    unfold mAug at p
    split at p
    · rename_i a ha
      obtain ⟨u, h1, h2⟩ := er.2 i _ ha
      unfold Mz.SlR Rep at h2
      subst h2
      refine ⟨_, h1, env, ρ, G, st, r, er, PostS.ofR (R := Mz.SlR ⟨X.K, cl⟩) er p fun x st1 ρ1 G1 H1 v f1 r1 s1 p1 => ?_⟩
      split at p1
      · rename_i b
        unfold Mz.SlR Rep at s1
        subst s1
        exact ⟨a, b, rfl, rfl, PostS.nx p1 r1 ((er.mono f1).set i (show Mz.SlR ⟨X.K, cl⟩ ρ1 G1 (.v (.int (f a b))) (.int (f a b)) from (rep_int : Rep ⟨X.K, cl⟩ G1 _ _)))⟩
      · exact p1.elim
    · exact p.elim
end
def opPow : Op2 := opI (fun i j => decide (0 ≤ j) && decide (j ≤ 1000000) && decide (i.natAbs < 2 ^ 64)) fun i j => .int (i ^ j.toNat)
theorem s_pow {T : Tx} : OpS T (rI CPow fun i j => .int (i ^ j.toNat)) opPow := ops_I (fun i j h => by
  simp only [Bool.and_eq_true, decide_eq_true_eq] at h; exact ⟨h.1.1, h.1.2, h.2⟩) fun _ _ _ => rep_int

section
variable {P : Program} {w : World} {K : PySem.W.Frag} {mg : Str → Option Value} {base : Heap} {cl : Nat → Addr}
theorem Fun_okM {x qual : Str} {st : Stmt} {f : Addr} {fd : FuncData} {N ps : List Str} {k : Nat} {sp : Sp} (F : L2.Fun K x qual st f fd) (S : FnScope N ps (defScope st)) (len : ∀ vs H Q E, sp vs H Q E → vs.length = ps.length)
    (hb : ∀ (cdv : Value) (A : Around) (outer : List PySem.Env) (s : Shared) (H : Hp) (vs : List V) (Q : VK) (E : XK), Room k (A.deeper (envOfC qual (defScope st) s.heap.objs.size f cdv)) → sp vs H Q E →
      ∃ t, PSs (cxOf (CXm K P w) P w K mg base N qual (defScope st) f cdv A outer s H E) (defBody st) t ∧ t { nx := fun _ H' => Q .non H', rt := Q } (start N vs) H) : FnOk P w K mg base (CXm K P w) (k + 1) f fd ps sp := by
  obtain ⟨oc, od, kV, doc, pm, an, cdv, ct, osl, rfl, lk, hcd⟩ := F.ex
  exact fn_of lk hcd S len (hb cdv)
theorem fun_ok {x qual : Str} {s : Stmt} {f : Addr} {fd : FuncData} {N ps : List Str} {k np nl : Nat} {md : Md} {mb : MS} (F : Fun K x qual s f fd) (S : FnScope N ps (defScope s)) (hp : ps.length = np) (hl : N.length = nl)
    (hb : ∀ (cdv : Value) (A : Around) (outer : List PySem.Env) (st : Shared) (H : Hp) (E : XK), Room k (A.deeper (envOfC qual (defScope s) st.heap.objs.size f cdv)) →
      ISs (cxOf (CXm K P w) P w K mg base N qual (defScope s) f cdv A outer st H E) cl (fun c d _ H' => E c d H') (defBody s) mb) : FnOk P w K mg base (CXm K P w) (k + 1) f fd ps (spM ⟨K, cl⟩ np (mFn np nl md mb)) :=
  Fun_okM F S (fun vs H Q E ⟨ρ, G, st, args, rel, sr, ha, p⟩ => by rw [← sr.length, ha, hp]) fun cdv A outer s H vs Q E hr ⟨ρ, G, st, args, rel, sr, ha, p⟩ => by
    refine ⟨_, hb cdv A outer s H E hr, args.map some ++ List.replicate (nl - np) none, ρ, G, st, rel, ?_, ?_⟩
    · rw [← hl]; exact env_start sr ha
    · unfold mFn at p
      rw [if_pos ha] at p
      exact fin_post rel p
abbrev emp : Store := ⟨[], []⟩
def spLaw (K : PySem.W.Frag) : Sp := fun vs H Q _ => ∃ (a : Addr) (ns : List Int), vs = [.ref a] ∧ SqL K H a (ns.map V.int) ∧ ns.length ≤ 63 ∧ ∀ H', Q (.bl true) H'
theorem reps_ints {T : Tx} {G : Hp} : ∀ ns : List Int, Reps T G (ns.map W.int) (ns.map V.int)
  | [] => Reps.nil
  | n :: ns => Reps.cons rep_int (reps_ints ns)
theorem law_imp {F : MF} (h9 : ∀ j, j < 2 → cl (900 + j) = 0) (ht : ∀ ns : List Int, ns.length ≤ 63 → ∃ st', F [.v (.ro (ns.map W.int))] emp = .ok (.v (.bl true)) st') : ∀ vs H Q E, spLaw K vs H Q E → spM ⟨K, cl⟩ 1 F vs H Q E := fun vs H Q E ⟨a, ns, e, hs, hl, q⟩ => by
  subst e
  obtain ⟨st', h⟩ := ht ns hl
  refine ⟨⟨[], []⟩, noTb H, emp, [.v (.ro (ns.map W.int))], ⟨noTb_ext, rfl, rfl, fun n a x h => ?_, fun n a x h => ?_, List.nodup_nil, List.nodup_nil, fun j hj => .inl (h9 j hj), noTb_nt⟩, ⟨_, _, rfl, ?_, rfl⟩, rfl, ?_⟩
  · simp at h
  · simp at h
  · unfold Mz.SlR Rep
    exact ⟨a, _, rfl, noTb_sql hs, reps_ints ns⟩
  · rw [h]
    intro ρ' G' H' u f r hu
    unfold Mz.SlR Rep at hu
    subst hu
    exact q H'
theorem noCX {H : Hp} {s : Shared} {e : Value} {s' : Shared} (h : CXm K P w [] H s (fun _ _ _ => False) e s') : False := by
  rcases h with h | h
  · obtain ⟨_, _, _, _, _, _, _, _, _, _, _, _, z⟩ := h
    exact z.elim
  · obtain ⟨_, _, _, _, _, _, _, _, _, _, _, _, _, z⟩ := h
    exact z.elim
theorem walk {l : PySem.W.OpenLaw} {q : Program} {loose : List Str} {XP : (Str → Option Value) → Heap → Prop} {YP : World → Heap → Prop} {d : DefRec} {K : Params → PySem.W.Frag} {k : Nat} {x : Str} (hn : l.most = some 63) (hdf : d.params.defaults = []) (hr : Room k callerA)
    (hY : ∀ (w : World) (h : Heap), YP w h → (K w.params).In h)
    (F : ∀ (w : World) (mg : Str → Option Value) (fa : Addr) (h : Heap), (K w.params).In h → h.Ns mainGlobals mg → mg d.name = some (.ref fa) →
      ∃ fd : FuncData, (∀ (s : Shared) (u : Value), BindsTo s fd ⟨[u], []⟩ [(x, u)]) ∧
        ∀ base : Heap, (K w.params).In base → base.Ns mainGlobals mg → FnOk l.prog w (K w.params) mg base (CXm (K w.params) l.prog w) k fa fd [x] (spLaw (K w.params))) :
    PySem.W.WalkO q loose XP YP l.row.toRowW d [] (fun f vs => PySem.call f vs) :=
  L2.walk_of (n := 63) (k := k) (x := x) (CX := fun w => CXm (K w.params) l.prog w) (sp := fun w => spLaw (K w.params)) hn (by decide) hdf hr hY F (fun _ _ a ns hl _ hS => ⟨a, ns, rfl, hS, hl, fun _ => rfl⟩) fun _ _ _ _ _ z => noCX z
end
end Mz

set_option Elab.async false
set_option linter.all false
set_option maxRecDepth 100000
set_option maxHeartbeats 4000000
namespace Mz
open PySem L2

def kSeq (r : SR) (b : MS) : SR := match r with
  | .nx env st => b env st
  | r => r
theorem e_seq {a b : MS} {env : Env} {st : Store} : mSeq a b env st = kSeq (a env st) b := rfl
theorem k_nx {b : MS} {env : Env} {st : Store} : kSeq (.nx env st) b = b env st := rfl
theorem k_rt {b : MS} {s : Sl} {st : Store} : kSeq (.rt s st) b = .rt s st := rfl
theorem k_bk {b : MS} {env : Env} {st : Store} : kSeq (.bk env st) b = .bk env st := rfl
theorem k_ct {b : MS} {env : Env} {st : Store} : kSeq (.ct env st) b = .ct env st := rfl
theorem k_ex {b : MS} {c : Nat} {ns : List Str} {ws : List W} {env : Env} {st : Store} : kSeq (.ex c ns ws env st) b = .ex c ns ws env st := rfl
theorem e_pass {env : Env} {st : Store} : mPass env st = .nx env st := rfl
theorem e_brk {env : Env} {st : Store} : mBrk env st = .bk env st := rfl
def kAsg (i : Nat) (env : Env) (r : Res Sl) : SR := ofR env r fun x st1 => .nx (env.set i (some x)) st1
theorem e_asg {i : Nat} {a : ME} {env : Env} {st : Store} : mAsg i a env st = kAsg i env (a env st) := rfl
theorem k_asg {i : Nat} {env : Env} {x : Sl} {st : Store} : kAsg i env (.ok x st) = .nx (env.set i (some x)) st := rfl
theorem k_asg_ex {i : Nat} {env : Env} {c : Nat} {ns : List Str} {ws : List W} {st : Store} : kAsg i env (.ex c ns ws st) = .ex c ns ws env st := rfl
def kDrop (env : Env) (r : Res Sl) : SR := ofR env r fun _ st1 => .nx env st1
theorem e_drop {a : ME} {env : Env} {st : Store} : mDrop a env st = kDrop env (a env st) := rfl
theorem k_drop {env : Env} {x : Sl} {st : Store} : kDrop env (.ok x st) = .nx env st := rfl
theorem k_drop_ex {env : Env} {c : Nat} {ns : List Str} {ws : List W} {st : Store} : kDrop env (.ex c ns ws st) = .ex c ns ws env st := rfl
def kRet (env : Env) (r : Res Sl) : SR := ofR env r fun x st1 => .rt x st1
theorem e_ret {a : ME} {env : Env} {st : Store} : mRet a env st = kRet env (a env st) := rfl
theorem k_ret {env : Env} {x : Sl} {st : Store} : kRet env (.ok x st) = .rt x st := rfl
theorem k_ret_ex {env : Env} {c : Nat} {ns : List Str} {ws : List W} {st : Store} : kRet env (.ex c ns ws st) = .ex c ns ws env st := rfl
def kIfS (env : Env) (a b : MS) (r : Res Bool) : SR := ofR env r fun c st1 => if c = true then a env st1 else b env st1
theorem e_ifS {t : MT} {a b : MS} {env : Env} {st : Store} : mIfS t a b env st = kIfS env a b (t env st) := rfl
theorem k_ifS {env : Env} {a b : MS} {c : Bool} {st : Store} : kIfS env a b (.ok c st) = if c = true then a env st else b env st := rfl
def kAug (i : Nat) (f : Int → Int → Int) (a : Int) (env : Env) (r : Res Sl) : SR := ofR env r fun x st1 => match x with
  | .v (.int b) => .nx (env.set i (some (.v (.int (f a b))))) st1
  | _ => .bad
def kAug0 (o : Option (Option Sl)) (i : Nat) (f : Int → Int → Int) (e : ME) (env : Env) (st : Store) : SR := match o with
  | some (some (.v (.int a))) => kAug i f a env (e env st)
  | _ => .bad
theorem e_aug {i : Nat} {f : Int → Int → Int} {e : ME} {env : Env} {st : Store} : mAug i f e env st = kAug0 env[i]? i f e env st := rfl
theorem k_aug0 {i : Nat} {f : Int → Int → Int} {e : ME} {env : Env} {st : Store} {a : Int} : kAug0 (some (some (.v (.int a)))) i f e env st = kAug i f a env (e env st) := rfl
theorem k_aug {i : Nat} {f : Int → Int → Int} {a b : Int} {env : Env} {st : Store} : kAug i f a env (.ok (.v (.int b)) st) = .nx (env.set i (some (.v (.int (f a b))))) st := rfl
def kVar (o : Option (Option Sl)) (st : Store) : Res Sl := match o with
  | some (some s) => .ok s st
  | _ => .bad
theorem e_var {i : Nat} {env : Env} {st : Store} : mVar i env st = kVar env[i]? st := rfl
theorem k_var {s : Sl} {st : Store} : kVar (some (some s)) st = .ok s st := rfl
theorem e_c {w : W} {env : Env} {st : Store} : mC w env st = .ok (.v w) st := rfl
def kOp1 (f : Op2) (b : ME) (env : Env) (r : Res Sl) : Res Sl := r.bind fun x st1 => (b env st1).bind fun y st2 => f x y st2
def kOp2 (f : Op2) (x : Sl) (r : Res Sl) : Res Sl := r.bind fun y st2 => f x y st2
theorem e_op {f : Op2} {a b : ME} {env : Env} {st : Store} : mOp f a b env st = kOp1 f b env (a env st) := rfl
theorem k_op1 {f : Op2} {b : ME} {env : Env} {x : Sl} {st : Store} : kOp1 f b env (.ok x st) = kOp2 f x (b env st) := rfl
theorem k_op1_ex {f : Op2} {b : ME} {env : Env} {c : Nat} {ns : List Str} {ws : List W} {st : Store} : kOp1 f b env (.ex c ns ws st) = .ex c ns ws st := rfl
theorem k_op2 {f : Op2} {x y : Sl} {st : Store} : kOp2 f x (.ok y st) = f x y st := rfl
theorem k_op2_ex {f : Op2} {x : Sl} {c : Nat} {ns : List Str} {ws : List W} {st : Store} : kOp2 f x (.ex c ns ws st) = .ex c ns ws st := rfl
def kTest (r : Res Sl) : Res Bool := r.bind tru
theorem e_test {a : ME} {env : Env} {st : Store} : mTest a env st = kTest (a env st) := rfl
theorem k_test {b : Bool} {st : Store} : kTest (.ok (.v (.bl b)) st) = .ok b st := rfl
theorem k_test_ex {c : Nat} {ns : List Str} {ws : List W} {st : Store} : kTest (.ex c ns ws st) = .ex c ns ws st := rfl
def kAnd (b : MT) (env : Env) (r : Res Bool) : Res Bool := r.bind fun c st1 => if c = true then b env st1 else .ok false st1
theorem e_and {a b : MT} {env : Env} {st : Store} : mAnd a b env st = kAnd b env (a env st) := rfl
theorem k_and {b : MT} {env : Env} {c : Bool} {st : Store} : kAnd b env (.ok c st) = if c = true then b env st else .ok false st := rfl
def kOr (b : MT) (env : Env) (r : Res Bool) : Res Bool := r.bind fun c st1 => if c = true then .ok true st1 else b env st1
theorem e_or {a b : MT} {env : Env} {st : Store} : mOr a b env st = kOr b env (a env st) := rfl
theorem k_or {b : MT} {env : Env} {c : Bool} {st : Store} : kOr b env (.ok c st) = if c = true then .ok true st else b env st := rfl
def kNot (r : Res Bool) : Res Bool := r.bind fun c st1 => .ok (!c) st1
theorem e_not {a : MT} {env : Env} {st : Store} : mNot a env st = kNot (a env st) := rfl
theorem k_not {c : Bool} {st : Store} : kNot (.ok c st) = .ok (!c) st := rfl
def kAndV (b : ME) (env : Env) (r : Res Sl) : Res Sl := r.bind fun x st1 => (tru x st1).bind fun c st2 => if c = true then b env st2 else .ok (.v (.bl false)) st2
theorem e_andV {a b : ME} {env : Env} {st : Store} : mAndV a b env st = kAndV b env (a env st) := rfl
theorem k_andV {b : ME} {env : Env} {c : Bool} {st : Store} : kAndV b env (.ok (.v (.bl c)) st) = if c = true then b env st else .ok (.v (.bl false)) st := rfl
def kOrV (b : ME) (env : Env) (r : Res Sl) : Res Sl := r.bind fun x st1 => (tru x st1).bind fun c st2 => if c = true then .ok (.v (.bl true)) st2 else b env st2
theorem e_orV {a b : ME} {env : Env} {st : Store} : mOrV a b env st = kOrV b env (a env st) := rfl
theorem k_orV {b : ME} {env : Env} {c : Bool} {st : Store} : kOrV b env (.ok (.v (.bl c)) st) = if c = true then .ok (.v (.bl true)) st else b env st := rfl
def kNotV (r : Res Sl) : Res Sl := r.bind fun x st1 => (tru x st1).bind fun c st2 => .ok (.v (.bl (!c))) st2
theorem e_notV {a : ME} {env : Env} {st : Store} : mNotV a env st = kNotV (a env st) := rfl
theorem k_notV {c : Bool} {st : Store} : kNotV (.ok (.v (.bl c)) st) = .ok (.v (.bl (!c))) st := rfl
def kIf (a b : ME) (env : Env) (r : Res Bool) : Res Sl := r.bind fun c st1 => if c = true then a env st1 else b env st1
theorem e_if {t : MT} {a b : ME} {env : Env} {st : Store} : mIf t a b env st = kIf a b env (t env st) := rfl
theorem k_if {a b : ME} {env : Env} {c : Bool} {st : Store} : kIf a b env (.ok c st) = if c = true then a env st else b env st := rfl
theorem e_nil {env : Env} {st : Store} : mNil env st = .ok [] st := rfl
def kCons1 (r : MA) (env : Env) (x : Res Sl) : Res (List Sl) := x.bind fun x st1 => (r env st1).bind fun xs st2 => .ok (x :: xs) st2
def kCons2 (x : Sl) (r : Res (List Sl)) : Res (List Sl) := r.bind fun xs st2 => .ok (x :: xs) st2
theorem e_cons {a : ME} {r : MA} {env : Env} {st : Store} : mCons a r env st = kCons1 r env (a env st) := rfl
theorem k_cons1 {r : MA} {env : Env} {x : Sl} {st : Store} : kCons1 r env (.ok x st) = kCons2 x (r env st) := rfl
theorem k_cons1_ex {r : MA} {env : Env} {c : Nat} {ns : List Str} {ws : List W} {st : Store} : kCons1 r env (.ex c ns ws st) = .ex c ns ws st := rfl
theorem k_cons2 {x : Sl} {xs : List Sl} {st : Store} : kCons2 x (.ok xs st) = .ok (x :: xs) st := rfl
theorem k_cons2_ex {x : Sl} {c : Nat} {ns : List Str} {ws : List W} {st : Store} : kCons2 x (.ex c ns ws st) = .ex c ns ws st := rfl
def kCall (F : MF) (r : Res (List Sl)) : Res Sl := r.bind fun xs st1 => F xs st1
theorem e_call {F : MF} {a : MA} {env : Env} {st : Store} : mCall F a env st = kCall F (a env st) := rfl
theorem k_call {F : MF} {xs : List Sl} {st : Store} : kCall F (.ok xs st) = F xs st := rfl
theorem k_call_ex {F : MF} {c : Nat} {ns : List Str} {ws : List W} {st : Store} : kCall F (.ex c ns ws st) = .ex c ns ws st := rfl
def kTup (r : Res (List Sl)) : Res Sl := r.bind fun xs st1 => match vals xs with
  | some ws => if ws.length ≤ big then .ok (.v (.tup ws)) st1 else .bad
  | none => .bad
theorem e_tup {a : MA} {env : Env} {st : Store} : mTup a env st = kTup (a env st) := rfl
def kTup2 (o : Option (List W)) (st : Store) : Res Sl := match o with
  | some ws => if ws.length ≤ big then .ok (.v (.tup ws)) st else .bad
  | none => .bad
theorem k_tup {xs : List Sl} {st : Store} : kTup (.ok xs st) = kTup2 (vals xs) st := rfl
theorem k_tup2 {ws : List W} {st : Store} (h : ws.length ≤ big) : kTup2 (some ws) st = .ok (.v (.tup ws)) st := by unfold kTup2; dsimp only; rw [if_pos h]
def kLst (r : Res (List Sl)) : Res Sl := r.bind fun xs st1 => match vals xs with
  | some ws => if ws.length ≤ big then .ok (.v (.lst ws)) st1 else .bad
  | none => .bad
theorem e_lst {a : MA} {env : Env} {st : Store} : mLst a env st = kLst (a env st) := rfl
def kLst2 (o : Option (List W)) (st : Store) : Res Sl := match o with
  | some ws => if ws.length ≤ big then .ok (.v (.lst ws)) st else .bad
  | none => .bad
theorem k_lst {xs : List Sl} {st : Store} : kLst (.ok xs st) = kLst2 (vals xs) st := rfl
theorem k_lst2 {ws : List W} {st : Store} (h : ws.length ≤ big) : kLst2 (some ws) st = .ok (.v (.lst ws)) st := by unfold kLst2; dsimp only; rw [if_pos h]
def kLstM (r : Res (List Sl)) : Res Sl := r.bind fun xs st1 => match vals xs with
  | some ws => if ws.length ≤ big then .ok (.l st1.l.length) (st1.push (.lst ws)) else .bad
  | none => .bad
theorem e_lstM {a : MA} {env : Env} {st : Store} : mLstM a env st = kLstM (a env st) := rfl
def kLstM2 (o : Option (List W)) (st : Store) : Res Sl := match o with
  | some ws => if ws.length ≤ big then .ok (.l st.l.length) (st.push (.lst ws)) else .bad
  | none => .bad
theorem k_lstM {xs : List Sl} {st : Store} : kLstM (.ok xs st) = kLstM2 (vals xs) st := rfl
theorem k_lstM2 {ws : List W} {st : Store} (h : ws.length ≤ big) : kLstM2 (some ws) st = .ok (.l st.l.length) (st.push (.lst ws)) := by unfold kLstM2; dsimp only; rw [if_pos h]
theorem v_nil : vals [] = some [] := rfl
theorem v_cons {w : W} {xs : List Sl} : vals (.v w :: xs) = (vals xs).map (w :: ·) := rfl
def kChain1 (f g : Op2) (b c : ME) (env : Env) (r : Res Sl) : Res Sl := r.bind fun x st1 => (b env st1).bind fun y st2 => (f x y st2).bind fun z st3 => (tru z st3).bind fun k st4 =>
  if k = true then (c env st4).bind fun w st5 => g y w st5 else .ok (.v (.bl false)) st4
def kChain2 (f g : Op2) (c : ME) (env : Env) (x : Sl) (r : Res Sl) : Res Sl := r.bind fun y st2 => (f x y st2).bind fun z st3 => (tru z st3).bind fun k st4 =>
  if k = true then (c env st4).bind fun w st5 => g y w st5 else .ok (.v (.bl false)) st4
def kChain3 (g : Op2) (c : ME) (env : Env) (y : Sl) (r : Res Sl) : Res Sl := r.bind fun z st3 => (tru z st3).bind fun k st4 =>
  if k = true then (c env st4).bind fun w st5 => g y w st5 else .ok (.v (.bl false)) st4
theorem e_chain {f g : Op2} {a b c : ME} {env : Env} {st : Store} : mChain f g a b c env st = kChain1 f g b c env (a env st) := rfl
theorem k_chain1 {f g : Op2} {b c : ME} {env : Env} {x : Sl} {st : Store} : kChain1 f g b c env (.ok x st) = kChain2 f g c env x (b env st) := rfl
theorem k_chain2 {f g : Op2} {c : ME} {env : Env} {x y : Sl} {st : Store} : kChain2 f g c env x (.ok y st) = kChain3 g c env y (f x y st) := rfl
theorem k_chain3 {g : Op2} {c : ME} {env : Env} {y : Sl} {k : Bool} {st : Store} : kChain3 g c env y (.ok (.v (.bl k)) st) = if k = true then kOp2 g y (c env st) else .ok (.v (.bl false)) st := rfl
theorem o_add {i j : Int} {st : Store} : opAdd (.v (.int i)) (.v (.int j)) st = .ok (.v (.int (i + j))) st := rfl
theorem o_sub {i j : Int} {st : Store} : opSub (.v (.int i)) (.v (.int j)) st = .ok (.v (.int (i - j))) st := rfl
theorem o_mul {i j : Int} {st : Store} (h : (-(2 ^ 64) < i ∧ i < 2 ^ 64) ∨ (-(2 ^ 64) < j ∧ j < 2 ^ 64)) : opMul (.v (.int i)) (.v (.int j)) st = .ok (.v (.int (i * j))) st := by
  unfold opMul opI
  dsimp only
  rw [if_pos (by simpa using h)]
theorem o_mod {i j : Int} {st : Store} (h : 0 < j) : opMod (.v (.int i)) (.v (.int j)) st = .ok (.v (.int (i % j))) st := by
  unfold opMod opI
  dsimp only
  rw [if_pos (by simpa using h)]
theorem o_div {i j : Int} {st : Store} (h : 0 < j) (h2 : j < wide) : opDiv (.v (.int i)) (.v (.int j)) st = .ok (.v (.int (i / j))) st := by
  unfold opDiv opI
  dsimp only
  rw [if_pos (by simp [h, h2])]
theorem o_pow {i j : Int} {st : Store} (h : 0 ≤ j) (h2 : j ≤ 1000000) (h3 : i.natAbs < 2 ^ 64) : opPow (.v (.int i)) (.v (.int j)) st = .ok (.v (.int (i ^ j.toNat))) st := by
  unfold opPow opI
  dsimp only
  rw [if_pos (by simp [h, h2, h3])]
theorem o_shl {i j : Int} {st : Store} (h : 0 ≤ j) (h2 : j ≤ 1000000) (h3 : i.natAbs < 2 ^ 64) : opShl (.v (.int i)) (.v (.int j)) st = .ok (.v (.int (i * 2 ^ j.toNat))) st := by
  unfold opShl opI
  dsimp only
  rw [if_pos (by simp [h, h2, h3])]
theorem o_lt {i j : Int} {st : Store} : opLt (.v (.int i)) (.v (.int j)) st = .ok (.v (.bl (decide (i < j)))) st := rfl
theorem o_le {i j : Int} {st : Store} : opLe (.v (.int i)) (.v (.int j)) st = .ok (.v (.bl (decide (i ≤ j)))) st := rfl
theorem o_gt {i j : Int} {st : Store} : opGt (.v (.int i)) (.v (.int j)) st = .ok (.v (.bl (decide (j < i)))) st := rfl
theorem o_ge {i j : Int} {st : Store} : opGe (.v (.int i)) (.v (.int j)) st = .ok (.v (.bl (decide (j ≤ i)))) st := rfl
theorem o_eq {i j : Int} {st : Store} : opEq false (.v (.int i)) (.v (.int j)) st = .ok (.v (.bl (decide (i = j)))) st := rfl
theorem o_ne {i j : Int} {st : Store} : opEq true (.v (.int i)) (.v (.int j)) st = .ok (.v (.bl (!decide (i = j)))) st := rfl
theorem o_eqs {i j : Str} {st : Store} : opEq false (.v (.str i)) (.v (.str j)) st = .ok (.v (.bl (decide (i = j)))) st := rfl
theorem o_nes {i j : Str} {st : Store} : opEq true (.v (.str i)) (.v (.str j)) st = .ok (.v (.bl (!decide (i = j)))) st := rfl
def kIx (o : Option (List W)) (x : Sl) (i : Int) (st : Store) : Res Sl := match o with
    | some xs => match atI xs i with
      | some w => .ok (.v w) st
      | none => .bad
    | none => match x with
      | .v (.str z) => if z.length ≤ big then (match atI z.cps.toList i with
        | some c => .ok (.v (.str ⟨#[c]⟩)) st
        | none => .bad) else .bad
      | .t ns => (match atI ns i with
        | some n => .ok (.l n) st
        | none => .bad)
      | .z ws n => if 0 ≤ i then (match ws[i.toNat]? with
        | some w => .ok (.v w) st
        | none => if i.toNat = ws.length then .ok (.l n) st else .bad) else .bad
      | _ => .bad
def kAt (o : Option W) (st : Store) : Res Sl := match o with
  | some w => .ok (.v w) st
  | none => .bad
theorem o_ix {x : Sl} {i : Int} {st : Store} : opIx x (.v (.int i)) st = kIx (items st x) x i st := rfl
theorem k_ix {xs : List W} {x : Sl} {i : Int} {st : Store} : kIx (some xs) x i st = kAt (atI xs i) st := rfl
theorem k_at {w : W} {st : Store} : kAt (some w) st = .ok (.v w) st := rfl
theorem atI_nat' {α : Type} {xs : List α} {n : Nat} : atI xs (n : Int) = xs[n]? := by
  unfold atI ixN
  by_cases h : n < xs.length
  · rw [if_pos (by omega), if_pos (by omega)]
    show xs[(n : Int).toNat]? = _
    rw [Int.toNat_natCast]
  · rw [if_pos (by omega), if_neg (by omega), List.getElem?_eq_none (by omega)]; rfl
theorem atI_0 {α : Type} {xs : List α} : atI xs 0 = xs[0]? := atI_nat' (n := 0)
theorem atI_1 {α : Type} {xs : List α} : atI xs 1 = xs[1]? := atI_nat' (n := 1)
theorem atI_2 {α : Type} {xs : List α} : atI xs 2 = xs[2]? := atI_nat' (n := 2)
theorem atI_3 {α : Type} {xs : List α} : atI xs 3 = xs[3]? := atI_nat' (n := 3)
theorem atI_4 {α : Type} {xs : List α} : atI xs 4 = xs[4]? := atI_nat' (n := 4)
theorem atI_5 {α : Type} {xs : List α} : atI xs 5 = xs[5]? := atI_nat' (n := 5)
theorem atI_6 {α : Type} {xs : List α} : atI xs 6 = xs[6]? := atI_nat' (n := 6)
theorem atI_7 {α : Type} {xs : List α} : atI xs 7 = xs[7]? := atI_nat' (n := 7)
theorem atI_8 {α : Type} {xs : List α} : atI xs 8 = xs[8]? := atI_nat' (n := 8)
theorem atI_9 {α : Type} {xs : List α} : atI xs 9 = xs[9]? := atI_nat' (n := 9)
theorem atI_10 {α : Type} {xs : List α} : atI xs 10 = xs[10]? := atI_nat' (n := 10)
theorem atI_11 {α : Type} {xs : List α} : atI xs 11 = xs[11]? := atI_nat' (n := 11)
theorem atI_12 {α : Type} {xs : List α} : atI xs 12 = xs[12]? := atI_nat' (n := 12)
theorem atI_13 {α : Type} {xs : List α} : atI xs 13 = xs[13]? := atI_nat' (n := 13)
theorem atI_14 {α : Type} {xs : List α} : atI xs 14 = xs[14]? := atI_nat' (n := 14)
theorem atI_15 {α : Type} {xs : List α} : atI xs 15 = xs[15]? := atI_nat' (n := 15)
theorem atI_16 {α : Type} {xs : List α} : atI xs 16 = xs[16]? := atI_nat' (n := 16)
theorem ixN_nat {n k : Nat} : ixN n ((k : Nat) : Int) = if k < n then some k else none := by
  unfold ixN
  rw [if_pos (by omega)]
  by_cases h : k < n
  · rw [if_pos (by omega), if_pos h, Int.toNat_natCast]
  · rw [if_neg (by omega), if_neg h]
theorem ixN_0 {n : Nat} : ixN n 0 = if 0 < n then some 0 else none := ixN_nat (k := 0)
theorem ixN_1 {n : Nat} : ixN n 1 = if 1 < n then some 1 else none := ixN_nat (k := 1)
theorem ixN_2 {n : Nat} : ixN n 2 = if 2 < n then some 2 else none := ixN_nat (k := 2)
theorem ixN_3 {n : Nat} : ixN n 3 = if 3 < n then some 3 else none := ixN_nat (k := 3)
theorem ixN_4 {n : Nat} : ixN n 4 = if 4 < n then some 4 else none := ixN_nat (k := 4)
theorem ixN_5 {n : Nat} : ixN n 5 = if 5 < n then some 5 else none := ixN_nat (k := 5)
theorem i_lst {st : Store} {xs : List W} : items st (.v (.lst xs)) = some xs := rfl
theorem i_ro {st : Store} {xs : List W} : items st (.v (.ro xs)) = some xs := rfl
theorem i_tup {st : Store} {xs : List W} : items st (.v (.tup xs)) = some xs := rfl
theorem i_l {st : Store} {n : Nat} : items st (.l n) = st.lget n := rfl
theorem li_lst {st : Store} {xs : List W} : litems st (.v (.lst xs)) = some xs := rfl
theorem li_ro {st : Store} {xs : List W} : litems st (.v (.ro xs)) = some xs := rfl
theorem li_l {st : Store} {n : Nat} : litems st (.l n) = st.lget n := rfl
theorem o_isN {st : Store} {w : W} (h : w ≠ .non) : opIsN false (.v w) (.v .non) st = .ok (.v (.bl false)) st := by
  cases w <;> first | rfl | exact absurd rfl h
theorem o_isNN {st : Store} : opIsN false (.v .non) (.v .non) st = .ok (.v (.bl true)) st := rfl
theorem o_notN {st : Store} {w : W} (h : w ≠ .non) : opIsN true (.v w) (.v .non) st = .ok (.v (.bl true)) st := by
  cases w <;> first | rfl | exact absurd rfl h
theorem o_notNN {st : Store} : opIsN true (.v .non) (.v .non) st = .ok (.v (.bl false)) st := rfl
theorem o_isB {st : Store} {a b : Bool} : opIsN false (.v (.bl a)) (.v (.bl b)) st = .ok (.v (.bl (decide (a = b)))) st := rfl
theorem o_isNl {st : Store} {n : Nat} : opIsN false (.l n) (.v .non) st = .ok (.v (.bl false)) st := rfl
def kLen (o : Option (List W)) (x : Sl) (st : Store) : Res Sl := match o with
    | some xs => .ok (.v (.int xs.length)) st
    | none => match x with
      | .v (.str z) => if z.length ≤ big then .ok (.v (.int z.length)) st else .bad
      | .t ns => .ok (.v (.int ns.length)) st
      | .z ws _ => .ok (.v (.int ((ws.length + 1 : Nat) : Int))) st
      | _ => .bad
theorem f_len {x : Sl} {st : Store} : fLen [x] st = kLen (items st x) x st := rfl
theorem k_len {xs : List W} {x : Sl} {st : Store} : kLen (some xs) x st = .ok (.v (.int (xs.length : Int))) st := rfl
theorem i_str {st : Store} {z : Str} : items st (.v (.str z)) = none := rfl
theorem f_int {i : Int} {st : Store} : fInt [.v (.int i)] st = .ok (.v (.int i)) st := rfl
theorem f_intb {b : Bool} {st : Store} : fInt [.v (.bl b)] st = .ok (.v (.int (if b then 1 else 0))) st := rfl
theorem f_abs {i : Int} {st : Store} : fAbs [.v (.int i)] st = .ok (.v (.int (if i < 0 then -i else i))) st := rfl
theorem f_max2 {i j : Int} {st : Store} : fMax2 [.v (.int i), .v (.int j)] st = .ok (.v (.int (if j > i then j else i))) st := rfl
theorem f_min2 {i j : Int} {st : Store} : fMin2 [.v (.int i), .v (.int j)] st = .ok (.v (.int (if j < i then j else i))) st := rfl
def kList (o : Option (List W)) (st : Store) : Res Sl := match o with
  | some xs => .ok (.v (.lst xs)) st
  | none => .bad
def kListM (o : Option (List W)) (st : Store) : Res Sl := match o with
  | some xs => .ok (.l st.l.length) (st.push (.lst xs))
  | none => .bad
theorem f_list {x : Sl} {st : Store} : fList [x] st = kList (items st x) st := rfl
theorem f_listM {x : Sl} {st : Store} : fListM [x] st = kListM (items st x) st := rfl
theorem k_list {xs : List W} {st : Store} : kList (some xs) st = .ok (.v (.lst xs)) st := rfl
theorem k_listM {xs : List W} {st : Store} : kListM (some xs) st = .ok (.l st.l.length) (st.push (.lst xs)) := rfl
theorem f_tupT {xs : List W} {st : Store} : fTuple [.v (.tup xs)] st = .ok (.v (.tup xs)) st := rfl
def kTupL (o : Option (List W)) (st : Store) : Res Sl := match o with
  | some xs => .ok (.v (.tup xs)) st
  | none => .bad
theorem f_tupV {xs : List W} {st : Store} : fTuple [.v (.lst xs)] st = .ok (.v (.tup xs)) st := rfl
theorem f_tupL {n : Nat} {st : Store} : fTuple [.l n] st = kTupL (st.lget n) st := rfl
theorem k_tupL {xs : List W} {st : Store} : kTupL (some xs) st = .ok (.v (.tup xs)) st := rfl
def kSum2 (o : Option (List Int)) (st : Store) : Res Sl := match o with
  | some ns => .ok (.v (.int ns.sum)) st
  | none => .bad
def kSum (o : Option (List W)) (st : Store) : Res Sl := match o with
  | some xs => kSum2 (intsOf xs) st
  | none => .bad
theorem f_sum {x : Sl} {st : Store} : fSum [x] st = kSum (litems st x) st := rfl
theorem k_sum {xs : List W} {st : Store} : kSum (some xs) st = kSum2 (intsOf xs) st := rfl
theorem k_sum2 {ns : List Int} {st : Store} : kSum2 (some ns) st = .ok (.v (.int ns.sum)) st := rfl
def kAll2 (f : List Bool → Bool) (o : Option (List Bool)) (st : Store) : Res Sl := match o with
  | some ns => .ok (.v (.bl (f ns))) st
  | none => .bad
def kAll (f : List Bool → Bool) (o : Option (List W)) (st : Store) : Res Sl := match o with
  | some xs => kAll2 f (bsOf xs) st
  | none => .bad
theorem f_all {f : List Bool → Bool} {x : Sl} {st : Store} : fAll f [x] st = kAll f (litems st x) st := rfl
theorem k_all {f : List Bool → Bool} {xs : List W} {st : Store} : kAll f (some xs) st = kAll2 f (bsOf xs) st := rfl
theorem k_all2 {f : List Bool → Bool} {ns : List Bool} {st : Store} : kAll2 f (some ns) st = .ok (.v (.bl (f ns))) st := rfl
def kMaxL2 (o : Option (List Int)) (st : Store) : Res Sl := match o with
  | some ns => if 0 < ns.length then .ok (.v (.int (maxOf ns))) st else .bad
  | none => .bad
def kMaxL (o : Option (List W)) (st : Store) : Res Sl := match o with
  | some xs => kMaxL2 (intsOf xs) st
  | none => .bad
theorem f_maxL {x : Sl} {st : Store} : fMaxL [x] st = kMaxL (litems st x) st := rfl
theorem k_maxL {xs : List W} {st : Store} : kMaxL (some xs) st = kMaxL2 (intsOf xs) st := rfl
def kIsTy (t : String) (r : Res Sl) : Res Sl := r.bind fun x st1 => match tyName st1 x with
  | some n => match kitB n t with
    | some b => .ok (.v (.bl b)) st1
    | none => .bad
  | none => .bad
theorem e_isTy {t : String} {a : ME} {env : Env} {st : Store} : mIsTy t a env st = kIsTy t (a env st) := rfl
def kIsTy3 (o : Option Bool) (st : Store) : Res Sl := match o with
    | some b => .ok (.v (.bl b)) st
    | none => .bad
def kIsTy2 (t : String) (o : Option String) (st : Store) : Res Sl := match o with
  | some n => kIsTy3 (kitB n t) st
  | none => .bad
theorem k_isTy {t : String} {x : Sl} {st : Store} : kIsTy t (.ok x st) = kIsTy2 t (tyName st x) st := rfl
theorem k_isTy2 {t n : String} {st : Store} : kIsTy2 t (some n) st = kIsTy3 (kitB n t) st := rfl
theorem k_isTy3 {b : Bool} {st : Store} : kIsTy3 (some b) st = .ok (.v (.bl b)) st := rfl
theorem ty_non {st : Store} : tyName st (.v .non) = some "NoneType" := rfl
theorem ty_bl {st : Store} {b : Bool} : tyName st (.v (.bl b)) = some "bool" := rfl
theorem ty_int {st : Store} {i : Int} : tyName st (.v (.int i)) = some "int" := rfl
theorem ty_str {st : Store} {x : Str} : tyName st (.v (.str x)) = some "str" := rfl
theorem ty_tup {st : Store} {xs : List W} : tyName st (.v (.tup xs)) = some "tuple" := rfl
theorem ty_lst {st : Store} {xs : List W} : tyName st (.v (.lst xs)) = some "list" := rfl
theorem kb1 : kitB "int" "int" = some true := by decide +kernel
theorem kb2 : kitB "bool" "int" = some true := by decide +kernel
theorem kb3 : kitB "int" "bool" = some false := by decide +kernel
theorem kb4 : kitB "bool" "bool" = some true := by decide +kernel
theorem kb5 : kitB "str" "str" = some true := by decide +kernel
theorem kb6 : kitB "str" "int" = some false := by decide +kernel
theorem kb7 : kitB "str" "bool" = some false := by decide +kernel
theorem kb8 : kitB "tuple" "tuple" = some true := by decide +kernel
theorem kb9 : kitB "tuple" "int" = some false := by decide +kernel
theorem kb10 : kitB "tuple" "str" = some false := by decide +kernel
theorem kb11 : kitB "tuple" "list" = some false := by decide +kernel
theorem kb12 : kitB "list" "list" = some true := by decide +kernel
theorem kb13 : kitB "list" "int" = some false := by decide +kernel
theorem kb14 : kitB "list" "str" = some false := by decide +kernel
theorem kb15 : kitB "list" "tuple" = some false := by decide +kernel
theorem kb16 : kitB "NoneType" "int" = some false := by decide +kernel
theorem kb17 : kitB "NoneType" "str" = some false := by decide +kernel
theorem kb18 : kitB "list" "bool" = some false := by decide +kernel
theorem kb19 : kitB "tuple" "bool" = some false := by decide +kernel
theorem kb20 : kitB "int" "str" = some false := by decide +kernel
def kLm1 (f : LM) (a : MA) (env : Env) (r : Res Sl) : Res Sl := r.bind fun x st1 => match x with
  | .l n => match st1.lget n with
    | some _ => (a env st1).bind fun ys st2 => match st2.lget n with
      | some xs => match f xs ys with
        | some (w, zs) => .ok (.v w) (st2.setl n (.lst zs))
        | none => .bad
      | none => .bad
    | none => .bad
  | _ => .bad
def kLm2 (f : LM) (n : Nat) (r : Res (List Sl)) : Res Sl := r.bind fun ys st2 => match st2.lget n with
      | some xs => match f xs ys with
        | some (w, zs) => .ok (.v w) (st2.setl n (.lst zs))
        | none => .bad
      | none => .bad
theorem e_lm {f : LM} {o : ME} {a : MA} {env : Env} {st : Store} : mLm f o a env st = kLm1 f a env (o env st) := rfl
def kLm0 (o : Option (List W)) (f : LM) (n : Nat) (a : MA) (env : Env) (st : Store) : Res Sl := match o with
  | some _ => kLm2 f n (a env st)
  | none => .bad
def kLm4 (n : Nat) (o : Option (W × List W)) (st : Store) : Res Sl := match o with
  | some (w, zs) => .ok (.v w) (st.setl n (.lst zs))
  | none => .bad
def kLm3 (f : LM) (n : Nat) (o : Option (List W)) (ys : List Sl) (st : Store) : Res Sl := match o with
  | some xs => kLm4 n (f xs ys) st
  | none => .bad
theorem k_lm1 {f : LM} {a : MA} {env : Env} {n : Nat} {st : Store} : kLm1 f a env (.ok (.l n) st) = kLm0 (st.lget n) f n a env st := rfl
theorem k_lm0 {f : LM} {a : MA} {env : Env} {n : Nat} {st : Store} {xs : List W} : kLm0 (some xs) f n a env st = kLm2 f n (a env st) := rfl
theorem k_lm2 {f : LM} {n : Nat} {ys : List Sl} {st : Store} : kLm2 f n (.ok ys st) = kLm3 f n (st.lget n) ys st := by
  unfold kLm2 Res.bind kLm3 kLm4
  dsimp only
theorem k_lm3 {f : LM} {n : Nat} {xs : List W} {ys : List Sl} {st : Store} : kLm3 f n (some xs) ys st = kLm4 n (f xs ys) st := rfl
theorem k_lm4 {n : Nat} {w : W} {zs : List W} {st : Store} : kLm4 n (some (w, zs)) st = .ok (.v w) (st.setl n (.lst zs)) := rfl
def kSet1 (o i : ME) (env : Env) (r : Res Sl) : SR := ofR env r fun y st1 => ofR env (o env st1) fun x st2 => ofR env (i env st2) fun k st3 => match y, x, k with
  | .v w, .l n, .v (.int j) => match st3.lget n with
    | some xs => match ixN xs.length j with
      | some q => .nx env (st3.setl n (.lst (xs.set q w)))
      | none => .bad
    | none => .bad
  | _, _, _ => .bad
def kSet2 (i : ME) (env : Env) (y : Sl) (r : Res Sl) : SR := ofR env r fun x st2 => ofR env (i env st2) fun k st3 => match y, x, k with
  | .v w, .l n, .v (.int j) => match st3.lget n with
    | some xs => match ixN xs.length j with
      | some q => .nx env (st3.setl n (.lst (xs.set q w)))
      | none => .bad
    | none => .bad
  | _, _, _ => .bad
def kSet3 (env : Env) (y x : Sl) (r : Res Sl) : SR := ofR env r fun k st3 => match y, x, k with
  | .v w, .l n, .v (.int j) => match st3.lget n with
    | some xs => match ixN xs.length j with
      | some q => .nx env (st3.setl n (.lst (xs.set q w)))
      | none => .bad
    | none => .bad
  | _, _, _ => .bad
theorem e_setI {o i e : ME} {env : Env} {st : Store} : mSetI o i e env st = kSet1 o i env (e env st) := rfl
theorem k_set1 {o i : ME} {env : Env} {y : Sl} {st : Store} : kSet1 o i env (.ok y st) = kSet2 i env y (o env st) := rfl
theorem k_set2 {i : ME} {env : Env} {y x : Sl} {st : Store} : kSet2 i env y (.ok x st) = kSet3 env y x (i env st) := rfl
def kSet5 (n : Nat) (xs : List W) (w : W) (o : Option Nat) (env : Env) (st : Store) : SR := match o with
      | some q => .nx env (st.setl n (.lst (xs.set q w)))
      | none => .bad
def kSet4 (n : Nat) (j : Int) (w : W) (o : Option (List W)) (env : Env) (st : Store) : SR := match o with
    | some xs => kSet5 n xs w (ixN xs.length j) env st
    | none => .bad
theorem k_set3 {env : Env} {w : W} {n : Nat} {j : Int} {st : Store} : kSet3 env (.v w) (.l n) (.ok (.v (.int j)) st) = kSet4 n j w (st.lget n) env st := rfl
theorem k_set4 {n : Nat} {j : Int} {w : W} {xs : List W} {env : Env} {st : Store} : kSet4 n j w (some xs) env st = kSet5 n xs w (ixN xs.length j) env st := rfl
theorem k_set5 {n : Nat} {xs : List W} {w : W} {q : Nat} {env : Env} {st : Store} : kSet5 n xs w (some q) env st = .nx env (st.setl n (.lst (xs.set q w))) := rfl
def kSl1 (a b : MO) (env : Env) (r : Res Sl) : Res Sl := r.bind fun x st1 => (a env st1).bind fun lo st2 => (b env st2).bind fun hi st3 => match x with
  | .v (.tup xs) => .ok (.v (.tup (cutW xs lo hi))) st3
  | .v (.str z) => if z.length ≤ big then .ok (.v (.str (cutS z lo hi))) st3 else .bad
  | _ => match litems st3 x with
    | some xs => .ok (.v (.lst (cutW xs lo hi))) st3
    | none => .bad
def kSl2 (b : MO) (env : Env) (x : Sl) (r : Res (Option Int)) : Res Sl := r.bind fun lo st2 => (b env st2).bind fun hi st3 => match x with
  | .v (.tup xs) => .ok (.v (.tup (cutW xs lo hi))) st3
  | .v (.str z) => if z.length ≤ big then .ok (.v (.str (cutS z lo hi))) st3 else .bad
  | _ => match litems st3 x with
    | some xs => .ok (.v (.lst (cutW xs lo hi))) st3
    | none => .bad
def kSl3 (x : Sl) (lo : Option Int) (r : Res (Option Int)) : Res Sl := r.bind fun hi st3 => match x with
  | .v (.tup xs) => .ok (.v (.tup (cutW xs lo hi))) st3
  | .v (.str z) => if z.length ≤ big then .ok (.v (.str (cutS z lo hi))) st3 else .bad
  | _ => match litems st3 x with
    | some xs => .ok (.v (.lst (cutW xs lo hi))) st3
    | none => .bad
theorem e_sl {o : ME} {a b : MO} {env : Env} {st : Store} : mSl o a b env st = kSl1 a b env (o env st) := rfl
theorem k_sl1 {a b : MO} {env : Env} {x : Sl} {st : Store} : kSl1 a b env (.ok x st) = kSl2 b env x (a env st) := rfl
theorem k_sl2 {b : MO} {env : Env} {x : Sl} {lo : Option Int} {st : Store} : kSl2 b env x (.ok lo st) = kSl3 x lo (b env st) := rfl
theorem k_sl3T {xs : List W} {lo hi : Option Int} {st : Store} : kSl3 (.v (.tup xs)) lo (.ok hi st) = .ok (.v (.tup (cutW xs lo hi))) st := rfl
theorem k_sl3L {xs : List W} {lo hi : Option Int} {st : Store} : kSl3 (.v (.lst xs)) lo (.ok hi st) = .ok (.v (.lst (cutW xs lo hi))) st := rfl
def kCutL (o : Option (List W)) (lo hi : Option Int) (st : Store) : Res Sl := match o with
  | some xs => .ok (.v (.lst (cutW xs lo hi))) st
  | none => .bad
theorem k_sl3l {n : Nat} {lo hi : Option Int} {st : Store} : kSl3 (.l n) lo (.ok hi st) = kCutL (st.lget n) lo hi st := rfl
theorem k_cutL {xs : List W} {lo hi : Option Int} {st : Store} : kCutL (some xs) lo hi st = .ok (.v (.lst (cutW xs lo hi))) st := rfl
theorem e_no {env : Env} {st : Store} : mNo env st = .ok none st := rfl
def kPart (r : Res Sl) : Res (Option Int) := r.bind fun x st1 => match x with
  | .v (.int i) => .ok (some i) st1
  | _ => .bad
theorem e_part {a : ME} {env : Env} {st : Store} : mPart a env st = kPart (a env st) := rfl
theorem k_part {i : Int} {st : Store} : kPart (.ok (.v (.int i)) st) = .ok (some i) st := rfl
theorem e_itS {a : ME} {env : Env} {st : Store} : mItS a env st = (a env st).bind srcOf := rfl
theorem k_bind {α β : Type} {a : α} {st : Store} {k : α → Store → Res β} : (Res.ok a st).bind k = k a st := rfl
theorem src_tup {xs : List W} {st : Store} : srcOf (.v (.tup xs)) st = .ok ⟨xs, fun _ => True⟩ st := rfl
theorem src_lst {xs : List W} {st : Store} : srcOf (.v (.lst xs)) st = .ok ⟨xs, fun _ => True⟩ st := rfl
def kSrc (n : Nat) (o : Option (List W)) (st : Store) : Res Src := match o with
  | some xs => .ok ⟨xs, stands (.l n) xs⟩ st
  | none => .bad
theorem src_l {n : Nat} {st : Store} : srcOf (.l n) st = kSrc n (st.lget n) st := rfl
theorem k_src {n : Nat} {xs : List W} {st : Store} : kSrc n (some xs) st = .ok ⟨xs, stands (.l n) xs⟩ st := rfl
theorem src_str {z : Str} {st : Store} : srcOf (.v (.str z)) st = .ok ⟨signs z, fun _ => True⟩ st := rfl
def kItR1 (r : Res (List Sl)) : Res Src := r.bind fun xs st1 => match xs with
  | [.v (.int n)] => if -(2 ^ 62) ≤ n ∧ n < 2 ^ 62 then .ok ⟨rangeW 0 n.toNat, fun _ => True⟩ st1 else .bad
  | _ => .bad
theorem e_itR1 {a : MA} {env : Env} {st : Store} : mItR1 a env st = kItR1 (a env st) := rfl
def kItR2 (r : Res (List Sl)) : Res Src := r.bind fun xs st1 => match xs with
  | [.v (.int i), .v (.int j)] => if -(2 ^ 62) ≤ i ∧ i < 2 ^ 62 ∧ -(2 ^ 62) ≤ j ∧ j < 2 ^ 62 then .ok ⟨rangeW i (j - i).toNat, fun _ => True⟩ st1 else .bad
  | _ => .bad
theorem e_itR2 {a : MA} {env : Env} {st : Store} : mItR2 a env st = kItR2 (a env st) := rfl
noncomputable def kFor (pt : Pat) (mb : MS) (env : Env) (r : Res Src) : SR := ofR env r fun s st1 => loopL s.gd pt mb s.xs env st1
theorem e_for {mi : MI} {pt : Pat} {mb : MS} {env : Env} {st : Store} : mFor mi pt mb env st = kFor pt mb env (mi env st) := rfl
theorem k_for {pt : Pat} {mb : MS} {env : Env} {s : Src} {st : Store} : kFor pt mb env (.ok s st) = loopL s.gd pt mb s.xs env st := rfl
noncomputable def kLc (pt : Pat) (mt : MT) (me : ME) (vs : List Nat) (env : Env) (r : Res Src) : Res Sl := r.bind fun s st1 => lcL s.gd pt mt me (wipeE env vs) st1.l.length (freezeF st1.l.length st1.o) s.xs (st1.push (.lst []))
theorem e_lc {mi : MI} {pt : Pat} {mt : MT} {me : ME} {vs : List Nat} {env : Env} {st : Store} : mLc mi pt mt me vs env st = kLc pt mt me vs env (mi env st) := rfl
theorem k_lc {pt : Pat} {mt : MT} {me : ME} {vs : List Nat} {env : Env} {s : Src} {st : Store} : kLc pt mt me vs env (.ok s st) = lcL s.gd pt mt me (wipeE env vs) st.l.length (freezeF st.l.length st.o) s.xs (st.push (.lst [])) := rfl
noncomputable def kLcM (pt : Pat) (mt : MT) (me : ME) (vs : List Nat) (env : Env) (r : Res Src) : Res Sl := r.bind fun s st1 => lcL s.gd pt mt me (wipeE env vs) st1.l.length (fun st2 => .ok (.l st1.l.length) st2) s.xs (st1.push (.lst []))
theorem e_lcM {mi : MI} {pt : Pat} {mt : MT} {me : ME} {vs : List Nat} {env : Env} {st : Store} : mLcM mi pt mt me vs env st = kLcM pt mt me vs env (mi env st) := rfl
theorem k_lcM {pt : Pat} {mt : MT} {me : ME} {vs : List Nat} {env : Env} {s : Src} {st : Store} : kLcM pt mt me vs env (.ok s st) = lcL s.gd pt mt me (wipeE env vs) st.l.length (fun st2 => .ok (.l st.l.length) st2) s.xs (st.push (.lst [])) := rfl
theorem e_yes {env : Env} {st : Store} : mYes env st = .ok true st := rfl
theorem w_nil {env : Env} : wipeE env [] = env := rfl
theorem w_cons {env : Env} {v : Nat} {vs : List Nat} : wipeE env (v :: vs) = (wipeE env vs).set v none := rfl
theorem b_nm {i : Nat} {w : W} {env : Env} : bindP (.nm i) w env = some (env.set i (some (.v w))) := by unfold bindP; rfl
theorem b_tp {ps : List Pat} {ws : List W} {env : Env} : bindP (.tp ps) (.tup ws) env = bindPs ps ws env := by unfold bindP; rfl
theorem b_pnil {env : Env} : bindPs [] [] env = some env := by unfold bindPs; rfl
theorem b_pnm {i : Nat} {ps : List Pat} {w : W} {ws : List W} {env : Env} : bindPs (.nm i :: ps) (w :: ws) env = bindPs ps ws (env.set i (some (.v w))) := by
  conv => lhs; unfold bindPs
  rw [b_nm]
theorem b_ptp {qs ps : List Pat} {vs ws : List W} {env : Env} : bindPs (.tp qs :: ps) (.tup vs :: ws) env = (bindPs qs vs env).bind fun env1 => bindPs ps ws env1 := by
  conv => lhs; unfold bindPs
  rw [b_tp]
  cases bindPs qs vs env <;> rfl
theorem st_setl_get {st : Store} {n : Nat} {xs : List W} (h : n < st.l.length) : (st.setl n (.lst xs)).lget n = some xs := by
  unfold Store.lget Store.setl; dsimp only; rw [List.getElem?_set_self h]
theorem st_setl_ne {st : Store} {n m : Nat} {x : Lo} (h : n ≠ m) : (st.setl n x).lget m = st.lget m := by
  unfold Store.lget Store.setl; dsimp only; rw [List.getElem?_set_ne h]
theorem st_setl_len {st : Store} {n : Nat} {x : Lo} : (st.setl n x).l.length = st.l.length := by unfold Store.setl; exact List.length_set
theorem st_setl_o {st : Store} {n : Nat} {x : Lo} : (st.setl n x).o = st.o := rfl
theorem st_setl_setl {st : Store} {n : Nat} {x y : Lo} : (st.setl n x).setl n y = st.setl n y := by unfold Store.setl; dsimp only; rw [List.set_set]
theorem st_push_len {st : Store} {x : Lo} : (st.push x).l.length = st.l.length + 1 := by unfold Store.push; simp
theorem st_push_o {st : Store} {x : Lo} : (st.push x).o = st.o := rfl
theorem st_push_get {st : Store} {xs : List W} : (st.push (.lst xs)).lget st.l.length = some xs := by unfold Store.lget Store.push; simp
theorem st_push_lt {st : Store} {x : Lo} {n : Nat} (h : n < st.l.length) : (st.push x).lget n = st.lget n := by
  unfold Store.lget Store.push; dsimp only; rw [List.getElem?_append_left h]
theorem lget_lt {st : Store} {n : Nat} {xs : List W} (h : st.lget n = some xs) : n < st.l.length := get_lt (Store.lget_of h)
theorem fn_tr {np nl : Nat} {body : MS} {args : List Sl} {st : Store} (h : args.length = np) : mFn np nl .tr body args st = fin .tr st (body (args.map some ++ List.replicate (nl - np) none) st) := by unfold mFn; rw [if_pos h]
theorem fn_kp {np nl : Nat} {body : MS} {args : List Sl} {st : Store} (h : args.length = np) : mFn np nl .kp body args st = fin .kp st (body (args.map some ++ List.replicate (nl - np) none) st) := by unfold mFn; rw [if_pos h]
theorem fn_ini {np nl : Nat} {body : MS} {args : List Sl} {st : Store} (h : args.length = np) : mFn np nl .ini body args st = fin .ini st (body (args.map some ++ List.replicate (nl - np) none) st) := by unfold mFn; rw [if_pos h]
theorem fin_same {st : Store} {w : W} : fin .tr st (.rt (.v w) st) = .ok (.v w) st := by
  unfold fin cut; dsimp only; rw [List.take_length, if_pos rfl, List.take_length]
theorem fin_cutv {st st1 : Store} {w : W} (ho : st1.o = st.o) : fin .tr st (.rt (.v w) st1) = .ok (.v w) ⟨st1.l.take st.l.length, st.o⟩ := by
  unfold fin cut; dsimp only; rw [ho, List.take_length, if_pos rfl]
theorem fin_setv {st : Store} {w : W} {n : Nat} {x : Lo} : fin .tr st (.rt (.v w) (st.setl n x)) = .ok (.v w) (st.setl n x) := by
  rw [fin_cutv (st1 := st.setl n x) (by rfl)]
  congr 1
  show Store.mk ((st.l.set n x).take st.l.length) st.o = ⟨st.l.set n x, st.o⟩
  rw [List.take_of_length_le (by simp)]
theorem fin_lst {st st1 : Store} {k : Nat} {xs : List W} (ho : st1.o = st.o) (hk : st.l.length ≤ k) (hx : st1.lget k = some xs) : fin .tr st (.rt (.l k) st1) = .ok (.v (.lst xs)) ⟨st1.l.take st.l.length, st.o⟩ := by
  unfold fin cut; dsimp only; rw [if_neg (by omega), hx]; dsimp only; rw [ho, List.take_length, if_pos rfl]
theorem fin_kp_rt {st st1 : Store} {s : Sl} : fin .kp st (.rt s st1) = .ok s st1 := rfl
theorem fin_kp_nx {st st1 : Store} {env : Env} : fin .kp st (.nx env st1) = .ok (.v .non) st1 := rfl
end Mz
namespace Mz
open PySem L2
def Pl (st : Store) (p : Nat) : Prop := ∃ a b c, st.lget p = some [.int a, .int b, .int c]
structure Pw (p : Nat) (st st' : Store) : Prop where
  len : st'.l.length = st.l.length
  o : st'.o = st.o
  pl : Pl st' p
  ne : ∀ q : Nat, q ≠ p → st'.l[q]? = st.l[q]?
theorem Pl.lt {st : Store} {p : Nat} (h : Pl st p) : p < st.l.length := let ⟨_, _, _, e⟩ := h; lget_lt e
theorem Pw.refl {p : Nat} {st : Store} (h : Pl st p) : Pw p st st := ⟨rfl, rfl, h, fun _ _ => rfl⟩
theorem Pw.trans {p : Nat} {a b c : Store} (h : Pw p a b) (g : Pw p b c) : Pw p a c := ⟨g.len.trans h.len, g.o.trans h.o, g.pl, fun q hq => (g.ne q hq).trans (h.ne q hq)⟩
theorem lget_eq {st st' : Store} {q : Nat} (h : st'.l[q]? = st.l[q]?) : st'.lget q = st.lget q := by unfold Store.lget; rw [h]
theorem Pw.get {p q : Nat} {st st' : Store} (h : Pw p st st') (hq : q ≠ p) : st'.lget q = st.lget q := lget_eq (h.ne q hq)
theorem Pw.other {p q : Nat} {st st' : Store} (h : Pw p st st') (g : Pl st q) : Pl st' q := by
  by_cases e : q = p
  · rw [e]; exact h.pl
  · obtain ⟨a, b, c, g⟩ := g; exact ⟨a, b, c, by rw [h.get e]; exact g⟩
theorem Pw.set {p : Nat} {st : Store} {a b c : Int} (h : p < st.l.length) : Pw p st (st.setl p (.lst [.int a, .int b, .int c])) :=
  ⟨st_setl_len, rfl, ⟨a, b, c, st_setl_get h⟩, fun q hq => by unfold Store.setl; dsimp only; exact List.getElem?_set_ne (Ne.symm hq)⟩
theorem Pl.push {st : Store} {p : Nat} {x : Lo} (h : Pl st p) : Pl (st.push x) p := by
  have := h.lt
  obtain ⟨a, b, c, e⟩ := h
  exact ⟨a, b, c, by rw [st_push_lt this]; exact e⟩
theorem push_at {st : Store} {x : Lo} {q : Nat} (h : q < st.l.length) : (st.push x).l[q]? = st.l[q]? := by unfold Store.push; dsimp only; exact List.getElem?_append_left h
theorem push_last {st : Store} {x : Lo} : (st.push x).l[st.l.length]? = some x := by unfold Store.push; simp
theorem Pw.push {p : Nat} {st st' : Store} {x : Lo} (h : Pw p st st') (hp : p < st.l.length) : Pw p (st.push x) (st'.push x) := by
  refine ⟨by rw [st_push_len, st_push_len, h.len], h.o, h.pl.push, fun q hq => ?_⟩
  by_cases h1 : q < st.l.length
  · rw [push_at h1, push_at (by rw [h.len]; exact h1)]; exact h.ne q hq
  · by_cases h2 : q = st.l.length
    · subst h2; rw [push_last, ← h.len, push_last]
    · rw [List.getElem?_eq_none (by rw [st_push_len, h.len]; omega), List.getElem?_eq_none (by rw [st_push_len]; omega)]
theorem Pw.cut {p : Nat} {st st1 : Store} (hp : p < st.l.length) (hl : st.l.length ≤ st1.l.length) (pl : Pl st1 p) (ne : ∀ q : Nat, q < st.l.length → q ≠ p → st1.l[q]? = st.l[q]?) : Pw p st ⟨st1.l.take st.l.length, st.o⟩ := by
  refine ⟨?_, rfl, ?_, fun q hq => ?_⟩
  · show (st1.l.take st.l.length).length = _
    rw [List.length_take]; omega
  · obtain ⟨a, b, c, e⟩ := pl
    refine ⟨a, b, c, ?_⟩
    rw [← e]
    exact lget_eq (List.getElem?_take_of_lt hp)
  · show (st1.l.take st.l.length)[q]? = _
    by_cases h1 : q < st.l.length
    · rw [List.getElem?_take_of_lt h1]; exact ne q h1 hq
    · rw [List.getElem?_eq_none (by rw [List.length_take]; omega), List.getElem?_eq_none (by omega)]
end Mz
namespace Mz
open PySem L2
end Mz
namespace Mz
open PySem L2
def izs (lo : Int) (n : Nat) : List Int := (List.range n).map fun k : Nat => lo + (k : Int)
theorem len_izs {lo : Int} {n : Nat} : (izs lo n).length = n := by unfold izs; simp
end Mz
namespace Mz
open PySem L2
theorem push_get {st : Store} {k : Nat} {xs : List W} (h : st.l.length = k) : (st.push (.lst xs)).lget k = some xs := by subst h; exact st_push_get
end Mz
namespace Mz
theorem bl0 : 0 ≤ big := by decide
theorem bl1 : 1 ≤ big := by decide
theorem bl2 : 2 ≤ big := by decide
theorem bl3 : 3 ≤ big := by decide
theorem bl4 : 4 ≤ big := by decide
theorem bl5 : 5 ≤ big := by decide
theorem bl6 : 6 ≤ big := by decide
theorem bl7 : 7 ≤ big := by decide
theorem bl8 : 8 ≤ big := by decide
theorem bl9 : 9 ≤ big := by decide
theorem bl10 : 10 ≤ big := by decide
theorem bl11 : 11 ≤ big := by decide
theorem bl12 : 12 ≤ big := by decide
theorem bl13 : 13 ≤ big := by decide
theorem bl14 : 14 ≤ big := by decide
theorem bl15 : 15 ≤ big := by decide
theorem bl16 : 16 ≤ big := by decide
theorem bl17 : 17 ≤ big := by decide
theorem bl18 : 18 ≤ big := by decide
theorem bl19 : 19 ≤ big := by decide
theorem bl20 : 20 ≤ big := by decide
theorem bl21 : 21 ≤ big := by decide
theorem bl22 : 22 ≤ big := by decide
theorem bl23 : 23 ≤ big := by decide
theorem bl24 : 24 ≤ big := by decide
theorem bl25 : 25 ≤ big := by decide
theorem bl26 : 26 ≤ big := by decide
theorem bl27 : 27 ≤ big := by decide
theorem bl28 : 28 ≤ big := by decide
theorem bl29 : 29 ≤ big := by decide
theorem bl30 : 30 ≤ big := by decide
theorem bl31 : 31 ≤ big := by decide
theorem bl32 : 32 ≤ big := by decide
theorem bl33 : 33 ≤ big := by decide
theorem bl34 : 34 ≤ big := by decide
theorem bl35 : 35 ≤ big := by decide
theorem bl36 : 36 ≤ big := by decide
theorem bl37 : 37 ≤ big := by decide
theorem bl38 : 38 ≤ big := by decide
theorem bl39 : 39 ≤ big := by decide
theorem bl40 : 40 ≤ big := by decide
end Mz
namespace Mz
open PySem L2
end Mz
namespace Mz
open PySem L2
def two (s : Store) (A B : List W) : Store := (s.push (.lst A)).push (.lst B)
end Mz

set_option Elab.async false
set_option linter.all false
set_option maxRecDepth 100000
set_option maxHeartbeats 4000000
namespace Mz
open PySem PySem.Spec PyProof.Rows L2
open Sem (wp)
def enO (a : Addr) : Obj :=
  { cls := .type "enumerate",
    data := .fields #[.none, .bool false, .ref a, rawInt 0, .none, .none] }
def enH (h : Heap) (o : Obj) : Heap := (h.push o).push (enO h.objs.size)
set_option maxHeartbeats 1000000 in
theorem en_new {v : Value} {o : Obj} {H : Heap → Prop} (B : Begins v o H) :
    Meets (Builtin.«enumerate.__new__» ⟨[.type "enumerate", v], []⟩) (fun _ R s =>
      H s.heap ∧ R (.ok (.ret (.ref (s.heap.push o).objs.size))) { s with heap := enH s.heap o }) :=
  .of_wp fun prog w A R s h => by
    obtain ⟨hp, g, d, tk, os⟩ := s
    obtain ⟨h1, h⟩ := h
    have hsub := sub_enumerate
    have qi : ∀ {A' : Around} {E Q : Value → Shared → Prop}, Q (.ref hp.objs.size) ⟨hp.push o, g, d, tk, os⟩ →
        wpAny (model prog w) A' (pyIter v) Q E ⟨hp, g, d, tk, os⟩ := fun q => B.iter prog w _ _ ⟨hp, g, d, tk, os⟩ _ h1 q
    wp_walk using qi
    refine wpAny_stack_any fun st => wpAny_pure ?_
    split
    · rename_i c _ _ _ _ _
      rcases (c == Value.type "enumerate") with _ | _ <;> (wp_walk using qi; exact ⟨_, rfl, h⟩)
    · wp_walk using qi; exact ⟨_, rfl, h⟩
theorem en_call {prog : Program} {w : World} {A : Around} {E : Value → Shared → Prop} {s : Shared} {v : Value} {o : Obj} {H : Heap → Prop} {Q : Value → Shared → Prop} (B : Begins v o H) (h1 : H s.heap)
    (h : ∀ h', IsEnum h' (s.heap.objs.size + 1) s.heap.objs.size 0 .none → h'.get? s.heap.objs.size = some o → (∀ b o, s.heap.get? b = some o → h'.get? b = some o) →
      Q (.ref (s.heap.objs.size + 1)) { s with heap := h' }) : wpAny (model prog w) A (call (.type "enumerate") [v]) Q E s := by
  have hz : (s.heap.push o).objs.size = s.heap.objs.size + 1 := Heap.size_push ..
  have he : IsEnum (enH s.heap o) (s.heap.objs.size + 1) s.heap.objs.size 0 .none := by
    have := Heap.get?_push_size (s.heap.push o) (o := enO s.heap.objs.size) rfl
    rw [hz] at this
    exact this
  refine callType_new F.called_enumerate (by decide) (F.typeCall_enumerate_1 _) (F.newCall_enumerate_1 _)
    (fun obj => F.args_object_init_2 obj _) F.entry_enumerate_new (en_new B) ⟨h1, ?_⟩
  show _ ∧ _
  rw [hz]
  exact ⟨⟨_, he, rfl⟩, h _ he (Heap.get?_push_of_some _ (Heap.get?_push_size _ B.free))
    fun b o x => Heap.get?_push_of_some _ (Heap.get?_push_of_some _ x)⟩
def Itu (K : PySem.W.Frag) (a : Addr) : It where
  go := fun i H => ∃ (xs : List V) (x : V), SqT K H a xs ∧ xs[i]? = some x
  yld := fun i H v H' => ∃ T x, v = .ref T ∧ H T = none ∧ H' = upd H T (.tup [.int (i : Nat), x]) ∧ ∀ xs, SqT K H a xs → xs[i]? = some x
  stop := fun i H => ∃ xs : List V, SqT K H a xs ∧ xs.length ≤ i
theorem turn_itu {P : Program} {w : World} {K : PySem.W.Frag} {elts : List Expr} {kk : Nat} {tpos : Pos} (a e it : Addr) (hae : a ≠ e) (hai : a ≠ it) :
    Turn P w K (.Tuple elts kk tpos) (Itu K a) [e, it] e (fun i h => (∃ old, IsEnum h e it ((i : Nat) : Int) old) ∧ h.IsTupleIter it a i ∧ e ≠ it) where
  mem := List.mem_cons_self ..
  obj := fun i h st b hb => by
    obtain ⟨⟨old, he⟩, ⟨o, ho, hc, hd⟩, _⟩ := st
    rcases List.mem_cons.mp hb with z | hb
    · rw [z]; exact ⟨_, he, fun v q => nomatch q⟩
    · rw [List.mem_singleton.mp hb]; exact ⟨o, ho, fun v q => by rw [hd] at q; cases q⟩
  keep := fun i h h' st k => by
    obtain ⟨⟨old, he⟩, hi, hne⟩ := st
    exact ⟨⟨old, k e (List.mem_cons_self ..) _ he⟩, hi.at fun o q => k it (by simp) o q, hne⟩
  item := by
    intro X hP hw hK hc i pins s σ H E I hf st hg
    subst hP hw hK
    obtain ⟨⟨old, he⟩, hit, hne⟩ := st
    obtain ⟨xs, x, hq, hx⟩ := hg
    obtain ⟨its, rv, p, hz⟩ := I.tuple hq
    obtain ⟨u, hu, ru⟩ := rv.get hx
    have hel : e < s.heap.objs.size := Heap.lt_size he
    have hil : it < s.heap.objs.size := by obtain ⟨_, q, _⟩ := hit; exact Heap.lt_size q
    have D := Draws.tuple (prog := X.prog) (w := X.w) (A := X.A.in1) (I.ok.hd hc) it a hai its.toArray
    have hlt : i < its.toArray.size := by simp; exact get_lt hu
    refine wpAny_pyNext_enum_itemD D he ⟨hit, p⟩ hlt hne (by simp; exact ⟨hne, fun z => hae z.symm⟩) fun y h' tk hy ho hst hT hsz hk => ?_
    have hy' : y = u := by
      have : its.toArray[i]? = some u := by simpa using hu
      rw [this] at hy; exact (Option.some.inj hy).symm
    subst hy'
    refine ⟨_, rfl, wpAny_letOwnedTupleGo_enum (s := { s with heap := h', toks := tk + 1 }) ho fun h'' he' sb => ?_⟩
    have hT2 := (sb.2 _ (Nat.ne_of_gt hel)).trans hT
    have new : ObjOk X.prog X.w (upd H s.heap.objs.size (.tup [.int (i : Nat), x])) h'' s.heap.objs.size (.tup [.int (i : Nat), x]) :=
      ⟨by show 2 ≤ sizeLine; decide, [.int i tk, y], .cons ⟨_, rfl⟩ (.cons ru .nil), ⟨_, hT2, rfl, _, rfl⟩⟩
    have I1 : Inv X pins σ (upd H s.heap.objs.size (.tup [.int (i : Nat), x])) { s with heap := h'', toks := tk + 1 } :=
      I.turnedNew (ch := [e, it]) (fun b ob hb q => by
        have b1 : b ≠ e := fun z => hb (by simp [z])
        have b2 : b ≠ it := fun z => hb (by simp [z])
        exact (sb.2 b b1).trans (hk b ob b1 b2 q)) hf (Nat.le_refl _) new
    refine ⟨.ref s.heap.objs.size, _, I1, rfl, ⟨_, x, rfl, I.hok.fresh (Nat.le_refl _), rfl, fun ys hy => by rw [I.tuple_inj hy hq]; exact hx⟩, ⟨⟨y, ?_⟩, hst.1.at fun o q => (sb.2 it (Ne.symm hne)).trans q, hne⟩, fun b hb => ?_⟩
    · rw [show ((i + 1 : Nat) : Int) = (i : Int) + 1 by omega]
      exact he'
    · have hb' : b < s.heap.objs.size := by
        rcases List.mem_cons.mp hb with z | hb
        · rw [z]; exact hel
        · rw [List.mem_singleton.mp hb]; exact hil
      rw [upd_ne (Nat.ne_of_lt hb')]
      exact (hf b hb).1
  done := by
    intro X hP hw hK hc i pins s σ H E I hf st hg
    subst hP hw hK
    obtain ⟨⟨old, he⟩, hit, hne⟩ := st
    obtain ⟨xs, hq, hx⟩ := hg
    obtain ⟨its, rv, p, hz⟩ := I.tuple hq
    obtain ⟨f0, f1, f2, f3, f4, f5⟩ := hf it (by simp)
    have hl := rv.length
    have D : Draws X.prog X.w X.A.in1 it [it, a] i (fun _ _ => False) (fun j h => j = i ∧ h.IsTupleIter it a i ∧ h.IsTuple a its.toArray) :=
      { live := fun _ _ st => let ⟨o, ho, _⟩ := st.2.1; ⟨o, ho⟩
        frame := fun _ _ _ st hk => ⟨st.1, st.2.1.at fun o e => hk it (by simp) o e, st.2.2.at fun o e => hk a (by simp) o e⟩
        item := fun j s Q E hj st _ => absurd st.1 (Nat.ne_of_lt hj)
        done := fun s Q E st hE => wpAny_nextOf_tuple_end (I.ok.hd hc) st.2.1 st.2.2 (by simp; omega) hE }
    exact wpAny_pyNext_enum_endD D he ⟨rfl, hit, p⟩ fun h' eb => ⟨rfl, I.turned (t' := s.toks) (fun b o hb q => eb b o hb q) f0 f1 f3 f4 f5⟩
  self := fun A i s Q E st h => by
    obtain ⟨⟨_, he⟩, _⟩ := st
    exact wpAny_pyIter_enum he h
def iEnumA (K : PySem.W.Frag) (ta : TA) : TI := fun σ H R => ta σ H fun vs H1 => ∃ a, vs = [.ref a] ∧ ((∃ xs, SqL K H1 a xs ∧ R (Ite K a) H1) ∨ ∃ xs, SqT K H1 a xs ∧ R (Itu K a) H1)
theorem pi_enumA {X : Cx} {e : Expr} {ta : TA} {p pos tpos : Pos} {elts : List Expr} {kk : Nat} (hg : Gl X "enumerate") (hm : X.mg "enumerate" = none) (ha : PA X [e] ta) (hs : starEach [e] X.env = [(false, eval e X.env)] := by rfl) :
    PI X (.Tuple elts kk tpos) (.Call (.Name "enumerate" p) [e] [] pos) (iEnumA X.K ta) := by
  refine ⟨fun pins s σ H R I h => Call_ (ld_blt I hg hm boot_enumerate (PyProof.Rows.callWith_type1 (thn (ha.run pos pins s σ H _ I h) ?_) hs rfl))⟩
  rintro us s1 ⟨vs, H1, I1, r1, a, rfl, q1⟩
  cases r1 with
  | cons r rr =>
    cases rr
    cases r
    have two : ∀ b ∈ [s1.heap.objs.size + 1, s1.heap.objs.size], s1.heap.objs.size ≤ b := fun b hb => by
      rcases List.mem_cons.mp hb with z | hb
      · rw [z]; exact Nat.le_succ _
      · rw [List.mem_singleton.mp hb]; exact Nat.le_refl _
    rcases q1 with ⟨xs, hq, q⟩ | ⟨xs, hq, q⟩
    · obtain ⟨its, rv, p', hz⟩ := I1.list hq
      refine en_call (begins_list a its.toArray) p'.isList fun h' he hit hk => wpAny_pyIter_enum he ?_
      have I2 : Inv X pins σ H1 { s1 with heap := h' } := I1.kept (t' := s1.toks) hk
      exact ⟨s1.heap.objs.size + 1, [s1.heap.objs.size + 1, s1.heap.objs.size], _, _, H1, rfl, I2, turn_enum a (s1.heap.objs.size + 1) s1.heap.objs.size, ⟨⟨.none, he⟩, ⟨_, hit, rfl, rfl⟩, Nat.succ_ne_self _⟩,
        fun b hb => I1.fpOk (two b hb) (I1.hok.fresh (two b hb)), q⟩
    · obtain ⟨its, rv, p', hz⟩ := I1.tuple hq
      have hlt : a < s1.heap.objs.size := by obtain ⟨o, e, _⟩ := p'; exact Heap.lt_size e
      refine en_call (begins_tuple a its.toArray) p' fun h' he hit hk => wpAny_pyIter_enum he ?_
      have I2 : Inv X pins σ H1 { s1 with heap := h' } := I1.kept (t' := s1.toks) hk
      exact ⟨s1.heap.objs.size + 1, [s1.heap.objs.size + 1, s1.heap.objs.size], _, _, H1, rfl, I2, turn_itu a (s1.heap.objs.size + 1) s1.heap.objs.size (Nat.ne_of_lt (Nat.lt_succ_of_lt hlt)) (Nat.ne_of_lt hlt), ⟨⟨.none, he⟩, ⟨_, hit, rfl, rfl⟩, Nat.succ_ne_self _⟩,
        fun b hb => I1.fpOk (two b hb) (I1.hok.fresh (two b hb)), q⟩
def numW (lo : Nat) : List W → List W
  | [] => []
  | x :: xs => .tup [.int lo, x] :: numW (lo + 1) xs
theorem numW_at : ∀ {xs : List W} {lo i : Nat}, (numW lo xs)[i]? = xs[i]?.map fun x => .tup [.int ((lo + i : Nat) : Int), x]
  | [], _, _ => by simp [numW]
  | x :: xs, lo, 0 => by simp [numW]
  | x :: xs, lo, i + 1 => by
    show (numW (lo + 1) xs)[i]? = _
    rw [numW_at, show lo + 1 + i = lo + (i + 1) by omega]; rfl
theorem numW_len : ∀ {xs : List W} {lo : Nat}, (numW lo xs).length = xs.length
  | [], _ => rfl
  | _ :: xs, lo => by show (numW (lo + 1) xs).length + 1 = _; rw [numW_len]; rfl
def enSrc : List Sl → Store → Res Src
  | [.v (.tup xs)], st1 => .ok ⟨numW 0 xs, fun _ => True⟩ st1
  | [x], st1 => match litems st1 x with
    | some xs => .ok ⟨numW 0 xs, stands x xs⟩ st1
    | none => .bad
  | _, _ => .bad
def mItE (a : MA) : MI := fun env st => (a env st).bind enSrc
theorem its_enum {T : Tx} {ρ : Mp} {G H : Hp} {st : Store} {x : Sl} {xs : List W} {a : Addr} (hx : SlR T ρ G x (.ref a)) (h : litems st x = some xs) : ItS T ρ G ⟨numW 0 xs, stands x xs⟩ (Ite T.K a) := by
  refine ⟨fun i H st' ρ' G' f r g hi => ?_, fun i w H st' ρ' G' f r g hw => ?_⟩
  · obtain ⟨b, vs, e, hq, hr⟩ := litems_at r (hx.mono f) (litems_stand h g)
    cases e
    exact ⟨vs, hq, by rw [← hr.length]; rw [numW_len] at hi; exact hi⟩
  · obtain ⟨b, vs, e, hq, hr⟩ := litems_at r (hx.mono f) (litems_stand h g)
    cases e
    have hw' : (numW 0 xs)[i]? = some w := hw
    rw [numW_at] at hw'
    obtain ⟨w0, hw0, rfl⟩ := Option.map_eq_some_iff.mp hw'
    obtain ⟨v, hv, rv⟩ := Reps.get' hr hw0
    refine ⟨⟨vs, v, hq, hv⟩, fun y H' hy => ?_⟩
    obtain ⟨q, v', rfl, hn, rfl, hy⟩ := hy
    have e := hy vs hq
    rw [hv] at e
    cases e
    obtain ⟨f2, r2⟩ := r.newG (o := .tup [.int (i : Nat), v]) hn
    refine ⟨_, f2, r2, ?_⟩
    unfold Rep
    exact ⟨q, _, rfl, SqT.of upd_same, Reps.cons (by unfold Rep; rw [Nat.zero_add]) (Reps.cons (Rep.mono f2.ex _ _ rv) Reps.nil)⟩
theorem its_enumT {T : Tx} {ρ : Mp} {G : Hp} {xs : List W} {a : Addr} {vs : List V} (hq : SqT T.K G a vs) (hr : Reps T G xs vs) : ItS T ρ G ⟨numW 0 xs, fun _ => True⟩ (Itu T.K a) := by
  refine ⟨fun i H st' ρ' G' f r g hi => ?_, fun i w H st' ρ' G' f r g hw => ?_⟩
  · exact ⟨vs, sqt_mono r.ext (sqt_mono f.ex hq), by rw [← hr.length]; rw [numW_len] at hi; exact hi⟩
  · have hw' : (numW 0 xs)[i]? = some w := hw
    rw [numW_at] at hw'
    obtain ⟨w0, hw0, rfl⟩ := Option.map_eq_some_iff.mp hw'
    obtain ⟨v, hv, rv⟩ := Reps.get' hr hw0
    have hq' := sqt_mono r.ext (sqt_mono f.ex hq)
    refine ⟨⟨vs, v, hq', hv⟩, fun y H' hy => ?_⟩
    obtain ⟨q, v', rfl, hn, rfl, hy⟩ := hy
    have e := hy vs hq'
    rw [hv] at e
    cases e
    obtain ⟨f2, r2⟩ := r.newG (o := .tup [.int (i : Nat), v]) hn
    refine ⟨_, f2, r2, ?_⟩
    unfold Rep
    exact ⟨q, _, rfl, SqT.of upd_same, Reps.cons (by unfold Rep; rw [Nat.zero_add]) (Reps.cons (Rep.mono f2.ex _ _ (Rep.mono f.ex _ _ rv)) Reps.nil)⟩
theorem ii_enum {X : Cx} {cl : Nat → Addr} {Wx : WX} {e : Expr} {ma : MA} {p pos tpos : Pos} {elts : List Expr} {kk : Nat} (hg : Gl X "enumerate") (hm : X.mg "enumerate" = none) (ha : IA X cl Wx [e] ma) (hs : starEach [e] X.env = [(false, eval e X.env)] := by rfl) :
    II X cl Wx (.Tuple elts kk tpos) (.Call (.Name "enumerate" p) [e] [] pos) (mItE ma) :=
  pi_weak (pi_enumA hg hm ha hs) fun σ H Q ⟨env, ρ, G, st, rel, er, p⟩ => ⟨env, ρ, G, st, rel, er, PostR.bind (R1 := SlRs ⟨X.K, cl⟩) p fun xs st1 ρ1 G1 H1 us f1 r1 s1 p1 => by
    unfold enSrc at p1
    split at p1
    · obtain ⟨u, rfl, h1⟩ := slrs1 s1
      unfold SlR Rep at h1
      obtain ⟨a, vs, rfl, hq, hr⟩ := h1
      exact ⟨a, rfl, .inr ⟨vs, sqt_mono r1.ext hq, p1.give r1 (its_enumT hq hr)⟩⟩
    · obtain ⟨u, rfl, h1⟩ := slrs1 s1
      split at p1
      · rename_i ys e
        obtain ⟨a, vs, rfl, hq, hr⟩ := litems_at r1 h1 e
        exact ⟨a, rfl, .inl ⟨vs, hq, p1.give r1 (its_enum (H := H1) h1 e)⟩⟩
      · exact p1.elim
    · exact p1.elim⟩
def kEn (r : Res (List Sl)) : Res Src := r.bind enSrc
theorem e_itE {a : MA} {env : Env} {st : Store} : mItE a env st = kEn (a env st) := rfl
theorem k_en {xs : List Sl} {st : Store} : kEn (.ok xs st) = enSrc xs st := rfl
end Mz

set_option Elab.async false
set_option linter.all false
set_option maxRecDepth 100000
set_option maxHeartbeats 4000000
namespace Mz
open PySem L2
section
variable {α : Type}
end
end Mz
namespace Mz
open PySem L2
end Mz
namespace Mz
open PySem L2
end Mz

set_option Elab.async false
set_option linter.all false
set_option maxRecDepth 100000
set_option maxHeartbeats 4000000
namespace Mz
open PySem PySem.Spec PyProof.Rows L2
section
variable {T : Tx} {ρ ρ' : Mp} {G G' H : Hp} {st : Store}
theorem look_reps : ∀ {ns : List Str} {ws : List W} {vs : List V} {f : Str} {w : W}, Reps T G ws vs → (ns.zip ws).lookup f = some w → ∃ v, (ns.zip vs).lookup f = some v ∧ Rep T G w v
  | [], _, _, _, _, _, e => by cases e
  | n :: ns, [], _, _, _, _, e => by cases e
  | n :: ns, w0 :: ws, vs, f, w, h, e => by
    unfold Reps at h
    obtain ⟨v, r, rfl, h1, h2⟩ := h
    rw [List.zip_cons_cons, List.lookup_cons] at e ⊢
    cases hb : (f == n) with
    | true => rw [hb] at e; cases e; exact ⟨v, rfl, h1⟩
    | false => rw [hb] at e; exact look_reps h2 e
theorem look_slrs : ∀ {ns : List Str} {ss : List Sl} {vs : List V} {f : Str} {s : Sl}, SlRs T ρ G ss vs → (ns.zip ss).lookup f = some s → ∃ v, (ns.zip vs).lookup f = some v ∧ SlR T ρ G s v
  | [], _, _, _, _, _, e => by cases e
  | n :: ns, [], _, _, _, _, e => by cases e
  | n :: ns, s0 :: ss, vs, f, s, h, e => by
    obtain ⟨v, r, rfl, h1, h2⟩ := h
    rw [List.zip_cons_cons, List.lookup_cons] at e ⊢
    cases hb : (f == n) with
    | true => rw [hb] at e; cases e; exact ⟨v, rfl, h1⟩
    | false => rw [hb] at e; exact look_slrs h2 e
theorem look_none : ∀ {ns : List Str} {α β : Type} {ws : List α} {vs : List β} {f : Str}, ws.length = vs.length → (ns.zip ws).lookup f = none → (ns.zip vs).lookup f = none
  | [], _, _, _, _, _, _, _ => rfl
  | n :: ns, _, _, [], [], _, _, _ => rfl
  | n :: ns, _, _, [], v :: vs, _, h, _ => by cases h
  | n :: ns, _, _, w :: ws, [], _, h, _ => by cases h
  | n :: ns, _, _, w :: ws, v :: vs, f, h, e => by
    rw [List.zip_cons_cons, List.lookup_cons] at e ⊢
    cases hb : (f == n) with
    | true => rw [hb] at e; cases e
    | false => rw [hb] at e; exact look_none (by simpa using h) e
def putK (f : Str) : List Str → List Str
  | [] => [f]
  | g :: r => if g = f then g :: r else g :: putK f r
def putW {α : Type} (f : Str) (v : α) : List Str → List α → List α
  | [], _ => [v]
  | g :: r, x :: xs => if g = f then v :: xs else x :: putW f v r xs
  | _ :: _, [] => []
theorem putF_zip {f : Str} {v : V} : ∀ {ns : List Str} {us : List V}, ns.length = us.length → putF f v (ns.zip us) = (putK f ns).zip (putW f v ns us)
  | [], [], _ => rfl
  | [], _ :: _, h => by cases h
  | _ :: _, [], h => by cases h
  | g :: ns, x :: us, h => by
    unfold putF putK putW
    rw [List.zip_cons_cons]
    dsimp only
    by_cases e : g = f
    · rw [if_pos e, if_pos e, if_pos e]; rfl
    · rw [if_neg e, if_neg e, if_neg e, putF_zip (by simpa using h)]; rfl
theorem putK_len {f : Str} {α : Type} {v : α} : ∀ {ns : List Str} {us : List α}, ns.length = us.length → (putK f ns).length = (putW f v ns us).length
  | [], [], _ => rfl
  | [], _ :: _, h => by cases h
  | _ :: _, [], h => by cases h
  | g :: ns, x :: us, h => by
    unfold putK putW
    by_cases e : g = f
    · rw [if_pos e, if_pos e]; exact h
    · rw [if_neg e, if_neg e, List.length_cons, List.length_cons, putK_len (by simpa using h)]
theorem putW_slrs {f : Str} {s : Sl} {v : V} (hs : SlR T ρ G s v) : ∀ {ns : List Str} {ss : List Sl} {us : List V}, SlRs T ρ G ss us → SlRs T ρ G (putW f s ns ss) (putW f v ns us)
  | [], ss, us, h => ⟨v, [], rfl, hs, rfl⟩
  | _ :: _, [], us, h => by cases h; rfl
  | g :: ns, x :: ss, us, h => by
    obtain ⟨u, r, rfl, h1, h2⟩ := h
    unfold putW
    by_cases e : g = f
    · rw [if_pos e, if_pos e]; exact ⟨v, r, rfl, hs, h2⟩
    · rw [if_neg e, if_neg e]; exact ⟨u, _, rfl, h1, putW_slrs hs h2⟩
def Store.seto (st : Store) (n : Nat) (x : In) : Store := { st with o := st.o.set n x }
def Store.pusho (st : Store) (x : In) : Store := { st with o := st.o ++ [x] }
theorem Rel.seto (r : Rel T ρ G H st) {n : Nat} {a dx : Addr} {x : In} {us : List V} (hn : ρ.o[n]? = some a) (hr : InR T ρ G x (.ins (T.cl x.c) dx (x.ns.zip us))) : Rel T ρ G (upd H a (.ins (T.cl x.c) dx (x.ns.zip us))) (st.seto n x) := by
  obtain ⟨x0, hx0⟩ := r.oat' hn
  obtain ⟨hG, o0, ho0, hr0⟩ := r.oa n a x0 hn hx0
  refine ⟨fun b u e => ?_, r.ll, ?_, fun m b y hm hy => ?_, fun m b y hm hy => ?_, r.nl, r.no, r.tb.upd (fx_in ho0 hr0), r.nt⟩
  · have hb : b ≠ a := fun z => by rw [z, hG] at e; cases e
    rw [upd_ne hb]; exact r.ext b u e
  · show ρ.o.length = (st.o.set n x).length
    rw [List.length_set]; exact r.lo
  · obtain ⟨h1, o', h2, h3⟩ := r.la m b y hm hy
    have hb : b ≠ a := r.apart hm hn
    exact ⟨h1, o', by rw [upd_ne hb]; exact h2, h3⟩
  · by_cases hmn : n = m
    · subst hmn
      rw [hn] at hm; cases hm
      have hy' : (st.o.set n x)[n]? = some y := hy
      rw [List.getElem?_set_self (get_lt hx0)] at hy'; cases hy'
      exact ⟨hG, _, upd_same, hr⟩
    · have hb : b ≠ a := fun z => hmn (nodup_get r.no hn (z ▸ hm))
      have hy' : (st.o.set n x)[m]? = some y := hy
      rw [List.getElem?_set_ne hmn] at hy'
      obtain ⟨h1, o', h2, h3⟩ := r.oa m b y hm hy'
      exact ⟨h1, o', by rw [upd_ne hb]; exact h2, h3⟩
theorem Rel.newO (r : Rel T ρ G H st) {p dx : Addr} {c : Nat} (h : H p = none) : Fr ρ ⟨ρ.l, ρ.o ++ [p]⟩ G G ∧ Rel T ⟨ρ.l, ρ.o ++ [p]⟩ G (upd H p (.ins (T.cl c) dx [])) (st.pusho ⟨c, [], []⟩) := by
  have f : Fr ρ ⟨ρ.l, ρ.o ++ [p]⟩ G G := ⟨le_snoc_o, fun _ _ h => h⟩
  have hG := fresh_G r h
  refine ⟨f, fun b u e => ?_, r.ll, ?_, fun m b y hm hy => ?_, fun m b y hm hy => ?_, r.nl, ?_, r.tb.upd (fx_none h), r.nt⟩
  · rw [upd_ne (ne_of_none e hG)]; exact r.ext b u e
  · show (ρ.o ++ [p]).length = (st.o ++ [_]).length
    rw [List.length_append, List.length_append, r.lo]; rfl
  · obtain ⟨h1, o', h2, h3⟩ := r.la m b y hm hy
    exact ⟨h1, o', by rw [upd_ne (ne_of_none h2 h)]; exact h2, h3⟩
  · have hm0 : (ρ.o ++ [p])[m]? = some b := hm
    have hy0 : (st.o ++ [(⟨c, [], []⟩ : In)])[m]? = some y := hy
    rcases get_snoc hm0 with hm' | ⟨rfl, rfl⟩
    · have hlt := get_lt hm'
      rw [List.getElem?_append_left (by rw [← r.lo]; exact hlt)] at hy0
      obtain ⟨h1, o', h2, h3⟩ := r.oa m b y hm' hy0
      exact ⟨h1, o', by rw [upd_ne (ne_of_none h2 h)]; exact h2, h3.mono f⟩
    · rw [r.lo, List.getElem?_append_right (Nat.le_refl _)] at hy0
      simp at hy0
      subst hy0
      exact ⟨hG, _, upd_same, dx, [], rfl, rfl, rfl⟩
  · exact nodup_snoc r.no fun hm => by
      obtain ⟨n, hn⟩ := List.getElem?_of_mem hm
      exact fresh_o r h hn rfl
theorem Rel.adopt (r : Rel T ρ G H st) {p : Addr} {o : HO} (hG : G p = none) (hH : H p = some o) (hl : ∀ (n : Nat) (a : Addr), ρ.l[n]? = some a → a ≠ p) (ho : ∀ (n : Nat) (a : Addr), ρ.o[n]? = some a → a ≠ p) (hnt : ∀ ps, o ≠ .tbl ps := by first | (intro _ z; cases z; done) | (intro _ z; unfold ItA at z; cases z) | assumption) : Fr ρ ρ G (upd G p o) ∧ Rel T ρ (upd G p o) H st := by
  have f : Fr ρ ρ G (upd G p o) := ⟨(Fr.refl ρ G).le, updG_ex hG⟩
  refine ⟨f, fun b u e => ?_, r.ll, r.lo, fun m b y hm hy => ?_, fun m b y hm hy => ?_, r.nl, r.no, r.tb, nt_upd r.nt hnt⟩
  · by_cases hb : b = p
    · subst hb; rw [upd_same] at e; cases e; exact hH
    · rw [upd_ne hb] at e; exact r.ext b u e
  · obtain ⟨h1, o', h2, h3⟩ := r.la m b y hm hy
    exact ⟨fun hd => by rw [upd_ne (hl m b hm)]; exact h1 hd, o', h2, h3.mono f.ex⟩
  · obtain ⟨h1, o', h2, h3⟩ := r.oa m b y hm hy
    exact ⟨by rw [upd_ne (ho m b hm)]; exact h1, o', h2, h3.mono f⟩
theorem ins_at (r : Rel T ρ G H st) {n : Nat} {x : In} {u : V} (h : SlR T ρ G (.o n) u) (hx : st.o[n]? = some x) : ∃ a dx us, u = .ref a ∧ ρ.o[n]? = some a ∧ G a = none ∧ H a = some (.ins (T.cl x.c) dx (x.ns.zip us)) ∧ x.ns.length = us.length ∧ SlRs T ρ G x.vs us := by
  obtain ⟨a, ha, rfl⟩ := h
  obtain ⟨hG, o, ho, dx, us, rfl, h2, h3⟩ := r.oa n a x ha hx
  exact ⟨a, dx, us, rfl, ha, hG, ho, h2, h3⟩
end
def attrOf (cs : List Nat) (f : Str) : Sl → Store → Res Sl
  | .v (.ins c ns ws), st => if c ∈ cs then (match (ns.zip ws).lookup f with
    | some w => .ok (.v w) st
    | none => .bad) else .bad
  | .o n, st => match st.o[n]? with
    | some y => if y.c ∈ cs then (match (y.ns.zip y.vs).lookup f with
      | some s => .ok s st
      | none => .bad) else .bad
    | none => .bad
  | _, _ => .bad
def mAttr (cs : List Nat) (f : Str) (a : ME) : ME := fun env st => (a env st).bind (attrOf cs f)
section
variable {X : Cx} {cl : Nat → Addr} {Wx : WX} {e o : Expr} {m mo : ME} {pos pos' p apos : Pos} {f x : Str}
theorem ie_attr (cs : List Nat) (h : IE X cl Wx e m) (hc : ∀ c ∈ cs, Cls X.K (cl c) ∧ NoAttr X.K (cl c) f) (hb : attributeBase e f X.env (eval e X.env) = eval e X.env := by rfl) : IE X cl Wx (.Attribute e f pos) (mAttr cs f m) :=
  pe_weak (pe_fld h hb) fun σ H Q ⟨env, ρ, G, st, rel, er, p⟩ => ⟨env, ρ, G, st, rel, er, PostR.bind (R1 := Mz.SlR ⟨X.K, cl⟩) p fun x st1 ρ1 G1 H1 u f1 r1 s1 p1 => by
    unfold attrOf at p1
    split at p1
    · split at p1
      · rename_i hm
        split at p1
        · rename_i w hw
          obtain ⟨c1, c2⟩ := hc _ hm
          have s1' := s1
          unfold Mz.SlR Rep at s1
          obtain ⟨a, dx, vs, rfl, hg, hl, hr⟩ := s1
          obtain ⟨v, hv, rv⟩ := look_reps hr hw
          exact ⟨a, _, dx, _, v, rfl, r1.ext _ _ hg, c1, c2, hv, p1.give r1 rv⟩
        · exact p1.elim
      · exact p1.elim
    · split at p1
      · rename_i y hy
        split at p1
        · rename_i hm
          split at p1
          · rename_i s hs
            obtain ⟨c1, c2⟩ := hc _ hm
            obtain ⟨a, dx, us, rfl, ha, hg, hH, hl, hr⟩ := ins_at r1 s1 hy
            obtain ⟨v, hv, rv⟩ := look_slrs hr hs
            exact ⟨a, _, dx, _, v, rfl, hH, c1, c2, hv, p1.give r1 rv⟩
          · exact p1.elim
        · exact p1.elim
      · exact p1.elim
    · exact p1.elim⟩
def setOf (cs : List Nat) (f : Str) (env : Env) (y : Sl) : Sl → Store → SR
  | .o n, st => match st.o[n]? with
    | some z => if z.c ∈ cs ∧ z.ns.length < 1000 then .nx env (st.seto n ⟨z.c, putK f z.ns, putW f y z.ns z.vs⟩) else .bad
    | none => .bad
  | _, _ => .bad
def mSetA (cs : List Nat) (f : Str) (o e : ME) : MS := fun env st => ofR env (e env st) fun y st1 => ofR env (o env st1) fun x st2 => setOf cs f env y x st2
theorem is_setA (cs : List Nat) (hv : IE X cl Wx e m) (ho : IE X cl Wx o mo) (hc : ∀ c ∈ cs, Cls X.K (cl c) ∧ NoAttr X.K (cl c) f) (hs : swapsWith e (some (.Attribute o f pos')) pos.line X.env = pure false := by rfl) :
    IS X cl Wx (.Assign [.Attribute o f pos'] e pos) (mSetA cs f mo m) :=
  ps_weak (ps_fld ho hv hs) fun D σ H ⟨env, ρ, G, st, rel, er, p⟩ => ⟨env, ρ, G, st, rel, er, PostS.ofR (R := Mz.SlR ⟨X.K, cl⟩) er p fun y st1 ρ1 G1 H1 u f1 r1 s1 p1 =>
    ⟨env, ρ1, G1, st1, r1, er.mono f1, PostS.ofR (R := Mz.SlR ⟨X.K, cl⟩) (er.mono f1) p1 fun x st2 ρ2 G2 H2 v f2 r2 s2 p2 => by
      unfold setOf at p2
      split at p2
      · split at p2
        · rename_i z hz
          split at p2
          · rename_i hm
            obtain ⟨c1, c2⟩ := hc _ hm.1
            obtain ⟨a, dx, us, rfl, ha, hg, hH, hl, hr⟩ := ins_at r2 s2 hz
            refine ⟨a, _, dx, _, rfl, hH, c1, c2, by rw [List.length_zip, hl, Nat.min_self, ← hl]; exact hm.2, ?_⟩
            rw [putF_zip hl]
            have h' := putW_slrs (f := f) (s1.mono f2) (ns := z.ns) hr
            exact p2 ρ2 G2 _ σ (Fr.refl _ _) (Rel.seto (x := ⟨z.c, putK f z.ns, putW f y z.ns z.vs⟩) (us := putW f u z.ns us) r2 ha ⟨dx, _, rfl, putK_len hl, h'⟩) ((er.mono f1).mono f2)
          · exact p2.elim
        · exact p2.elim
      · exact p2.elim⟩⟩
open Classical in
noncomputable def makeR (st : Store) : Res Sl → Res Sl
  | .ok (.v .non) st2 => if st2.o.take st.o.length = st.o then (match st2.o[st.o.length]? with
    | some y => match vals y.vs with
      | some ws => .ok (.v (.ins y.c y.ns ws)) ⟨st2.l.take st.l.length, st.o⟩
      | none => .bad
    | none => .bad) else .bad
  | .ex c ns ws st2 => if st2.o.take st.o.length = st.o then .ex c ns ws ⟨st2.l.take st.l.length, st.o⟩ else .bad
  | _ => .bad
noncomputable def mMake (c : Nat) (F : MF) (a : MA) : ME := fun env st => (a env st).bind fun xs st1 => makeR st1 (F (.o st1.o.length :: xs) (st1.pusho ⟨c, [], []⟩))
theorem make_post {T : Tx} {ρ : Mp} {G H : Hp} {st : Store} {Q : VK} {E : XK} {F : MF} {xs : List Sl} {us : List V} {c : Nat} {x dx : Addr} (r : Rel T ρ G H st) (rs : SlRs T ρ G xs us) (hx : H x = none) (hd : H dx = none) (hn : dx ≠ x)
    (p : PostR T ρ G (Mz.SlR T) (makeR st (F (.o st.o.length :: xs) (st.pusho ⟨c, [], []⟩))) Q E) :
    ∃ ρ', Rel T ρ' G (upd (upd H dx (.own x)) x (.ins (T.cl c) dx [])) (st.pusho ⟨c, [], []⟩) ∧ SlRs T ρ' G (.o st.o.length :: xs) (.ref x :: us) ∧
      PostR T ρ' G (Mz.SlR T) (F (.o st.o.length :: xs) (st.pusho ⟨c, [], []⟩)) (fun v H2 => v = .non ∧ Q (.ref x) H2) E := by
  have r1 := r.junk (o := .own x) hd
  have hx1 : upd H dx (.own x) x = none := by rw [upd_ne (Ne.symm hn)]; exact hx
  obtain ⟨f, r2⟩ := r1.newO (dx := dx) (c := c) hx1
  have hxx : (ρ.o ++ [x])[st.o.length]? = some x := by rw [← r.lo]; simp
  refine ⟨⟨ρ.l, ρ.o ++ [x]⟩, r2, ⟨.ref x, us, rfl, ⟨x, hxx, rfl⟩, rs.mono f⟩, ?_⟩
  revert p
  cases F (.o st.o.length :: xs) (st.pusho ⟨c, [], []⟩) with
  | ok a st2 =>
    intro p ρ2 G2 H2 u f2 rel su
    unfold makeR at p
    split at p
    · rename_i st3 e
      cases e
      unfold Mz.SlR Rep at su
      refine ⟨su, ?_⟩
      split at p
      · rename_i ho
        split at p
        · rename_i y hy
          split at p
          · rename_i ws hw
            have hx2 : ρ2.o[st.o.length]? = some x := f2.le.2 _ _ hxx
            obtain ⟨hG, o', hH, dx', us', rfl, hl, hr⟩ := rel.oa _ _ _ hx2 hy
            obtain ⟨ρ3, f3, r3, _⟩ := Rel.trunc r rel (f.trans f2) ho
            have hl3 : ∀ (n : Nat) (a : Addr), ρ3.l[n]? = some a → a ≠ x := fun n a hn z => by
              obtain ⟨z0, hz0⟩ := r3.lat' hn
              obtain ⟨_, o4, h4, h5⟩ := r3.la n a z0 hn hz0
              rw [z, hH] at h4
              cases h4
              exact lo_ne_ins h5 rfl
            have ho3 : ∀ (n : Nat) (a : Addr), ρ3.o[n]? = some a → a ≠ x := fun n a hn z => by
              obtain ⟨z0, hz0⟩ := r3.oat' hn
              have hz0' : st.o[n]? = some z0 := hz0
              obtain ⟨b, hb⟩ := r.oat hz0'
              have := f3.le.2 n b hb
              rw [hn] at this
              cases this
              exact fresh_o r hx hb z
            obtain ⟨f4, r4⟩ := r3.adopt hG hH hl3 ho3
            refine p ρ3 _ H2 (.ref x) (f3.trans f4) r4 ?_
            unfold Mz.SlR Rep
            exact ⟨x, dx', us', rfl, upd_same, hl, Reps.mono f4.ex _ _ (vals_reps hw hr)⟩
          · exact p.elim
        · exact p.elim
      · exact p.elim
    · rename_i e; cases e
    · exact p.elim
  | ex c' ns ws st2 =>
    intro p ρ2 G2 H2 d f2 rel hd'
    unfold makeR at p
    dsimp only at p
    split at p
    · rename_i ho
      obtain ⟨ρ3, f3, r3, _⟩ := Rel.trunc r rel (f.trans f2) ho
      exact p ρ3 G2 H2 d f3 r3 hd'
    · exact p.elim
  | bad => exact fun p => p.elim
theorem ie_make {F : MF} {k n c : Nat} {fI : Addr} {fd : FuncData} {ps : List Str} {e : Expr} {es : List Expr} {ra : MA} (M : Mk X.K (cl c) fI) (hF : FnOk X.prog X.w X.K X.mg X.base (CXm X.K X.prog X.w) k fI fd ps (spM ⟨X.K, cl⟩ n F)) (hn : Ar F n) (tk : Takes X Wx) (hr : Room (k + 1) X.A) (hg : Gl X x) (hm : X.mg x = some (.ref (cl c))) (hb : Binds X.K fd ps [])
    (ha : IA X cl Wx (e :: es) ra) (hdb : (x == ("__debug__" : Str)) = false := by decide) (he : starEach (e :: es) X.env = (false, eval e X.env) :: starEach es X.env := by rfl) (hpl : (backTo pos (starEach es X.env)).any (·.1) = false := by rfl) :
    IE X cl Wx (.Call (.Name x p) (e :: es) [] pos) (mMake c F ra) := by
  refine ⟨fun pins s σ H Q I h => ?_⟩
  obtain ⟨env, ρ, G, st, rel, er, q⟩ := h
  refine wpAny_Call_Name_kw (ld_glob I hg hm ?_ hdb)
  have h1 : tL ⟨X.K, cl⟩ Wx ra σ H (fun us H1 => ∃ ρ1 G1 st1 xs, Rel ⟨X.K, cl⟩ ρ1 G1 H1 st1 ∧ SlRs ⟨X.K, cl⟩ ρ1 G1 xs us ∧ PostR ⟨X.K, cl⟩ ρ1 G1 (Mz.SlR ⟨X.K, cl⟩) (makeR st1 (F (.o st1.o.length :: xs) (st1.pusho ⟨c, [], []⟩))) Q (fun c d H' => Wx c d σ H')) :=
    ⟨env, ρ, G, st, rel, er, PostR.bind (R1 := SlRs ⟨X.K, cl⟩) q fun xs st1 ρ1 G1 H1 us f1 r1 s1 p1 => ⟨ρ1, G1, st1, xs, r1, s1, p1⟩⟩
  refine PySem.W.callWith_K (h₀ := X.base) I.ok.mod.kin M.kp (thn (ha.run pos pins s σ H _ I h1) ?_) he hpl
  rintro us s1 ⟨vs, H1, I1, rv, ρ1, G1, st1, xs, r1, s1', p1⟩
  refine ⟨I1.kIn, ?_⟩
  have hq : ∀ a dx, H1 a = none → H1 dx = none → dx ≠ a → spM ⟨X.K, cl⟩ n F (.ref a :: vs) (upd (upd H1 dx (.own a)) a (.ins (cl c) dx [])) (fun v H2 => v = .non ∧ Q (.ref a) H2) (fun c d H' => Wx c d σ H') := fun a dx h1 h2 h3 => by
    obtain ⟨ρ', k1, k2, k3⟩ := make_post r1 s1' h1 h2 h3 p1
    refine ⟨ρ', G1, _, _, k1, k2, ?_, k3⟩
    by_cases hz : (Sl.o st1.o.length :: xs).length = n
    · exact hz
    · rw [hn _ _ hz] at k3; exact k3.elim
  have hq' := hq (s1.heap.objs.size + 1) s1.heap.objs.size (I1.hok.fresh (Nat.le_succ _)) (I1.hok.fresh (Nat.le_refl _)) (Nat.ne_of_lt (Nat.lt_succ_self _))
  have I2 := Inv.made (C := cl c) I1
  have r2 : Vals (V.ref (s1.heap.objs.size + 1) :: vs) (Value.ref (s1.heap.objs.size + 1) :: us) := .cons rfl rv
  have hl : (Value.ref (s1.heap.objs.size + 1) :: us).length = ps.length := by rw [← r2.length]; exact hF.len _ _ _ _ hq'
  have hbb := hb _ (Value.ref (s1.heap.objs.size + 1) :: us) I2.kIn (by rw [List.append_nil]; exact hl)
  rw [List.append_nil] at hbb
  refine wpAny_call (make_map (f := fI) I1.kIn M.makes M.init (beq_iff_eq.mp M.fn) (codeAny_mono (hF.run _ X.stack _ _ ⟨Value.ref (s1.heap.objs.size + 1) :: us, []⟩ _ _ _ _ (hr.make (cl c) us [])
    (I2.env0.make (cl c) us []) hbb r2 hq') fun r s' hq2 => ?_))
  cases r with
  | error e => exact passAt tk σ pins _ _ e s' I2 hq2
  | ok fl =>
    cases fl with
    | ret u =>
      obtain ⟨v, H', I3, rv', ev, q3⟩ := I2.after hq2
      subst ev
      exact ⟨rv', ⟨V.ref (s1.heap.objs.size + 1), H', I3, rfl, q3⟩⟩
    | next => exact False.elim hq2
    | brk => exact False.elim hq2
    | cont => exact False.elim hq2
def isOf (c : Nat) (m : Str) (st : Store) : Sl → Bool
  | .v (.ins c' ns ws) => decide (c' = c) && ((ns.zip ws).lookup m).isNone
  | .o n => match st.o[n]? with
    | some y => decide (y.c = c) && ((y.ns.zip y.vs).lookup m).isNone
    | none => false
  | _ => false
theorem isOf_at {T : Tx} {ρ : Mp} {G H : Hp} {st : Store} {c : Nat} {m : Str} {x : Sl} {u : V} (r : Rel T ρ G H st) (h : SlR T ρ G x u) (hi : isOf c m st x = true) : ∃ a dx fs, u = .ref a ∧ H a = some (.ins (T.cl c) dx fs) ∧ fs.lookup m = none := by
  unfold isOf at hi
  split at hi
  · rename_i c' ns ws
    rw [Bool.and_eq_true, decide_eq_true_eq, Option.isNone_iff_eq_none] at hi
    unfold Mz.SlR Rep at h
    obtain ⟨a, dx, vs, rfl, hg, hl, hr⟩ := h
    obtain ⟨rfl, hn⟩ := hi
    exact ⟨a, dx, _, rfl, r.ext _ _ hg, look_none hr.length hn⟩
  · split at hi
    · rename_i n y hy
      rw [Bool.and_eq_true, decide_eq_true_eq, Option.isNone_iff_eq_none] at hi
      obtain ⟨a, dx, us, rfl, ha, hg, hH, hl, hr⟩ := ins_at r h hy
      obtain ⟨e, hn⟩ := hi
      subst e
      exact ⟨a, dx, _, rfl, hH, look_none hr.length hn⟩
    · cases hi
  · cases hi
def mMeth (c : Nat) (m : Str) (F : MF) (o : ME) (a : MA) : ME := fun env st => (o env st).bind fun x st1 => if isOf c m st1 x = true then (a env st1).bind fun xs st2 => F (x :: xs) st2 else .bad
theorem sp_of {T : Tx} {ρ : Mp} {G H : Hp} {st : Store} {F : MF} {n : Nat} {xs : List Sl} {us : List V} {Q : VK} {E : XK} (hn : Ar F n) (r : Rel T ρ G H st) (s : SlRs T ρ G xs us) (p : PostR T ρ G (Mz.SlR T) (F xs st) Q E) : spM T n F us H Q E := by
  refine ⟨ρ, G, st, xs, r, s, ?_, p⟩
  by_cases h : xs.length = n
  · exact h
  · rw [hn xs st h] at p; exact p.elim
theorem ie_meth {F : MF} {k n c : Nat} {g : Addr} {fd : FuncData} {ps : List Str} {mm : Str} {e1 : Expr} {es : List Expr} {ra : MA} {pl : Sem Bool} (ho : IE X cl Wx o mo) (hc : Cls X.K (cl c)) (hmt : Meth X.K (cl c) mm g) (hF : FnOk X.prog X.w X.K X.mg X.base (CXm X.K X.prog X.w) k g fd ps (spM ⟨X.K, cl⟩ n F)) (hn : Ar F n) (tk : Takes X Wx) (hr : Room k X.A) (hb : Binds X.K fd ps [])
    (ha : IA X cl Wx (e1 :: es) ra) (hst : starEach (e1 :: es) X.env = (false, eval e1 X.env) :: starEach es X.env := by rfl) (hpl : (backTo pos (starEach es X.env)).any (·.1) = false := by rfl)
    (ht : eval (.Call (.Attribute o mm apos) (e1 :: es) [] pos) X.env = (do
      let ov ← eval o X.env
      standAt apos.atName
      let (f, first) ← holding [ov] (getMethod ov mm pl)
      callWith pos f first (backTo pos (starEach (e1 :: es) X.env)) (backToKw pos (keywordEach [] X.env))) := by rfl) :
    IE X cl Wx (.Call (.Attribute o mm apos) (e1 :: es) [] pos) (mMeth c mm F mo ra) := by
  refine ⟨fun pins s σ H Q I h => ?_⟩
  obtain ⟨env, ρ, G, st, rel, er, q⟩ := h
  have h1 : tM ⟨X.K, cl⟩ Wx mo σ H (fun u H1 => ∃ ρ1 G1 st1 x, Rel ⟨X.K, cl⟩ ρ1 G1 H1 st1 ∧ EnvR ⟨X.K, cl⟩ ρ1 G1 env σ ∧ Mz.SlR ⟨X.K, cl⟩ ρ1 G1 x u ∧ isOf c mm st1 x = true ∧ PostR ⟨X.K, cl⟩ ρ1 G1 (Mz.SlR ⟨X.K, cl⟩) ((ra env st1).bind fun xs st2 => F (x :: xs) st2) Q (fun c d H' => Wx c d σ H')) :=
    ⟨env, ρ, G, st, rel, er, PostR.bind (R1 := Mz.SlR ⟨X.K, cl⟩) q fun x st1 ρ1 G1 H1 u f1 r1 s1 p1 => by
      split at p1
      · rename_i hi
        exact ⟨ρ1, G1, st1, x, r1, er.mono f1, s1, hi, p1⟩
      · exact p1.elim⟩
  refine PySem.W.methodCall_KW (pl := pl) (thn (ho.run pins s σ H _ I h1) ?_) ht
  rintro u s1 ⟨v, H1, I1, rx, ρ1, G1, st1, x, r1, er1, sx, hi, p1⟩
  obtain ⟨a, dx, fs, rfl, hH, hl⟩ := isOf_at r1 sx hi
  obtain rfl : u = Value.ref a := rx
  refine getmeth_ok I1 hH hc hmt hl ?_
  have h2 : tL ⟨X.K, cl⟩ Wx ra σ H1 (fun us H2 => spM ⟨X.K, cl⟩ n F (.ref a :: us) H2 Q (fun c d H' => Wx c d σ H')) :=
    ⟨env, ρ1, G1, st1, r1, er1, PostR.bind (R1 := SlRs ⟨X.K, cl⟩) p1 fun xs st2 ρ2 G2 H2 us f2 r2 s2 p2 => sp_of (xs := x :: xs) hn r2 ⟨_, us, rfl, sx.mono f2, s2⟩ p2⟩
  refine PySem.W.callWith_K (first := [.ref a]) (h₀ := X.base) I.ok.mod.kin hmt.kp (thn (ha.run pos pins s1 σ H1 _ I1 h2) ?_) hst hpl
  rintro us s2 ⟨vs, H2, I2, r, q2⟩
  refine ⟨I2.kIn, ?_⟩
  exact run_fnS (E := WE Wx) (us := .ref a :: us) (vs := .ref a :: vs) hF hr hb (passAt tk σ) I2 (.cons rfl r) q2
theorem ie_meth0 {F : MF} {k n c : Nat} {g : Addr} {fd : FuncData} {ps : List Str} {mm : Str} {pl : Sem Bool} (ho : IE X cl Wx o mo) (hc : Cls X.K (cl c)) (hmt : Meth X.K (cl c) mm g) (hF : FnOk X.prog X.w X.K X.mg X.base (CXm X.K X.prog X.w) k g fd ps (spM ⟨X.K, cl⟩ n F)) (hn : Ar F n) (tk : Takes X Wx) (hr : Room k X.A) (hb : Binds X.K fd ps [])
    (ht : eval (.Call (.Attribute o mm apos) [] [] pos) X.env = (do
      let ov ← eval o X.env
      standAt apos.atName
      let (f, first) ← holding [ov] (getMethod ov mm pl)
      callWith pos f first (backTo pos (starEach [] X.env)) (backToKw pos (keywordEach [] X.env))) := by rfl) :
    IE X cl Wx (.Call (.Attribute o mm apos) [] [] pos) (mMeth c mm F mo mNil) := by
  refine ⟨fun pins s σ H Q I h => ?_⟩
  obtain ⟨env, ρ, G, st, rel, er, q⟩ := h
  have h1 : tM ⟨X.K, cl⟩ Wx mo σ H (fun u H1 => ∃ a dx fs, u = .ref a ∧ H1 a = some (.ins (cl c) dx fs) ∧ fs.lookup mm = none ∧ spM ⟨X.K, cl⟩ n F [.ref a] H1 Q (fun c d H' => Wx c d σ H')) :=
    ⟨env, ρ, G, st, rel, er, PostR.bind (R1 := Mz.SlR ⟨X.K, cl⟩) q fun x st1 ρ1 G1 H1 u f1 r1 s1 p1 => by
      split at p1
      · rename_i hi
        obtain ⟨a, dx, fs, rfl, hH, hl⟩ := isOf_at r1 s1 hi
        exact ⟨a, dx, fs, rfl, hH, hl, sp_of (xs := [x]) hn r1 ⟨_, [], rfl, s1, rfl⟩ p1⟩
      · exact p1.elim⟩
  refine PySem.W.methodCall_KW (pl := pl) (thn (ho.run pins s σ H _ I h1) ?_) ht
  rintro u s1 ⟨v, H1, I1, rx, a, dx, fs, rfl, hH, hl, q1⟩
  obtain rfl : u = Value.ref a := rx
  refine getmeth_ok I1 hH hc hmt hl ?_
  exact PySem.W.callWith_K0 (first := [.ref a]) I1.kIn hmt.kp (run_fnS (E := WE Wx) (us := [.ref a]) (vs := [.ref a]) hF hr hb (passAt tk σ) I1 (.cons rfl .nil) q1)
end
end Mz
namespace Mz
open PySem PySem.Spec PyProof.Rows L2
structure ClF (K : PySem.W.Frag) (C : Addr) : Prop where
  cl : Cls K C
  ha : PySem.W.findIn K (.ref C) "__class__" = some (some (.builtin "object.__class__"))
  hn : PySem.W.specialIn K (.builtin "object.__class__") "__get__" = some (some (.builtin "getset_descriptor.__get__"))
  htk : PySem.W.takesIn K (.builtin "object.__class__") = some true
  hm : PySem.W.mroIn K C (.type "object") = some true
  sf : PySem.W.selfFirst K C = true
def isCl (c : Nat) (st : Store) : Sl → Bool
  | .v (.ins c' _ _) => decide (c' = c)
  | .o n => match st.o[n]? with
    | some y => decide (y.c = c)
    | none => false
  | _ => false
section
variable {X : Cx} {cl : Nat → Addr} {Wx : WX} {a b e o : Expr} {ma mb me mo : ME} {pos p p2 : Pos} {x : Str}
theorem isCl_at {T : Tx} {ρ : Mp} {G H : Hp} {st : Store} {c : Nat} {x : Sl} {u : V} (r : Rel T ρ G H st) (h : SlR T ρ G x u) (hi : isCl c st x = true) : ∃ a dx fs, u = .ref a ∧ H a = some (.ins (T.cl c) dx fs) := by
  unfold isCl at hi
  split at hi
  · rename_i c' ns ws
    rw [decide_eq_true_eq] at hi
    subst hi
    unfold Mz.SlR Rep at h
    obtain ⟨a, dx, vs, rfl, hg, hl, hr⟩ := h
    exact ⟨a, dx, _, rfl, r.ext _ _ hg⟩
  · split at hi
    · rename_i n y hy
      rw [decide_eq_true_eq] at hi
      obtain ⟨a, dx, us, rfl, ha, hg, hH, hl, hr⟩ := ins_at r h hy
      subst hi
      exact ⟨a, dx, _, rfl, hH⟩
    · cases hi
  · cases hi
def isclOf (ok : List (Nat × Bool)) (tys : List String) (x : Sl) (st : Store) : Res Sl := match x with
  | .v (.ins c _ _) => match ok.lookup c with
    | some b => .ok (.v (.bl b)) st
    | none => .bad
  | .o n => match st.o[n]? with
    | some y => match ok.lookup y.c with
      | some b => .ok (.v (.bl b)) st
      | none => .bad
    | none => .bad
  | x => match tyName st x with
    | some n => if n ∈ tys then .ok (.v (.bl false)) st else .bad
    | none => .bad
def mIsCl (ok : List (Nat × Bool)) (tys : List String) (a : ME) : ME := fun env st => (a env st).bind (isclOf ok tys)
theorem ie_isCl {c : Nat} (ok : List (Nat × Bool)) (tys : List String) (he : IE X cl Wx e me) (hg : Gl X "isinstance") (hm : X.mg "isinstance" = none) (hg2 : Gl X x) (hm2 : X.mg x = some (.ref (cl c))) (h1 : ∀ c' b, ok.lookup c' = some b → ClF X.K (cl c') ∧ PySem.W.kitOne X.K (.ref (cl c')) (.ref (cl c)) = some b) (h2 : ∀ n ∈ tys, PySem.W.kitOne X.K (.type n) (.ref (cl c)) = some false)
    (hv : bootBuiltins "isinstance" = some (.builtin "isinstance") := by decide +kernel) (hd2 : (x == ("__debug__" : Str)) = false := by decide)
    (hs : starEach (e :: [.Name x p2]) X.env = (false, eval e X.env) :: starEach [.Name x p2] X.env := by rfl) (hs2 : starEach [.Name x p2] X.env = (false, eval (.Name x p2) X.env) :: starEach [] X.env := by rfl) (hpl : (backTo pos (starEach [.Name x p2] X.env)).any (·.1) = false := by rfl) :
    IE X cl Wx (.Call (.Name "isinstance" p) [e, .Name x p2] [] pos) (mIsCl ok tys me) :=
  pe_weak (pe_callB call_isi hg hm hv (pa_cons he (pa_cons (pe_glob (v := .ref (cl c)) hg2 hm2 rfl hd2) pa_nil hs2) hs) (by decide) (by decide) hs hpl) fun σ H Q ⟨env, ρ, G, st, rel, er, q⟩ =>
    ⟨env, ρ, G, st, rel, er, PostR.bind (R1 := Mz.SlR ⟨X.K, cl⟩) q fun y st1 ρ1 G1 H1 u f1 r1 s1 p1 => by
      have own : ∀ c' b, isCl c' st1 y = true → ok.lookup c' = some b → PostR ⟨X.K, cl⟩ ρ1 G1 (Mz.SlR ⟨X.K, cl⟩) (.ok (.v (.bl b)) st1) Q (fun c d H' => Wx c d σ H') → ∃ (x c_1 : V) (t u_1 : Value) (b : Bool), [u, .ref (cl c)] = [x, c_1] ∧ ClsV c_1 u_1 ∧ TyX X.K H1 x t ∧ PySem.W.kitOne X.K t u_1 = some b ∧ Q (.bl b) H1 := fun c' b hi hb p => by
        obtain ⟨a, dx, fs, rfl, hH⟩ := isCl_at r1 s1 hi
        obtain ⟨F, hk⟩ := h1 c' b hb
        exact ⟨_, _, _, _, b, rfl, .own (cl c), .base (.ins hH F.cl F.ha F.hn F.htk F.hm), hk, pg p r1 rep_bl⟩
      unfold isclOf at p1
      split at p1
      · split at p1
        · rename_i c' _ _ _ b hb
          exact own c' b (by unfold isCl; simp) hb p1
        · exact p1.elim
      · split at p1
        · rename_i n y hy
          split at p1
          · rename_i b hb
            exact own y.c b (by unfold isCl; dsimp only; rw [hy]; simp) hb p1
          · exact p1.elim
        · exact p1.elim
      · split at p1
        · rename_i n hn
          split at p1
          · rename_i hmem
            obtain ⟨t', h3, rfl⟩ := tyName_at r1 s1 hn
            exact ⟨u, _, _, _, false, rfl, .own (cl c), h3, h2 _ hmem, pg p1 r1 rep_bl⟩
          · exact p1.elim
        · exact p1.elim⟩
def OpM (X : Cx) (cl : Nat → Addr) (Wx : WX) (f : Value → Value → Sem Value) (g : Op2) : Prop :=
  ∀ (pins : List (Addr × Obj)) (s : Shared) (σ : L2.St) (H : Hp) (x y : V) (v u : Value) (Q : VK) (ρ : Mp) (G : Hp) (st : Store) (sx sy : Sl), Inv X pins σ H s → L2.RelV x v → L2.RelV y u →
    Rel ⟨X.K, cl⟩ ρ G H st → Mz.SlR ⟨X.K, cl⟩ ρ G sx x → Mz.SlR ⟨X.K, cl⟩ ρ G sy y → PostR ⟨X.K, cl⟩ ρ G (Mz.SlR ⟨X.K, cl⟩) (g sx sy st) Q (fun c d H' => Wx c d σ H') →
    wpAny (model X.prog X.w) X.A (f v u) (EP X pins σ Q) X.xe s
theorem opm_std {f : Value → Value → Sem Value} {r : R2} {g : Op2} (ho : OpR X f r) (hs : OpS ⟨X.K, cl⟩ r g) : OpM X cl Wx f g :=
  fun pins s σ H x y v u Q ρ G st sx sy I rx ry rel hx hy p => ho pins s σ H x y v u Q I rx ry (hs ρ G H st sx sy x y Q _ rel hx hy p)
theorem opm_or {f : Value → Value → Sem Value} {g1 g2 : Op2} (q : Sl → Sl → Store → Bool) (h1 : OpM X cl Wx f g1) (h2 : OpM X cl Wx f g2) : OpM X cl Wx f (fun x y st => if q x y st = true then g1 x y st else g2 x y st) :=
  fun pins s σ H x y v u Q ρ G st sx sy I rx ry rel hx hy p => by
    dsimp only at p
    split at p
    · exact h1 pins s σ H x y v u Q ρ G st sx sy I rx ry rel hx hy p
    · exact h2 pins s σ H x y v u Q ρ G st sx sy I rx ry rel hx hy p
theorem ops_run {ma mb : ME} {g : Op2} {f : Value → Value → Sem Value} (hf : OpM X cl Wx f g) (ha : IE X cl Wx a ma) (hb : IE X cl Wx b mb) {pins : List (Addr × Obj)} {s : Shared} {σ : L2.St} {H : Hp} {Q : VK} (I : Inv X pins σ H s) (h : tM ⟨X.K, cl⟩ Wx (mOp g ma mb) σ H Q) :
    wpAny (model X.prog X.w) X.A (eval a X.env) (fun v s₁ => wpAny (model X.prog X.w) X.A (eval b X.env) (fun u s₂ => wpAny (model X.prog X.w) X.A (f v u) (EP X pins σ Q) X.xe s₂) X.xe s₁) X.xe s := by
  obtain ⟨env, ρ, G, st, rel, er, q⟩ := h
  refine binT (R := fun x y H2 => ∃ ρ2 G2 st2 sx sy, Rel ⟨X.K, cl⟩ ρ2 G2 H2 st2 ∧ Mz.SlR ⟨X.K, cl⟩ ρ2 G2 sx x ∧ Mz.SlR ⟨X.K, cl⟩ ρ2 G2 sy y ∧ PostR ⟨X.K, cl⟩ ρ2 G2 (Mz.SlR ⟨X.K, cl⟩) (g sx sy st2) Q (fun c d H' => Wx c d σ H')) ha hb I
    ⟨env, ρ, G, st, rel, er, PostR.bind (R1 := Mz.SlR ⟨X.K, cl⟩) q fun x st1 ρ1 G1 H1 u f1 r1 s1 p1 => ⟨env, ρ1, G1, st1, r1, er.mono f1, PostR.bind (R1 := Mz.SlR ⟨X.K, cl⟩) p1 fun y st2 ρ2 G2 H2 v f2 r2 s2 p2 => ⟨ρ2, G2, st2, x, y, r2, s1.mono f2, s2, p2⟩⟩⟩ ?_
  rintro v u s2 x y H2 I2 rx ry ⟨ρ2, G2, st2, sx, sy, r2, hx, hy, p2⟩
  exact hf pins s2 σ H2 x y v u Q ρ2 G2 st2 sx sy I2 rx ry r2 hx hy p2
theorem ie_opM {op : Operator} {g : Op2} (hf : OpM X cl Wx (binaryOp op) g) (ha : IE X cl Wx a ma) (hb : IE X cl Wx b mb) : IE X cl Wx (.BinOp a op b pos) (mOp g ma mb) :=
  ⟨fun pins s σ H Q I h => wpAny_BinOp (ops_run hf ha hb I h)⟩
theorem ie_cmpM {op : CmpOp} {g : Op2} (hf : OpM X cl Wx (compareOp op) g) (ha : IE X cl Wx a ma) (hb : IE X cl Wx b mb) (hm : behindInMarks op b = false) : IE X cl Wx (.Compare a [op] [b] pos) (mOp g ma mb) :=
  ⟨fun pins s σ H Q I h => wpAny_Compare1 (ops_run hf ha hb I h) hm⟩
theorem it_cmpM {op : CmpOp} {g : Op2} (hf : OpM X cl Wx (compareOp op) g) (ha : IE X cl Wx a ma) (hb : IE X cl Wx b mb) (hm : behindInMarks op b = false) : IT X cl Wx (.Compare a [op] [b] pos) (mTest (mOp g ma mb)) := by
  refine ⟨fun pins s σ H Q I h => ?_⟩
  obtain ⟨env, ρ, G, st, rel, er, q⟩ := h
  have h' : tM ⟨X.K, cl⟩ Wx (mOp g ma mb) σ H (fun x H' => ∃ k, x = .bl k ∧ Q k H') := ⟨env, ρ, G, st, rel, er, PostR.bind (R1 := Mz.SlR ⟨X.K, cl⟩) q fun x st1 ρ1 G1 H1 u f1 r1 s1 p1 => by
    obtain ⟨k, h1, h2⟩ := PostR.tru (k := fun b st => .ok b st) (by
      have e : ((Mz.tru x st1).bind fun b st => Res.ok b st) = Mz.tru x st1 := by cases Mz.tru x st1 <;> rfl
      rw [e]; exact p1) s1
    exact ⟨k, h1, h2.give r1 rfl⟩⟩
  refine wpAny_isTrue_Compare1 (thn (ops_run hf ha hb I h') fun v s1 h1 => thn h1 fun u s2 h2 => thn h2 fun c s3 ⟨z, H3, I3, r3, k, e, q3⟩ => ?_) hm
  subst e
  cases r3
  exact wpAny_truthy_bool ⟨H3, I3, q3⟩
theorem cmp_back {pins : List (Addr × Obj)} {σ : L2.St} {Q : VK} {v : Value} {s : Shared} (h : EP X pins σ Q v s) : PySem.W.CmpBack (EP X pins σ Q) v s := by
  obtain ⟨x, H, I, r, q⟩ := h
  have h2 : EP X pins σ Q v s := ⟨x, H, I, r, q⟩
  cases x <;> first | (obtain ⟨t, rfl⟩ := (show ∃ t, v = _ from r); exact h2) | (cases (show v = _ from r); exact h2)
def opOwn (c : Nat) (F : MF) : Op2 := fun x y st => if isCl c st x = true ∧ isCl c st y = true then F [x, y] st else .bad
def opOwnT (c : Nat) (t : String) (F : MF) : Op2 := fun x y st => if isCl c st x = true ∧ tyName st y = some t then F [x, y] st else .bad
theorem own_call {F : MF} {k : Nat} {g : Addr} {fd : FuncData} {ps : List Str} {pins : List (Addr × Obj)} {s : Shared} {σ : L2.St} {H : Hp} {y : V} {u : Value} {Q : VK} {ρ : Mp} {G : Hp} {st : Store} {sx sy : Sl} {a : Addr}
    (hF : FnOk X.prog X.w X.K X.mg X.base (CXm X.K X.prog X.w) k g fd ps (spM ⟨X.K, cl⟩ 2 F)) (tk : Takes X Wx) (hr : Room k X.A) (hb : Binds X.K fd ps []) (I : Inv X pins σ H s) (ry : L2.RelV y u)
    (rel : Rel ⟨X.K, cl⟩ ρ G H st) (hx : Mz.SlR ⟨X.K, cl⟩ ρ G sx (.ref a)) (hy : Mz.SlR ⟨X.K, cl⟩ ρ G sy y) (p : PostR ⟨X.K, cl⟩ ρ G (Mz.SlR ⟨X.K, cl⟩) (F [sx, sy] st) Q (fun c d H' => Wx c d σ H')) :
    wpAny (model X.prog X.w) X.A (call (.ref g) [.ref a, u]) (EP X pins σ Q) X.xe s :=
  run_fnS (E := WE Wx) (us := [.ref a, u]) (vs := [.ref a, y]) hF hr hb (passAt tk σ) I (.cons rfl (.cons ry .nil)) ⟨ρ, G, st, [sx, sy], rel, ⟨_, _, rfl, hx, _, _, rfl, hy, rfl⟩, rfl, p⟩
theorem opm_own {op : Operator} {F : MF} {k c : Nat} {g : Addr} {fd : FuncData} {ps : List Str} (C : ClF X.K (cl c)) (hs : PySem.W.findIn X.K (.ref (cl c)) (PySem.dunder op.info.2) = some (some (.ref g))) (hf : PySem.W.isFn X.K (.ref g) = true)
    (hF : FnOk X.prog X.w X.K X.mg X.base (CXm X.K X.prog X.w) k g fd ps (spM ⟨X.K, cl⟩ 2 F)) (tk : Takes X Wx) (hr : Room k X.A) (hb : Binds X.K fd ps []) : OpM X cl Wx (binaryOp op) (opOwn c F) :=
  fun pins s σ H x y v u Q ρ G st sx sy I rx ry rel hx hy p => by
    unfold opOwn at p
    split at p
    · rename_i hi
      obtain ⟨a, dx, fs, rfl, hH⟩ := isCl_at rel hx hi.1
      obtain ⟨a2, dx2, fs2, rfl, hH2⟩ := isCl_at rel hy hi.2
      cases rx
      cases ry
      obtain ⟨mA, J, _⟩ := ins_get I.hok hH
      obtain ⟨mB, J', _⟩ := ins_get I.hok hH2
      obtain ⟨od, J, _⟩ := J.look
      obtain ⟨od', J', _⟩ := J'.look
      obtain ⟨m, hFr⟩ := I.fr
      exact PySem.W.binop_K hFr I.ok.mod.kin J J'.type C.sf hs hf (wpAny_mono (own_call hF tk hr hb I (y := .ref a2) rfl rel hx hy p) (fun _ _ h => cmp_back h) fun _ _ h => h)
    · exact p.elim
theorem ty_of {T : Tx} {ρ : Mp} {G : Hp} {st : Store} {t : String} {sy : Sl} {y : V} {u : Value} (h : tyName st sy = some t) (ht : t = "int" ∨ t = "bool" ∨ t = "str" ∨ t = "NoneType") (hy : Mz.SlR T ρ G sy y) (ry : L2.RelV y u) : typeOf u = pure (.type t) := by
  cases sy with
  | v w =>
    cases w <;> first
      | (unfold Mz.SlR Rep at hy; subst hy; cases h; first | (obtain ⟨t, rfl⟩ := ry; rfl) | (cases (show u = _ from ry); rfl))
      | (cases h; rcases ht with h | h | h | h <;> exact absurd h (by decide))
      | cases h
  | l n =>
    unfold tyName at h
    dsimp only at h
    split at h
    · cases h; rcases ht with h | h | h | h <;> exact absurd h (by decide)
    · cases h; rcases ht with h | h | h | h <;> exact absurd h (by decide)
    · cases h
  | o n => cases h
  | t ns => cases h; rcases ht with z | z | z | z <;> exact absurd z (by decide)
  | q k y => cases h
  | z k y => cases h; rcases ht with z | z | z | z <;> exact absurd z (by decide)
theorem opm_ownT {op : Operator} {F : MF} {k c : Nat} {g : Addr} {fd : FuncData} {ps : List Str} {t : String} {fo ro rc : Option Value} (C : ClF X.K (cl c)) (ht : t = "int" ∨ t = "bool" ∨ t = "str" ∨ t = "NoneType") (hs : PySem.W.findIn X.K (.ref (cl c)) (PySem.dunder op.info.2) = some (some (.ref g))) (hf : PySem.W.isFn X.K (.ref g) = true)
    (hr1 : PySem.W.findIn X.K (.ref (cl c)) (dunderR op.info.2) = some rc) (hp : rc = none ∨ ∃ g : Addr, rc = some (.ref g)) (h1 : PySem.W.findIn X.K (.type t) (PySem.dunder op.info.2) = some fo) (h2 : PySem.W.findIn X.K (.type t) (dunderR op.info.2) = some ro) (hsub : PySem.W.subIn X.K (.type t) (.ref (cl c)) = some false)
    (hF : FnOk X.prog X.w X.K X.mg X.base (CXm X.K X.prog X.w) k g fd ps (spM ⟨X.K, cl⟩ 2 F)) (tk : Takes X Wx) (hr : Room k X.A) (hb : Binds X.K fd ps []) : OpM X cl Wx (binaryOp op) (opOwnT c t F) :=
  fun pins s σ H x y v u Q ρ G st sx sy I rx ry rel hx hy p => by
    unfold opOwnT at p
    split at p
    · rename_i hi
      obtain ⟨a, dx, fs, rfl, hH⟩ := isCl_at rel hx hi.1
      cases rx
      obtain ⟨mA, J, _⟩ := ins_get I.hok hH
      obtain ⟨od, J, _⟩ := J.look
      obtain ⟨m, hFr⟩ := I.fr
      exact PySem.W.ksp_binT hFr I.ok.mod.kin J (ty_of hi.2 ht hy ry) C.sf hs hf hr1 hp h1 h2 hsub (wpAny_mono (own_call hF tk hr hb I ry rel hx hy p) (fun _ _ h => cmp_back h) fun _ _ h => h)
    · exact p.elim
theorem is_bad {t : Stmt} : IS X cl Wx t (fun _ _ => .bad) := ⟨fun pins s σ H D I h => by obtain ⟨env, ρ, G, st, rel, er, p⟩ := h; exact p.elim⟩
end
end Mz
namespace Mz
open PySem PySem.Spec PyProof.Rows L2
theorem al_nil {P : Nat → Prop} : ∀ c ∈ ([] : List Nat), P c := fun _ h => by cases h
theorem al_cons {P : Nat → Prop} {a : Nat} {l : List Nat} (h : P a) (t : ∀ c ∈ l, P c) : ∀ c ∈ a :: l, P c := fun c hc => by
  rcases List.mem_cons.mp hc with rfl | hc
  · exact h
  · exact t c hc
theorem at_nil {P : String → Prop} : ∀ c ∈ ([] : List String), P c := fun _ h => by cases h
theorem at_cons {P : String → Prop} {a : String} {l : List String} (h : P a) (t : ∀ c ∈ l, P c) : ∀ c ∈ a :: l, P c := fun c hc => by
  rcases List.mem_cons.mp hc with rfl | hc
  · exact h
  · exact t c hc
theorem lk_nil {P : Nat → Bool → Prop} : ∀ c b, ([] : List (Nat × Bool)).lookup c = some b → P c b := fun _ _ h => by cases h
theorem lk_cons {P : Nat → Bool → Prop} {k : Nat} {v : Bool} {l : List (Nat × Bool)} (h : P k v) (t : ∀ c b, l.lookup c = some b → P c b) : ∀ c b, ((k, v) :: l).lookup c = some b → P c b := fun c b e => by
  rw [List.lookup_cons] at e
  cases hb : (c == k) with
  | true => rw [hb] at e; cases e; cases beq_iff_eq.mp hb; exact h
  | false => rw [hb] at e; exact t c b e
def kAttr (cs : List Nat) (f : Str) (r : Res Sl) : Res Sl := r.bind (attrOf cs f)
theorem e_attr {cs : List Nat} {f : Str} {a : ME} {env : Env} {st : Store} : mAttr cs f a env st = kAttr cs f (a env st) := rfl
theorem k_attr {cs : List Nat} {f : Str} {x : Sl} {st : Store} : kAttr cs f (.ok x st) = attrOf cs f x st := rfl
def kSetA1 (cs : List Nat) (f : Str) (o : ME) (env : Env) (r : Res Sl) : SR := ofR env r fun y st1 => ofR env (o env st1) fun x st2 => setOf cs f env y x st2
def kSetA2 (cs : List Nat) (f : Str) (env : Env) (y : Sl) (r : Res Sl) : SR := ofR env r fun x st2 => setOf cs f env y x st2
theorem e_setA {cs : List Nat} {f : Str} {o e : ME} {env : Env} {st : Store} : mSetA cs f o e env st = kSetA1 cs f o env (e env st) := rfl
theorem k_setA1 {cs : List Nat} {f : Str} {o : ME} {env : Env} {y : Sl} {st : Store} : kSetA1 cs f o env (.ok y st) = kSetA2 cs f env y (o env st) := rfl
theorem k_setA2 {cs : List Nat} {f : Str} {env : Env} {x y : Sl} {st : Store} : kSetA2 cs f env y (.ok x st) = setOf cs f env y x st := rfl
noncomputable def kMake (c : Nat) (F : MF) (r : Res (List Sl)) : Res Sl := r.bind fun xs st1 => makeR st1 (F (.o st1.o.length :: xs) (st1.pusho ⟨c, [], []⟩))
theorem e_make {c : Nat} {F : MF} {a : MA} {env : Env} {st : Store} : mMake c F a env st = kMake c F (a env st) := rfl
theorem k_make {c : Nat} {F : MF} {xs : List Sl} {st : Store} : kMake c F (.ok xs st) = makeR st (F (.o st.o.length :: xs) (st.pusho ⟨c, [], []⟩)) := rfl
def kMeth1 (c : Nat) (m : Str) (F : MF) (a : MA) (env : Env) (r : Res Sl) : Res Sl := r.bind fun x st1 => if isOf c m st1 x = true then (a env st1).bind fun xs st2 => F (x :: xs) st2 else .bad
def kMeth2 (F : MF) (x : Sl) (r : Res (List Sl)) : Res Sl := r.bind fun xs st2 => F (x :: xs) st2
def kMethB (b : Bool) (F : MF) (x : Sl) (a : MA) (env : Env) (st : Store) : Res Sl := if b = true then kMeth2 F x (a env st) else .bad
theorem e_meth {c : Nat} {m : Str} {F : MF} {o : ME} {a : MA} {env : Env} {st : Store} : mMeth c m F o a env st = kMeth1 c m F a env (o env st) := rfl
theorem k_meth1 {c : Nat} {m : Str} {F : MF} {a : MA} {env : Env} {x : Sl} {st : Store} : kMeth1 c m F a env (.ok x st) = kMethB (isOf c m st x) F x a env st := rfl
theorem k_methB {F : MF} {x : Sl} {a : MA} {env : Env} {st : Store} : kMethB true F x a env st = kMeth2 F x (a env st) := rfl
theorem k_meth2 {F : MF} {x : Sl} {xs : List Sl} {st : Store} : kMeth2 F x (.ok xs st) = F (x :: xs) st := rfl
def kIsCl (ok : List (Nat × Bool)) (tys : List String) (r : Res Sl) : Res Sl := r.bind (isclOf ok tys)
theorem e_isCl {ok : List (Nat × Bool)} {tys : List String} {a : ME} {env : Env} {st : Store} : mIsCl ok tys a env st = kIsCl ok tys (a env st) := rfl
theorem k_isCl {ok : List (Nat × Bool)} {tys : List String} {x : Sl} {st : Store} : kIsCl ok tys (.ok x st) = isclOf ok tys x st := rfl
end Mz

set_option Elab.async false
set_option linter.all false
set_option maxRecDepth 100000
set_option maxHeartbeats 4000000
namespace Mz
open PySem L2
theorem attr_o {cs : List Nat} {f : Str} {n : Nat} {st : Store} {y : In} {s : Sl} (h : st.o[n]? = some y) (hc : y.c ∈ cs) (hs : (y.ns.zip y.vs).lookup f = some s) : attrOf cs f (.o n) st = .ok s st := by
  unfold attrOf
  dsimp only
  rw [h]
  dsimp only
  rw [if_pos hc, hs]
theorem kit_self {K : PySem.W.Frag} {C : Addr} : PySem.W.kitOne K (.ref C) (.ref C) = some true := by unfold PySem.W.kitOne; simp
theorem kit_sub {K : PySem.W.Frag} {C : Addr} {t : Value} {b : Bool} (ne : (t == Value.ref C) = false) (hd : PySem.W.hasDictIn K C = true) (ty : PySem.W.typeIn K (.ref C) = some (.type "type")) (s : PySem.W.subIn K t (.ref C) = some b) : PySem.W.kitOne K t (.ref C) = some b := by
  obtain ⟨cd, h1, _⟩ := PySem.W.any_some hd
  unfold PySem.W.kitOne PySem.W.kitCls
  rw [if_neg (by rw [ne]; exact Bool.false_ne_true)]
  dsimp only
  rw [if_pos (by rw [h1, ty]; simp), s]
theorem ty_ne {T : String} {C : Addr} : (Value.type T == Value.ref C) = false := Bool.eq_false_iff.mpr fun q => by cases beq_iff_eq.mp q
def atZ (xs : List Int) (i : Int) : Int := xs.getD i.toNat 0
theorem atZ_nn {xs : List Int} (h : ∀ i ∈ xs, 0 ≤ i) {i : Int} : 0 ≤ atZ xs i := by
  unfold atZ
  rw [List.getD_eq_getElem?_getD]
  by_cases hl : i.toNat < xs.length
  · rw [List.getElem?_eq_getElem hl]; exact h _ (List.getElem_mem hl)
  · rw [List.getElem?_eq_none (by omega)]; exact Int.le_refl 0
end Mz

set_option Elab.async false
set_option linter.all false
set_option maxRecDepth 100000
set_option maxHeartbeats 4000000
namespace Mz
open PySem PySem.Spec PyProof.Rows L2
def mRaise (c : Nat) : MS := fun env st => .ex c [] [] env st
section
variable {X : Cx} {cl : Nat → Addr} {Wx : WX} {x : Str} {pos pos' p p2 np : Pos} {mb ms : MS}
theorem is_raise {c : Nat} {bmB : List Value} {B newId initId : String} {m : Str} {j : Nat} (F : ExcBaseFacts B newId initId bmB) (q : PySem.W.excIn X.K (cl c) bmB newId = true) (gC : X.mg x = some (.ref (cl c))) (kC : PySem.W.keepIn X.K (.ref (cl c)) = true) (r : Raises X (.ref (cl c))) (hg : Gl X x)
    (hc : X.calm = true) (tk : Takes X Wx) (hdb : (x == ("__debug__" : Str)) = false := by decide) : IS X cl Wx (.Raise (some (.Call (.Name x p) [.Constant (.str m) j p2] [] pos)) none pos') (mRaise c) :=
  ps_weak (L2N.ps_raise hc tk.n (L2N.pmk_own F q gC kC r hg hdb)) fun D σ H ⟨env, ρ, G, st, rel, er, h⟩ => h ρ G H σ none (Fr.refl _ _) rel er (.inl ⟨rfl, rfl, rfl⟩)
end
theorem e_raise {c : Nat} {env : Env} {st : Store} : mRaise c env st = .ex c [] [] env st := rfl
end Mz

set_option Elab.async false
set_option linter.all false
set_option maxRecDepth 100000
set_option maxHeartbeats 4000000
namespace Mz
open PySem PySem.Spec PyProof.Rows L2
def noEx : Res Sl → Res Sl
  | .ex _ _ _ _ => .bad
  | r => r
def mProp (c : Nat) (F : MF) (a : ME) : ME := fun env st => (a env st).bind fun x st1 => if isCl c st1 x = true then noEx (F [x] st1) else .bad
theorem noEx_post {T : Tx} {ρ : Mp} {G : Hp} {r : Res Sl} {Q : VK} {E E' : XK} (h : PostR T ρ G (Mz.SlR T) (noEx r) Q E) : PostR T ρ G (Mz.SlR T) r Q E' := by
  cases r with
  | ok a st => exact h
  | ex c ns ws st => exact h.elim
  | bad => exact h
section
variable {X : Cx} {cl : Nat → Addr} {Wx : WX} {e a b o : Expr} {m ma mb : ME} {pos p apos : Pos} {f x : Str}
theorem ie_prop {F : MF} {k c : Nat} {g pr : Addr} {fd : FuncData} {ps : List Str} (he : IE X cl Wx e m) (C : ClF X.K (cl c)) (hp : PropOf X.K (cl c) f pr g) (hF : FnOk X.prog X.w X.K X.mg X.base (CXm X.K X.prog X.w) k g fd ps (spM ⟨X.K, cl⟩ 1 F)) (hr : Room (k + 1) X.A) (hb : Binds X.K fd ps []) (hab : attributeBase e f X.env (eval e X.env) = eval e X.env := by rfl) :
    IE X cl Wx (.Attribute e f pos) (mProp c F m) :=
  pe_weak (pe_prop (E := fun _ _ _ => False) (dvs := []) (ds := []) he C.cl hp hF hr hb .nil (fun pins σ H s u s' I hc => by
    exact (noCXm hc).elim) hab) fun σ H Q ⟨env, ρ, G, st, rel, er, p⟩ => ⟨env, ρ, G, st, rel, er, PostR.bind (R1 := Mz.SlR ⟨X.K, cl⟩) p fun y st1 ρ1 G1 H1 u f1 r1 s1 p1 => by
      split at p1
      · rename_i hi
        obtain ⟨a, dx, fs, rfl, hH⟩ := isCl_at r1 s1 hi
        exact ⟨a, dx, fs, rfl, hH, ρ1, G1, st1, [y], r1, ⟨_, [], rfl, s1, rfl⟩, rfl, noEx_post p1⟩
      · exact p1.elim⟩
def CaM (X : Cx) (cl : Nat → Addr) (Wx : WX) (f : Value) (g : MF) : Prop :=
  ∀ (pins : List (Addr × Obj)) (s : Shared) (σ : L2.St) (H : Hp) (xs : List V) (us : List Value) (Q : VK) (ρ : Mp) (G : Hp) (st : Store) (ss : List Sl), Inv X pins σ H s → Vals xs us →
    Rel ⟨X.K, cl⟩ ρ G H st → SlRs ⟨X.K, cl⟩ ρ G ss xs → PostR ⟨X.K, cl⟩ ρ G (Mz.SlR ⟨X.K, cl⟩) (g ss st) Q (fun c d H' => Wx c d σ H') →
    wpAny (model X.prog X.w) X.A (call f us) (EP X pins σ Q) X.xe s
theorem cam_std {f : Value} {r : List V → Hp → VK → Prop} {g : MF} (hc : CallR X f r) (hs : CaS ⟨X.K, cl⟩ r g) : CaM X cl Wx f g :=
  fun pins s σ H xs us Q ρ G st ss I rv rel hss p => hc pins s σ H xs us Q I rv (hs ρ G H st ss xs Q _ rel hss p)
theorem cam_or {f : Value} {g1 g2 : MF} (q : List Sl → Store → Bool) (h1 : CaM X cl Wx f g1) (h2 : CaM X cl Wx f g2) : CaM X cl Wx f (fun xs st => if q xs st = true then g1 xs st else g2 xs st) :=
  fun pins s σ H xs us Q ρ G st ss I rv rel hss p => by
    dsimp only at p
    split at p
    · exact h1 pins s σ H xs us Q ρ G st ss I rv rel hss p
    · exact h2 pins s σ H xs us Q ρ G st ss I rv rel hss p
theorem ie_callBM {id : String} {F : MF} {es : List Expr} {ra : MA} (hc : CaM X cl Wx (.builtin id) F) (hg : Gl X x) (hm : X.mg x = none) (hv : bootBuiltins x = some (.builtin id)) (ha : IA X cl Wx (e :: es) ra) (hn : x ≠ "__name__" := by decide) (hdb : (x == ("__debug__" : Str)) = false := by decide)
    (he : starEach (e :: es) X.env = (false, eval e X.env) :: starEach es X.env := by rfl) (hpl : (backTo pos (starEach es X.env)).any (·.1) = false := by rfl) : IE X cl Wx (.Call (.Name x p) (e :: es) [] pos) (mCall F ra) := by
  refine ⟨fun pins s σ H Q I h => ?_⟩
  obtain ⟨env, ρ, G, st, rel, er, q⟩ := h
  refine wpAny_Call_Name_kw (ld_blt I hg hm hv ?_ hn hdb)
  have h1 : tL ⟨X.K, cl⟩ Wx ra σ H (fun us H1 => ∃ ρ1 G1 st1 xs, Rel ⟨X.K, cl⟩ ρ1 G1 H1 st1 ∧ SlRs ⟨X.K, cl⟩ ρ1 G1 xs us ∧ PostR ⟨X.K, cl⟩ ρ1 G1 (Mz.SlR ⟨X.K, cl⟩) (F xs st1) Q (fun c d H' => Wx c d σ H')) :=
    ⟨env, ρ, G, st, rel, er, PostR.bind (R1 := SlRs ⟨X.K, cl⟩) q fun xs st1 ρ1 G1 H1 us f1 r1 s1 p1 => ⟨ρ1, G1, st1, xs, r1, s1, p1⟩⟩
  refine PyProof.Rows.callWith_builtin1 (thn (ha.run pos pins s σ H _ I h1) ?_) he hpl
  rintro us s1 ⟨vs, H1, I1, rv, ρ1, G1, st1, xs, r1, hs, p1⟩
  exact hc pins s1 σ H1 vs us Q ρ1 G1 st1 xs I1 rv r1 hs p1
def lenBk : Res Sl → Res Sl
  | .ok (.v (.int i)) st1 => if 0 ≤ i ∧ i < 2 ^ 62 then .ok (.v (.int i)) st1 else .bad
  | _ => .bad
def lenOwn (c : Nat) (F : MF) : MF := fun xs st => match xs with
  | [x] => if isCl c st x = true then lenBk (F [x] st) else .bad
  | _ => .bad
theorem cam_len {F : MF} {k c : Nat} {g : Addr} {fd : FuncData} {ps : List Str} (hs : PySem.W.findIn X.K (.ref (cl c)) "__len__" = some (some (.ref g))) (hf : PySem.W.isFn X.K (.ref g) = true)
    (hF : FnOk X.prog X.w X.K X.mg X.base (CXm X.K X.prog X.w) k g fd ps (spM ⟨X.K, cl⟩ 1 F)) (hr : Room (k + 1) X.A) (hb : Binds X.K fd ps []) : CaM X cl Wx (.builtin "len") (lenOwn c F) :=
  fun pins s σ H xs us Q ρ G st ss I rv rel hss p => by
    unfold lenOwn at p
    split at p
    · rename_i y
      obtain ⟨u, rfl, hy⟩ := slrs1 hss
      split at p
      · rename_i hi
        obtain ⟨a, dx, fs, rfl, hH⟩ := isCl_at rel hy hi
        cases rv with
        | cons r rr =>
          cases rr
          cases r
          obtain ⟨mA, J, _⟩ := ins_get I.hok hH
          obtain ⟨od, J, _⟩ := J.look
          obtain ⟨m, hFr⟩ := I.fr
          have sp : spM ⟨X.K, cl⟩ 1 F [.ref a] H (fun v H2 => ∃ i : Int, v = .int i ∧ 0 ≤ i ∧ i < 2 ^ 62 ∧ Q (.int i) H2) (fun _ _ _ => False) := by
            refine ⟨ρ, G, st, [y], rel, ⟨_, [], rfl, hy, rfl⟩, rfl, ?_⟩
            revert p
            cases F [y] st with
            | ok s1 st1 =>
              intro p ρ2 G2 H2 v f2 r2 hv
              unfold lenBk at p
              split at p
              · rename_i i st2 e
                cases e
                split at p
                · rename_i hi2
                  unfold Mz.SlR Rep at hv
                  subst hv
                  exact ⟨i, rfl, hi2.1, hi2.2, p ρ2 G2 H2 _ f2 r2 (by unfold Mz.SlR Rep; rfl)⟩
                · exact p.elim
              · exact p.elim
            | ex c ns ws st1 => exact fun p => p.elim
            | bad => exact fun p => p.elim
          have hl : ([Value.ref a]).length = ps.length := hF.len [.ref a] _ _ _ sp
          have bb := hb s [.ref a] I.kIn (by rw [List.append_nil]; exact hl)
          rw [List.append_nil] at bb
          refine PySem.W.len_K hFr I.ok.mod.kin J hs hf ?_
          refine wpAny_call (codeAny_mono (hF.run X.A.in1 X.stack s H ⟨[.ref a], []⟩ [.ref a] [.ref a] _ _ hr.in1 I.env0.in1 bb (.cons rfl .nil) sp) fun r s' hq => ?_)
          cases r with
          | error e =>
            exact (noCXm hq).elim
          | ok fl =>
            cases fl with
            | ret u =>
              obtain ⟨v, H', I3, rv3, i, rfl, h0, h1, q3⟩ := I.after hq
              obtain ⟨t, rfl⟩ := (show ∃ t, u = Value.int i t from rv3)
              exact ⟨⟨h0, by omega⟩, .int i, H', I3.tok _, ⟨_, rfl⟩, q3⟩
            | next => exact False.elim hq
            | brk => exact False.elim hq
            | cont => exact False.elim hq
      · exact p.elim
    · exact p.elim
end
end Mz

set_option Elab.async false
set_option linter.all false
set_option maxRecDepth 100000
set_option maxHeartbeats 4000000
namespace Mz
open PySem PySem.Spec PyProof.Rows L2
section
variable {X : Cx} {cl : Nat → Addr} {Wx : WX} {e a b o : Expr} {m ma mb : ME} {pos p apos : Pos} {f x : Str}
def mCMeth (c : Nat) (F : MF) (a : MA) : ME := fun env st => (a env st).bind fun xs st1 => F (.v (.cls c) :: xs) st1
theorem ie_cmeth {F : MF} {k n c : Nat} {g pr : Addr} {mc : Value} {fd : FuncData} {ps : List Str} {mm : Str} {e1 : Expr} {es : List Expr} {ra : MA} {pl : Sem Bool} (hg : Gl X x) (hm : X.mg x = some (.ref (cl c))) (r : ClX.CRead X.K (cl c) mc) (ct : ClX.CMet X.K (cl c) mc mm pr g)
    (hF : FnOk X.prog X.w X.K X.mg X.base (CXm X.K X.prog X.w) k g fd ps (spM ⟨X.K, cl⟩ n F)) (hn : Ar F n) (tk : Takes X Wx) (hr : Room k X.A) (hb : Binds X.K fd ps []) (ha : IA X cl Wx (e1 :: es) ra) (hdb : (x == ("__debug__" : Str)) = false := by decide)
    (hst : starEach (e1 :: es) X.env = (false, eval e1 X.env) :: starEach es X.env := by rfl) (hpl : (backTo pos (starEach es X.env)).any (·.1) = false := by rfl)
    (ht : eval (.Call (.Attribute (.Name x p) mm apos) (e1 :: es) [] pos) X.env = (do
      let ov ← eval (.Name x p) X.env
      standAt apos.atName
      let (f, first) ← holding [ov] (getMethod ov mm pl)
      callWith pos f first (backTo pos (starEach (e1 :: es) X.env)) (backToKw pos (keywordEach [] X.env))) := by rfl) :
    IE X cl Wx (.Call (.Attribute (.Name x p) mm apos) (e1 :: es) [] pos) (mCMeth c F ra) := by
  refine ⟨fun pins s σ H Q I h => ?_⟩
  obtain ⟨env, ρ, G, st, rel, er, q⟩ := h
  have h2 : tL ⟨X.K, cl⟩ Wx ra σ H (fun us H2 => spM ⟨X.K, cl⟩ n F (.ref (cl c) :: us) H2 Q (fun c d H' => Wx c d σ H')) :=
    ⟨env, ρ, G, st, rel, er, PostR.bind (R1 := SlRs ⟨X.K, cl⟩) q fun xs st2 ρ2 G2 H2 us f2 r2 s2 p2 => sp_of (xs := .v (.cls c) :: xs) hn r2 ⟨_, us, rfl, (by unfold Mz.SlR Rep; rfl), s2⟩ p2⟩
  refine PySem.W.methodCall_KW (pl := pl) (thn ((pe_glob (pos := p) (v := .ref (cl c)) hg hm rfl hdb).run pins s σ H (fun v H1 => v = .ref (cl c) ∧ H1 = H) I ⟨rfl, rfl⟩) ?_) ht
  rintro u s1 ⟨v, H1, I1, rx, rfl, rfl⟩
  obtain rfl : u = Value.ref (cl c) := rx
  refine ClX.getmethcm_ok I1 r ct fun s2 I2 => ?_
  refine ClX.callwith_cm I2 (ClX.base_none I1 (Nat.le_refl _)) ct.fi (thn (ha.run pos _ s2 σ _ _ I2 h2) ?_) hst hpl
  rintro us s3 ⟨vs, H2, I3, rv, q2⟩
  refine ⟨⟨ClX.pin_at I3, I3.kIn⟩, ?_⟩
  have z : wpAny (model X.prog X.w) X.A (call (.ref s1.heap.objs.size) us) (EP X ((s1.heap.objs.size, PySem.W.methodObj (.ref g) (.ref (cl c))) :: pins) σ Q) X.xe s3 := by
    have r2 : Vals (V.ref (cl c) :: vs) (Value.ref (cl c) :: us) := .cons rfl rv
    have hl : (Value.ref (cl c) :: us).length = ps.length := by rw [← r2.length]; exact hF.len _ _ _ _ q2
    have bb := hb s3 (Value.ref (cl c) :: us) I3.kIn (by rw [List.append_nil]; exact hl)
    rw [List.append_nil] at bb
    refine wpAny_call (PySem.W.method_call (ClX.pin_at I3) (codeAny_mono (hF.run X.A X.stack s3 H2 ⟨Value.ref (cl c) :: us, []⟩ _ _ Q _ hr I3.env0 bb r2 q2) fun r s' hq => ?_))
    cases r with
    | error er => exact passAt tk σ _ _ _ er s' I3 hq
    | ok fl =>
      cases fl with
      | ret u => exact I3.after hq
      | next => exact False.elim hq
      | brk => exact False.elim hq
      | cont => exact False.elim hq
  exact thn z fun _ _ y => ClX.unpinE y
noncomputable def mMakeL (i c : Nat) (F : MF) (a : MA) : ME := fun env st => match env[i]? with
  | some (some (.v (.cls c'))) => if c' = c then mMake c F a env st else .bad
  | _ => .bad
theorem ie_makeL {F : MF} {k n c i : Nat} {fI : Addr} {fd : FuncData} {ps : List Str} {es : List Expr} {ra : MA} (M : Mk X.K (cl c) fI) (hF : FnOk X.prog X.w X.K X.mg X.base (CXm X.K X.prog X.w) k fI fd ps (spM ⟨X.K, cl⟩ n F)) (hn : Ar F n) (tk : Takes X Wx) (hr : Room (k + 1) X.A) (hb : Binds X.K fd ps [])
    (hN : X.N[i]? = some x) (hv : Vis X.env.scope x) (ha : IA X cl Wx (e :: es) ra) (hdb : (x == ("__debug__" : Str)) = false := by decide) (hcd : (x == ("__classdict__" : Str)) = false := by decide) (he : starEach (e :: es) X.env = (false, eval e X.env) :: starEach es X.env := by rfl) (hpl : (backTo pos (starEach es X.env)).any (·.1) = false := by rfl) :
    IE X cl Wx (.Call (.Name x p) (e :: es) [] pos) (mMakeL i c F ra) := by
  refine ⟨fun pins s σ H Q I h => ?_⟩
  obtain ⟨env, ρ, G, st, rel, er, q⟩ := h
  have hi : env[i]? = some (some (.v (.cls c))) ∧ PostR ⟨X.K, cl⟩ ρ G (Mz.SlR ⟨X.K, cl⟩) (mMake c F ra env st) Q (fun c d H' => Wx c d σ H') := by
    unfold mMakeL at q
    split at q
    · rename_i c' hc
      split at q
      · rename_i hcc
        subst hcc
        exact ⟨hc, q⟩
      · exact q.elim
    · exact q.elim
  obtain ⟨u0, hu0, hs0⟩ := er.2 i _ hi.1
  have hu : u0 = .ref (cl c) := by unfold Mz.SlR Rep at hs0; exact hs0
  subst hu
  have q := hi.2
  refine wpAny_Call_Name_kw (thn ((pe_var (pos := p) hN hv hdb hcd).run pins s σ H (fun v H1 => v = .ref (cl c) ∧ H1 = H) I ⟨_, hu0, rfl, rfl⟩) ?_)
  rintro u s0 ⟨v, H0, I0, rx, rfl, rfl⟩
  obtain rfl : u = Value.ref (cl c) := rx
  have h1 : tL ⟨X.K, cl⟩ Wx ra σ H0 (fun us H1 => ∃ ρ1 G1 st1 xs, Rel ⟨X.K, cl⟩ ρ1 G1 H1 st1 ∧ SlRs ⟨X.K, cl⟩ ρ1 G1 xs us ∧ PostR ⟨X.K, cl⟩ ρ1 G1 (Mz.SlR ⟨X.K, cl⟩) (makeR st1 (F (.o st1.o.length :: xs) (st1.pusho ⟨c, [], []⟩))) Q (fun c d H' => Wx c d σ H')) :=
    ⟨env, ρ, G, st, rel, er, PostR.bind (R1 := SlRs ⟨X.K, cl⟩) q fun xs st1 ρ1 G1 H1 us f1 r1 s1 p1 => ⟨ρ1, G1, st1, xs, r1, s1, p1⟩⟩
  refine PySem.W.callWith_K (h₀ := X.base) I0.ok.mod.kin M.kp (thn (ha.run pos pins s0 σ _ _ I0 h1) ?_) he hpl
  rintro us s1 ⟨vs, H1, I1, rv, ρ1, G1, st1, xs, r1, s1', p1⟩
  refine ⟨I1.kIn, ?_⟩
  have hq : ∀ a dx, H1 a = none → H1 dx = none → dx ≠ a → spM ⟨X.K, cl⟩ n F (.ref a :: vs) (upd (upd H1 dx (.own a)) a (.ins (cl c) dx [])) (fun v H2 => v = .non ∧ Q (.ref a) H2) (fun c d H' => Wx c d σ H') := fun a dx h1 h2 h3 => by
    obtain ⟨ρ', k1, k2, k3⟩ := make_post r1 s1' h1 h2 h3 p1
    exact sp_of hn k1 k2 k3
  have hq' := hq (s1.heap.objs.size + 1) s1.heap.objs.size (I1.hok.fresh (Nat.le_succ _)) (I1.hok.fresh (Nat.le_refl _)) (Nat.ne_of_lt (Nat.lt_succ_self _))
  have I2 := Inv.made (C := cl c) I1
  have r2 : Vals (V.ref (s1.heap.objs.size + 1) :: vs) (Value.ref (s1.heap.objs.size + 1) :: us) := .cons rfl rv
  have hl : (Value.ref (s1.heap.objs.size + 1) :: us).length = ps.length := by rw [← r2.length]; exact hF.len _ _ _ _ hq'
  have hbb := hb _ (Value.ref (s1.heap.objs.size + 1) :: us) I2.kIn (by rw [List.append_nil]; exact hl)
  rw [List.append_nil] at hbb
  refine wpAny_call (make_map (f := fI) I1.kIn M.makes M.init (beq_iff_eq.mp M.fn) (codeAny_mono (hF.run _ X.stack _ _ ⟨Value.ref (s1.heap.objs.size + 1) :: us, []⟩ _ _ _ _ (hr.make (cl c) us [])
    (I2.env0.make (cl c) us []) hbb r2 hq') fun r s' hq2 => ?_))
  cases r with
  | error e => exact passAt tk σ pins _ _ e s' I2 hq2
  | ok fl =>
    cases fl with
    | ret u =>
      obtain ⟨v, H', I3, rv', ev, q3⟩ := I2.after hq2
      subst ev
      exact ⟨rv', ⟨V.ref (s1.heap.objs.size + 1), H', I3, rfl, q3⟩⟩
    | next => exact False.elim hq2
    | brk => exact False.elim hq2
    | cont => exact False.elim hq2
end
def kCMeth (c : Nat) (F : MF) (r : Res (List Sl)) : Res Sl := r.bind fun xs st1 => F (.v (.cls c) :: xs) st1
theorem e_cmeth {c : Nat} {F : MF} {a : MA} {env : Env} {st : Store} : mCMeth c F a env st = kCMeth c F (a env st) := rfl
theorem k_cmeth {c : Nat} {F : MF} {xs : List Sl} {st : Store} : kCMeth c F (.ok xs st) = F (.v (.cls c) :: xs) st := rfl
theorem e_makeL {i c : Nat} {F : MF} {a : MA} {env : Env} {st : Store} (h : env[i]? = some (some (.v (.cls c)))) : mMakeL i c F a env st = mMake c F a env st := by
  unfold mMakeL; rw [h]; dsimp only; rw [if_pos rfl]
def kProp (c : Nat) (F : MF) (r : Res Sl) : Res Sl := r.bind fun x st1 => if isCl c st1 x = true then noEx (F [x] st1) else .bad
theorem e_prop {c : Nat} {F : MF} {a : ME} {env : Env} {st : Store} : mProp c F a env st = kProp c F (a env st) := rfl
theorem k_prop {c : Nat} {F : MF} {x : Sl} {st : Store} (h : isCl c st x = true) : kProp c F (.ok x st) = noEx (F [x] st) := by
  unfold kProp Res.bind; dsimp only; rw [if_pos h]
theorem k_noEx {s : Sl} {st : Store} : noEx (.ok s st) = .ok s st := rfl
end Mz

set_option Elab.async false
set_option linter.all false
set_option maxRecDepth 100000
set_option maxHeartbeats 4000000
namespace Mz
open PySem PySem.Spec PyProof.Rows L2
section
variable {X : Cx} {cl : Nat → Addr} {Wx : WX} {b : Expr} {mb : ME} {pos p2 : Pos} {keys : List (Option Expr)} {values : List Expr}
end
def parE (i j : Nat) (env : Env) : List Sl → Store → SR
  | [x, y], st => .nx ((env.set i (some x)).set j (some y)) st
  | _, _ => .bad
def mPar (i j : Nat) (a : MA) : MS := fun env st => ofR env (a env st) (parE i j env)
theorem is_par {X : Cx} {cl : Nat → Addr} {Wx : WX} (i j : Nat) {x y : Str} {a b : Expr} {ra : MA} {px py pt pos : Pos} {kt k2 pt2} (hc : X.calm = true) (hN : X.N.Nodup) (hi : X.N[i]? = some x) (hj : X.N[j]? = some y) (hij : i ≠ j)
    (hx : X.env.scope.names.lookup x = some .local) (hy : X.env.scope.names.lookup y = some .local) (ha : IA X cl Wx [a, b] ra)
    (hw : swappedStores [.Tuple [.Name x px, .Name y py] kt pt] (.Tuple [a, b] k2 pt2) X.env = pure (some [x, y]))
    (hs : swapsWithSole [.Tuple [.Name x px, .Name y py] kt pt] (.Tuple [a, b] k2 pt2) pos.line X.env = pure false := by rfl) :
    IS X cl Wx (.Assign [.Tuple [.Name x px, .Name y py] kt pt] (.Tuple [a, b] k2 pt2) pos) (mPar i j ra) :=
  ps_weak (ps_par hc hN hi hj hij hx hy ha hw hs) fun D σ H ⟨env, ρ, G, st, rel, er, p⟩ => ⟨env, ρ, G, st, rel, er, PostS.ofR (R := SlRs ⟨X.K, cl⟩) er p fun xs st1 ρ1 G1 H1 us f1 r1 s1 p1 => by
    unfold parE at p1
    split at p1
    · obtain ⟨u, v, rfl, h1, h2⟩ := slrs2 s1
      exact ⟨u, v, rfl, p1 ρ1 G1 H1 _ (Fr.refl _ _) r1 (((er.mono f1).set i h1).set j h2)⟩
    · exact p1.elim⟩
def kPar (i j : Nat) (env : Env) (r : Res (List Sl)) : SR := ofR env r (parE i j env)
theorem e_par {i j : Nat} {a : MA} {env : Env} {st : Store} : mPar i j a env st = kPar i j env (a env st) := rfl
theorem k_par {i j : Nat} {x y : Sl} {env : Env} {st : Store} : kPar i j env (.ok [x, y] st) = .nx ((env.set i (some x)).set j (some y)) st := rfl
end Mz

set_option Elab.async false
set_option linter.all false
set_option maxRecDepth 100000
set_option maxHeartbeats 4000000
namespace Mz
open PySem PySem.Spec PyProof.Rows L2
section
variable {X : Cx} {cl : Nat → Addr} {Wx : WX} {x : Str} {pos : Pos}
theorem ie_glI {i : Int} {t : Tok} (hg : Gl X x) (hm : X.mg x = some (.int i t)) (hd : (x == ("__debug__" : Str)) = false := by decide) : IE X cl Wx (.Name x pos) (mC (.int i)) :=
  pe_weak (pe_glob (v := .int i) hg hm ⟨_, rfl⟩ hd) fun σ H Q ⟨env, ρ, G, st, rel, er, p⟩ => p.give rel (by unfold Mz.SlR Rep; rfl)
theorem ie_glS {z : Str} {t : Tok} (hg : Gl X x) (hm : X.mg x = some (.str z t)) (hd : (x == ("__debug__" : Str)) = false := by decide) : IE X cl Wx (.Name x pos) (mC (.str z)) :=
  pe_weak (pe_glob (v := .str z) hg hm ⟨_, rfl⟩ hd) fun σ H Q ⟨env, ρ, G, st, rel, er, p⟩ => p.give rel (by unfold Mz.SlR Rep; rfl)
end
section
variable {X : Cx} {cl : Nat → Addr} {Wx : WX} {a b : Expr} {ma mb : ME} {pos : Pos}
end
end Mz

set_option Elab.async false
set_option linter.all false
set_option maxRecDepth 100000
set_option maxHeartbeats 4000000
namespace Mz
open PySem PySem.Spec PyProof.Rows L2
theorem ie_ccon {X : Cx} {cl : Nat → Addr} {Wx : WX} {x f : Str} {p pos : Pos} {c : Nat} {i : Int} {t : Tok} {mc : Value} (hg : Gl X x) (hm : X.mg x = some (.ref (cl c))) (r : ClX.CRead X.K (cl c) mc) (k : ClX.CVal X.K (cl c) mc f (.int i) (.int i t))
    (hd : (x == ("__debug__" : Str)) = false := by decide) (hb : attributeBase (.Name x p) f X.env (eval (.Name x p) X.env) = eval (.Name x p) X.env := by rfl) : IE X cl Wx (.Attribute (.Name x p) f pos) (mC (.int i)) :=
  pe_weak (ClX.pe_cval (pe_glob (v := .ref (cl c)) hg hm rfl hd) hb) fun σ H Q ⟨env, ρ, G, st, rel, er, h⟩ => ⟨_, mc, .int i, _, rfl, r, k, h.give rel (by unfold Mz.SlR Rep; rfl)⟩
def oneIs (c : Nat) (xs : List Sl) (st : Store) : Bool := match xs with
  | [x] => isCl c st x
  | _ => false
end Mz

set_option Elab.async false
set_option linter.all false
set_option maxRecDepth 100000
set_option maxHeartbeats 4000000
namespace Mz
open PySem PySem.Spec PyProof.Rows L2
def Itzt (K : PySem.W.Frag) (a b : Addr) : It where
  go := fun i H => ∃ (xs ys : List V) (x y : V), SqT K H a xs ∧ SqT K H b ys ∧ xs[i]? = some x ∧ ys[i]? = some y
  yld := fun i H v H' => ∃ T x y, v = .ref T ∧ H T = none ∧ H' = upd H T (.tup [x, y]) ∧ (∀ xs, SqT K H a xs → xs[i]? = some x) ∧ ∀ ys, SqT K H b ys → ys[i]? = some y
  stop := fun i H => ∃ xs ys : List V, SqT K H a xs ∧ SqT K H b ys ∧ (xs.length ≤ i ∨ ys.length ≤ i)
theorem draws_end {prog : Program} {w : World} {A : Around} (hh : A.handled = none) {it t : Addr} {items : Array Value} {i : Nat} (hx : items[i]? = none) :
    Draws prog w A it [it, t] i (fun _ _ => False) (fun j h => j = i ∧ h.IsTupleIter it t i ∧ h.IsTuple t items) where
  live := fun _ _ st => let ⟨o, ho, _⟩ := st.2.1; ⟨o, ho⟩
  frame := fun _ _ _ st hk => ⟨st.1, st.2.1.at fun o e => hk it (by simp) o e, st.2.2.at fun o e => hk t (by simp) o e⟩
  item := fun j s Q E hj st _ => absurd st.1 (Nat.ne_of_lt hj)
  done := fun s Q E st hE => wpAny_nextOf_tuple_end hh st.2.1 st.2.2 hx hE
theorem turn_zt {P : Program} {w : World} {K : PySem.W.Frag} {elts : List Expr} {kk : Nat} {tpos : Pos} {a b z TI TO i1 i2 : Addr} (D : ZipSep2 z TI TO i1 i2 [i1, a] [i2, b]) (hai : a ≠ i1) (hbi : b ≠ i2) :
    Turn P w K (.Tuple elts kk tpos) (Itzt K a b) [z, TI, TO, i1, i2] z (fun i h => IsZip h z TI TO .none ∧ IsTupOf2 h TI (.ref i1) (.ref i2) ∧ (∃ x y, IsTupOf2 h TO x y) ∧ h.IsTupleIter i1 a i ∧ h.IsTupleIter i2 b i) where
  mem := List.mem_cons_self ..
  obj := fun i h st c hc => by
    obtain ⟨hz, hTI, ⟨x, y, hTO⟩, ⟨o1, e1, _, d1⟩, ⟨o2, e2, _, d2⟩⟩ := st
    have e' : c = z ∨ c = TI ∨ c = TO ∨ c = i1 ∨ c = i2 := by simpa using hc
    rcases e' with q | q | q | q | q <;> rw [q]
    · exact ⟨_, hz, fun v q => nomatch q⟩
    · exact ⟨_, hTI, fun v q => nomatch q⟩
    · exact ⟨_, hTO, fun v q => nomatch q⟩
    · exact ⟨o1, e1, fun v q => by rw [d1] at q; cases q⟩
    · exact ⟨o2, e2, fun v q => by rw [d2] at q; cases q⟩
  keep := fun i h h' st k => by
    obtain ⟨hz, hTI, ⟨x, y, hTO⟩, h1, h2⟩ := st
    exact ⟨k z (by simp) _ hz, k TI (by simp) _ hTI, ⟨x, y, k TO (by simp) _ hTO⟩, h1.at fun o q => k i1 (by simp) o q, h2.at fun o q => k i2 (by simp) o q⟩
  item := by
    intro X hP hw hK hc i pins s σ H E I hf st hg
    subst hP hw hK
    obtain ⟨hz, hTI, ⟨x0, y0, hTO⟩, h1, h2⟩ := st
    obtain ⟨xs, ys, x, y, hqx, hqy, hx, hy⟩ := hg
    obtain ⟨its, rv, p, _⟩ := I.tuple hqx
    obtain ⟨its2, rv2, p2, _⟩ := I.tuple hqy
    obtain ⟨u, hu, ru⟩ := rv.get hx
    obtain ⟨u2, hu2, ru2⟩ := rv2.get hy
    have hzl : z < s.heap.objs.size := Heap.lt_size hz
    have D1 := Draws.tuple (prog := X.prog) (w := X.w) (A := X.A.in1) (I.ok.hd hc) i1 a hai its.toArray
    have D2 := Draws.tuple (prog := X.prog) (w := X.w) (A := X.A.in1) (I.ok.hd hc) i2 b hbi its2.toArray
    have hlt1 : i < its.toArray.size := by simp; exact get_lt hu
    have hlt2 : i < its2.toArray.size := by simp; exact get_lt hu2
    refine wpAny_pyNext_zipD2_item D D1 D2 hz hTI hTO ⟨h1, p⟩ ⟨h2, p2⟩ hlt1 hlt2 fun y1 y2 h' tk hy1 hy2 hz' hTO' st1 st2 hT hsz hk => ?_
    have e1 : y1 = u := by
      have : its.toArray[i]? = some u := by simpa using hu
      rw [this] at hy1; exact (Option.some.inj hy1).symm
    have e2 : y2 = u2 := by
      have : its2.toArray[i]? = some u2 := by simpa using hu2
      rw [this] at hy2; exact (Option.some.inj hy2).symm
    subst e1 e2
    refine ⟨_, rfl, wpAny_letOwnedTupleGo_zip (s := { s with heap := h', toks := tk }) hz' fun h'' z'' sb => ?_⟩
    have hT2 : h''.get? s.heap.objs.size = some { cls := .type "tuple", data := .seq #[y1, y2] } := (sb.2 _ (Nat.ne_of_gt hzl)).trans hT
    have new : ObjOk X.prog X.w (upd H s.heap.objs.size (.tup [x, y])) h'' s.heap.objs.size (.tup [x, y]) :=
      ⟨by show 2 ≤ sizeLine; decide, [y1, y2], .cons ru (.cons ru2 .nil), ⟨_, hT2, rfl, _, rfl⟩⟩
    have I1 : Inv X pins σ (upd H s.heap.objs.size (.tup [x, y])) { s with heap := h'', toks := tk } :=
      I.turnedNew (ch := [z, TI, TO, i1, i2]) (fun b ob hb q => by
        have b1 : b ≠ z := fun e => hb (by simp [e])
        have b2 : b ≠ TO := fun e => hb (by simp [e])
        have b3 : b ≠ i1 := fun e => hb (by simp [e])
        have b4 : b ≠ i2 := fun e => hb (by simp [e])
        exact (sb.2 b b1).trans (hk b ob b1 b2 b3 b4 q)) hf (Nat.le_refl _) new
    refine ⟨.ref s.heap.objs.size, _, I1, rfl, ⟨_, x, y, rfl, I.hok.fresh (Nat.le_refl _), rfl, fun zs hy => by rw [I.tuple_inj hy hqx]; exact hx, fun zs hy' => by rw [I.tuple_inj hy' hqy]; exact hy⟩,
      ⟨z'', (sb.2 TI D.TIz).trans (hk TI _ D.TIz D.TITO D.TIi1 D.TIi2 hTI), ⟨_, _, (sb.2 TO D.TOz).trans hTO'⟩, st1.1.at fun o q => (sb.2 i1 (Ne.symm D.zi1)).trans q, st2.1.at fun o q => (sb.2 i2 (Ne.symm D.zi2)).trans q⟩, fun b hb => ?_⟩
    have hb' : b < s.heap.objs.size := by
      have e' : b = z ∨ b = TI ∨ b = TO ∨ b = i1 ∨ b = i2 := by simpa using hb
      rcases e' with q | q | q | q | q <;> rw [q]
      · exact hzl
      · exact Heap.lt_size hTI
      · exact Heap.lt_size hTO
      · obtain ⟨_, q1, _⟩ := h1; exact Heap.lt_size q1
      · obtain ⟨_, q1, _⟩ := h2; exact Heap.lt_size q1
    rw [upd_ne (Nat.ne_of_lt hb')]
    exact (hf b hb).1
  done := by
    intro X hP hw hK hc i pins s σ H E I hf st hg
    subst hP hw hK
    obtain ⟨hz, hTI, ⟨x0, y0, hTO⟩, h1, h2⟩ := st
    obtain ⟨xs, ys, hqx, hqy, hx⟩ := hg
    obtain ⟨its, rv, p, _⟩ := I.tuple hqx
    obtain ⟨its2, rv2, p2, _⟩ := I.tuple hqy
    have l1 := rv.length
    have l2 := rv2.length
    have fin : ∀ h' tk, (∀ c o, c ≠ z → c ≠ TO → c ≠ i1 → c ≠ i2 → s.heap.get? c = some o → h'.get? c = some o) → (none : Option Value) = none ∧ Inv X pins σ H { s with heap := h', toks := tk } := fun h' tk hk =>
      ⟨rfl, I.turnedL (ch := [z, TI, TO, i1, i2]) (fun c o hb q => hk c o (fun e => hb (by simp [e])) (fun e => hb (by simp [e])) (fun e => hb (by simp [e])) (fun e => hb (by simp [e])) q) hf⟩
    have D1 := Draws.tuple (prog := X.prog) (w := X.w) (A := X.A.in1) (I.ok.hd hc) i1 a hai its.toArray
    have D2 := Draws.tuple (prog := X.prog) (w := X.w) (A := X.A.in1) (I.ok.hd hc) i2 b hbi its2.toArray
    have s1 : its.toArray.size = xs.length := by simp; omega
    have s2 : its2.toArray.size = ys.length := by simp; omega
    have E1 : xs.length ≤ i → Draws X.prog X.w X.A.in1 i1 [i1, a] i (fun _ _ => False) (fun j h => j = i ∧ h.IsTupleIter i1 a i ∧ h.IsTuple a its.toArray) := fun h => draws_end (A := X.A.in1) (I.ok.hd hc) (show its.toArray[i]? = none from Array.getElem?_eq_none (by omega))
    have E2 : ys.length ≤ i → Draws X.prog X.w X.A.in1 i2 [i2, b] i (fun _ _ => False) (fun j h => j = i ∧ h.IsTupleIter i2 b i ∧ h.IsTuple b its2.toArray) := fun h => draws_end (A := X.A.in1) (I.ok.hd hc) (show its2.toArray[i]? = none from Array.getElem?_eq_none (by omega))
    by_cases c1 : i < xs.length
    · have c2 : ys.length ≤ i := by omega
      exact wpAny_pyNext_zipD2_end D D1 (E2 c2) hz hTI hTO ⟨h1, p⟩ ⟨rfl, h2, p2⟩ (by omega) (Nat.le_refl i) (.inr rfl) fin
    · by_cases c2 : i < ys.length
      · exact wpAny_pyNext_zipD2_end D (E1 (Nat.le_of_not_lt c1)) D2 hz hTI hTO ⟨rfl, h1, p⟩ ⟨h2, p2⟩ (Nat.le_refl i) (by omega) (.inl rfl) fin
      · exact wpAny_pyNext_zipD2_end D (E1 (by omega)) (E2 (by omega)) hz hTI hTO ⟨rfl, h1, p⟩ ⟨rfl, h2, p2⟩ (Nat.le_refl i) (Nat.le_refl i) (.inl rfl) fin
  self := fun A i s Q E st h => by
    obtain ⟨hz, _⟩ := st
    exact wpAny_pyIter_zip hz h
def iZipT (K : PySem.W.Frag) (ta : TA) : TI := fun σ H R => ta σ H fun vs H1 => ∃ a b, vs = [.ref a, .ref b] ∧ (∃ xs, SqT K H1 a xs) ∧ (∃ ys, SqT K H1 b ys) ∧ R (Itzt K a b) H1
theorem pi_zipT {X : Cx} {e1 e2 : Expr} {ta : TA} {p pos tpos : Pos} {elts : List Expr} {kk : Nat} (hg : Gl X "zip") (hm : X.mg "zip" = none) (ha : PA X [e1, e2] ta) (hs : starEach [e1, e2] X.env = (false, eval e1 X.env) :: starEach [e2] X.env := by rfl) (hpl : (backTo pos (starEach [e2] X.env)).any (·.1) = false := by rfl) :
    PI X (.Tuple elts kk tpos) (.Call (.Name "zip" p) [e1, e2] [] pos) (iZipT X.K ta) := by
  refine ⟨fun pins s σ H R I h => Call_ (ld_blt I hg hm boot_zip (PyProof.Rows.callWith_type1 (thn (ha.run pos pins s σ H _ I h) ?_) hs hpl))⟩
  rintro us s1 ⟨vs, H1, I1, r1, a, b, rfl, ⟨xs, hqx⟩, ⟨ys, hqy⟩, q⟩
  cases r1 with
  | cons r rr =>
    cases rr with
    | cons r' rr' =>
      cases rr'
      cases r
      cases r'
      obtain ⟨its, rv, p1, _⟩ := I1.tuple hqx
      obtain ⟨its2, rv2, p2, _⟩ := I1.tuple hqy
      have la : a < s1.heap.objs.size := by obtain ⟨o, e, _⟩ := p1; exact Heap.lt_size e
      have lb : b < s1.heap.objs.size := by obtain ⟨o, e, _⟩ := p2; exact Heap.lt_size e
      generalize hN : s1.heap.objs.size = N at la lb
      refine zip_begins2 (begins_tuple a its.toArray) (begins_tuple b its2.toArray) p1 p2 fun h' hz hTI hTO g1 g2 hsz hk => wpAny_pyIter_zip hz ?_
      rw [hN] at hz hTI hTO g1 g2 ⊢
      have I2 : Inv X pins σ H1 { s1 with heap := h' } := I1.kept (t' := s1.toks) hk
      have ni : ∀ {c x y : Nat}, c ≠ x → c ≠ y → c ∉ [x, y] := fun h1 h2 h => by
        rcases List.mem_cons.mp h with e | e
        · exact h1 e
        · exact h2 (List.mem_singleton.mp e)
      have ne : ∀ {x : Nat} (k : Nat), x < N → N + k ≠ x := fun k hx e => Nat.not_lt.mpr (Nat.le_add_right N k) (e ▸ hx)
      have nk : ∀ (j k : Nat), j ≠ k → N + j ≠ N + k := fun j k h e => h (Nat.add_left_cancel e)
      have hD : ZipSep2 (N + 4) (N + 2) (N + 3) N (N + 1) [N, a] [N + 1, b] :=
        ⟨nk 2 4 (by decide), nk 3 4 (by decide), nk 2 3 (by decide), nk 2 0 (by decide), List.mem_cons_self .., ni (nk 4 0 (by decide)) (ne 4 la), ni (nk 3 0 (by decide)) (ne 3 la), nk 2 1 (by decide), List.mem_cons_self .., ni (nk 4 1 (by decide)) (ne 4 lb), ni (nk 3 1 (by decide)) (ne 3 lb), ni (nk 0 1 (by decide)) (ne 0 lb), ni (nk 1 0 (by decide)) (ne 1 la)⟩
      refine ⟨N + 4, [N + 4, N + 2, N + 3, N, N + 1], _, _, H1, rfl, I2, turn_zt hD (Ne.symm (ne 0 la)) (Ne.symm (ne 1 lb)), ⟨hz, hTI, ⟨_, _, hTO⟩, ⟨_, g1, rfl, rfl⟩, ⟨_, g2, rfl, rfl⟩⟩, fun c hc => ?_, q⟩
      have hle : s1.heap.objs.size ≤ c := by
        rw [hN]
        have e' : c = N + 4 ∨ c = N + 2 ∨ c = N + 3 ∨ c = N ∨ c = N + 1 := by simpa using hc
        rcases e' with z | z | z | z | z <;> rw [z] <;> omega
      exact I1.fpOk hle (I1.hok.fresh hle)
def pairW : List W → List W → List W
  | x :: xs, y :: ys => .tup [x, y] :: pairW xs ys
  | _, _ => []
theorem pairW_at : ∀ {xs ys : List W} {i : Nat} {w : W}, (pairW xs ys)[i]? = some w → ∃ x y, xs[i]? = some x ∧ ys[i]? = some y ∧ w = .tup [x, y]
  | [], _, _, _, h => by simp [pairW] at h
  | _ :: _, [], _, _, h => by simp [pairW] at h
  | x :: xs, y :: ys, 0, w, h => by simp [pairW] at h; exact ⟨x, y, rfl, rfl, h.symm⟩
  | x :: xs, y :: ys, i + 1, w, h => pairW_at (xs := xs) (ys := ys) (i := i) h
theorem pairW_len : ∀ {xs ys : List W} {i : Nat}, (pairW xs ys).length ≤ i → xs.length ≤ i ∨ ys.length ≤ i
  | [], _, _, _ => .inl (Nat.zero_le _)
  | _ :: _, [], _, _ => .inr (Nat.zero_le _)
  | x :: xs, y :: ys, 0, h => by simp [pairW] at h
  | x :: xs, y :: ys, i + 1, h => by
    rcases pairW_len (xs := xs) (ys := ys) (i := i) (by simpa [pairW] using h) with h | h
    · exact .inl (Nat.succ_le_succ h)
    · exact .inr (Nat.succ_le_succ h)
def zipSrc : List Sl → Store → Res Src
  | [.v (.tup xs), .v (.tup ys)], st1 => .ok ⟨pairW xs ys, fun _ => True⟩ st1
  | _, _ => .bad
def mItZ (a : MA) : MI := fun env st => (a env st).bind zipSrc
theorem its_zipT {T : Tx} {ρ : Mp} {G : Hp} {xs ys : List W} {a b : Addr} {us vs : List V} (hq : SqT T.K G a us) (hr : Reps T G xs us) (hq2 : SqT T.K G b vs) (hr2 : Reps T G ys vs) : ItS T ρ G ⟨pairW xs ys, fun _ => True⟩ (Itzt T.K a b) := by
  refine ⟨fun i H st' ρ' G' f r g hi => ?_, fun i w H st' ρ' G' f r g hw => ?_⟩
  · refine ⟨us, vs, sqt_mono r.ext (sqt_mono f.ex hq), sqt_mono r.ext (sqt_mono f.ex hq2), ?_⟩
    rw [← hr.length, ← hr2.length]
    exact pairW_len hi
  · obtain ⟨x, y, hx, hy, rfl⟩ := pairW_at (show (pairW xs ys)[i]? = some w from hw)
    obtain ⟨u, hu, ru⟩ := Reps.get' hr hx
    obtain ⟨v, hv, rv⟩ := Reps.get' hr2 hy
    have q1 := sqt_mono r.ext (sqt_mono f.ex hq)
    have q2 := sqt_mono r.ext (sqt_mono f.ex hq2)
    refine ⟨⟨us, vs, u, v, q1, q2, hu, hv⟩, fun z H' hy => ?_⟩
    obtain ⟨q, u', v', rfl, hn, rfl, h1, h2⟩ := hy
    have e1 := h1 us q1
    have e2 := h2 vs q2
    rw [hu] at e1
    rw [hv] at e2
    cases e1
    cases e2
    obtain ⟨f2, r2⟩ := r.newG (o := .tup [u, v]) hn
    refine ⟨_, f2, r2, ?_⟩
    unfold Rep
    exact ⟨q, _, rfl, SqT.of upd_same, Reps.cons (Rep.mono f2.ex _ _ (Rep.mono f.ex _ _ ru)) (Reps.cons (Rep.mono f2.ex _ _ (Rep.mono f.ex _ _ rv)) Reps.nil)⟩
theorem ii_zip {X : Cx} {cl : Nat → Addr} {Wx : WX} {e1 e2 : Expr} {ma : MA} {p pos tpos : Pos} {elts : List Expr} {kk : Nat} (hg : Gl X "zip") (hm : X.mg "zip" = none) (ha : IA X cl Wx [e1, e2] ma) (hs : starEach [e1, e2] X.env = (false, eval e1 X.env) :: starEach [e2] X.env := by rfl) (hpl : (backTo pos (starEach [e2] X.env)).any (·.1) = false := by rfl) :
    II X cl Wx (.Tuple elts kk tpos) (.Call (.Name "zip" p) [e1, e2] [] pos) (mItZ ma) :=
  pi_weak (pi_zipT hg hm ha hs hpl) fun σ H Q ⟨env, ρ, G, st, rel, er, p⟩ => ⟨env, ρ, G, st, rel, er, PostR.bind (R1 := SlRs ⟨X.K, cl⟩) p fun xs st1 ρ1 G1 H1 us f1 r1 s1 p1 => by
    unfold zipSrc at p1
    split at p1
    · obtain ⟨u, v, rfl, h1, h2⟩ := slrs2 s1
      unfold Mz.SlR Rep at h1 h2
      obtain ⟨a, vs, rfl, hq, hr⟩ := h1
      obtain ⟨b, vs2, rfl, hq2, hr2⟩ := h2
      exact ⟨a, b, rfl, ⟨vs, sqt_mono r1.ext hq⟩, ⟨vs2, sqt_mono r1.ext hq2⟩, p1.give r1 (its_zipT hq hr hq2 hr2)⟩
    · exact p1.elim⟩
def kZip (r : Res (List Sl)) : Res Src := r.bind zipSrc
theorem e_itZ {a : MA} {env : Env} {st : Store} : mItZ a env st = kZip (a env st) := rfl
theorem k_zip {xs ys : List W} {st : Store} : kZip (.ok [.v (.tup xs), .v (.tup ys)] st) = .ok ⟨pairW xs ys, fun _ => True⟩ st := rfl
end Mz

set_option Elab.async false
set_option linter.all false
set_option maxRecDepth 100000
set_option maxHeartbeats 4000000
namespace Mz
open PySem L2
end Mz

set_option Elab.async false
set_option linter.all false
set_option maxRecDepth 100000
set_option maxHeartbeats 4000000
namespace Mz
open PySem PySem.Spec PyProof.Rows L2
section
variable {X : Cx} {cl : Nat → Addr} {Wx : WX} {a : Expr} {ma : ME} {pos : Pos}
end
end Mz

set_option Elab.async false
set_option linter.all false
set_option maxRecDepth 100000
set_option maxHeartbeats 4000000
namespace Mz
open PySem PySem.Spec PyProof.Rows L2
open ItX (dropH dropH_same dropH_ne)
def Fits (b : Bool) (h : Heap) (it t : Addr) (i : Nat) : Prop := match b with
  | true => h.IsTupleIter it t i
  | false => h.IsListIter it t i
def ItA (b : Bool) (t it : Addr) (i : Nat) : HO := .ext fun h => Fits b h it t i
theorem Fits.at {b : Bool} {h h' : Heap} {it t : Addr} {i : Nat} (f : Fits b h it t i) (k : ∀ o, h.get? it = some o → h'.get? it = some o) : Fits b h' it t i := by
  cases b with
  | true => exact Heap.IsTupleIter.at f k
  | false => obtain ⟨o, ho, r⟩ := f; exact ⟨o, k o ho, r⟩
section
variable {X : Cx}
end
section
variable {T : Tx} {ρ ρ' : Mp} {G G' H : Hp} {st : Store} {it : Addr} {φ : Heap → Prop}
end
def kindOf : Sl → Bool
  | .v (.tup _) => true
  | _ => false
section
variable {X : Cx} {pins : List (Addr × Obj)} {σ : L2.St}
end
section
variable {X : Cx} {cl : Nat → Addr} {Wx : WX}
end
end Mz

set_option Elab.async false
set_option linter.all false
set_option maxRecDepth 100000
set_option maxHeartbeats 4000000
namespace Mz
open PySem PySem.Spec PyProof.Rows L2
theorem ic_int {c : Nat} {i : Int} {st : Store} : isCl c st (.v (.int i)) = false := rfl
theorem ic_bl {c : Nat} {i : Bool} {st : Store} : isCl c st (.v (.bl i)) = false := rfl
theorem ic_str {c : Nat} {i : Str} {st : Store} : isCl c st (.v (.str i)) = false := rfl
theorem ic_non {c : Nat} {st : Store} : isCl c st (.v .non) = false := rfl
theorem ic_lst {c : Nat} {i : List W} {st : Store} : isCl c st (.v (.lst i)) = false := rfl
theorem ic_ro {c : Nat} {i : List W} {st : Store} : isCl c st (.v (.ro i)) = false := rfl
theorem ic_tup {c : Nat} {i : List W} {st : Store} : isCl c st (.v (.tup i)) = false := rfl
theorem ic_l {c n : Nat} {st : Store} : isCl c st (.l n) = false := rfl
theorem ic_ins {c c' : Nat} {ns : List Str} {ws : List W} {st : Store} : isCl c st (.v (.ins c' ns ws)) = decide (c' = c) := rfl
theorem oneIs_1 {c : Nat} {x : Sl} {st : Store} : oneIs c [x] st = isCl c st x := rfl
theorem lenOwn_1 {c : Nat} {F : MF} {x : Sl} {st : Store} : lenOwn c F [x] st = if isCl c st x = true then lenBk (F [x] st) else .bad := rfl
theorem lenBk_1 {i : Int} {st : Store} (h : 0 ≤ i ∧ i < 2 ^ 62) : lenBk (.ok (.v (.int i)) st) = .ok (.v (.int i)) st := by unfold lenBk; dsimp only; rw [if_pos h]
theorem fin_ex {st : Store} {c : Nat} {ns : List Str} {ws : List W} {env : Env} : fin .tr st (.ex c ns ws env st) = .ex c ns ws st := by
  unfold fin cut; dsimp only; rw [List.take_length, if_pos rfl, List.take_length]
end Mz

set_option Elab.async false
set_option linter.all false
set_option maxRecDepth 100000
set_option maxHeartbeats 4000000
namespace Mz
open PySem PySem.Spec PyProof.Rows L2
section
variable {X : Cx} {cl : Nat → Addr} {pins : List (Addr × Obj)} {σ : L2.St}
end
section
variable {X : Cx} {cl : Nat → Addr} {Wx : WX}
end
end Mz

set_option Elab.async false
set_option linter.all false
set_option maxRecDepth 100000
set_option maxHeartbeats 4000000
namespace PySem
namespace ExF
open PySem.W PySem.Calls PyProof.Rows PySem.HandSPX
def eA1 (fld : Str) (p1 p2 : Pos) : Arguments := { posonlyargs := [], args := [{ arg := "self", annotation := none, pos := p1 }, { arg := fld, annotation := none, pos := p2 }], vararg := none, kwonlyargs := [], kw_defaults := [], kwarg := none, defaults := [] }
def supS (msg : Str) (a1 a2 a3 a4 a5 a6 : Pos) (j : Tok) : Stmt := .Expr (.Call (.Attribute (.Call (.Name "super" a1) [] [] a2) "__init__" a3) [.Constant (.str msg) j a4] [] a5) a6
def asgS (fld : Str) (b1 b2 b3 b4 : Pos) : Stmt := .Assign [.Attribute (.Name "self" b1) fld b2] (.Name fld b3) b4
def eS1 (fld : Str) : Scope := { kind := .function, names := [(PySem.Str.ofString "self", .local), (fld, .local), (PySem.Str.ofString "__class__", .free), (PySem.Str.ofString "super", .globalImplicit)], isGenerator := false, isCoroutine := false, more := [] }
structure Fld1 (fld : Str) : Prop where
  l1 : (eS1 fld).names.lookup ("self" : Str) = some .local
  l2 : (eS1 fld).names.lookup fld = some .local
  l3 : (eS1 fld).names.lookup ("super" : Str) = some .globalImplicit
  l4 : (eS1 fld).names.lookup ("__class__" : Str) = some .free
  c : ∀ x ∈ (eS1 fld).names, x.2 ≠ .cell
  m1 : ∀ a v : Value, ([(("self" : Str), a), (fld, v)].reverse.lookup ("self" : Str)) = some a
  m2 : ∀ a v : Value, ([(("self" : Str), a), (fld, v)].reverse.lookup fld) = some v
  d : (fld == ("__debug__" : Str)) = false
structure ClsTxt (K : Frag) (mg : Str → Option Value) (p : Program) (C fI : Addr) : Prop where
  cls : ∃ nm q N bs bm sn sub ab col dd k0 k1 k2 k3 k5, K.lookup C = some (excClassObj nm q C N bs bm true sn sub ab col dd k0 k1 k2 k3 k5 "ValueError.__new__") ∧ refsVE bm = true
  sa : findIn K (.ref C) "__setattr__" = some (some (.builtin "object.__setattr__"))
  iC : findIn K (.ref C) "__init__" = some (some (.ref fI))
  tC : typeIn K (.ref fI) = some (.type "function")
  kC : keepIn K (.ref C) = true
  exC : subIn K (.ref C) (.type "BaseException") = some true
  veC : subIn K (.ref C) (.type "ValueError") = some true
  tyC : typeIn K (.ref C) = some (.type "type")
  sup : ks_superIn K C C "__init__" = some (some (.builtin "ValueError.__init__"))
  sub : mroIn K C (.ref C) = some true
  opq : nsIn K cStatics "thirdparty.any" = some none
  noS : mg "super" = none
  top : (p.main.scope.names.lookup ("super" : Str)).isSome = false
abbrev supCall (msg : Str) (a1 a2 a3 a4 a5 : Pos) (j : Tok) : Expr := .Call (.Attribute (.Call (.Name "super" a1) [] [] a2) "__init__" a3) [.Constant (.str msg) j a4] [] a5
abbrev supTree (msg : Str) (a1 a2 a3 a4 a5 : Pos) (j : Tok) (pl : Sem Bool) (env : Env) : Sem Value := (do
      let ov ← attributeBase (.Call (.Name "super" a1) [] [] a2) "__init__" env (eval (.Call (.Name "super" a1) [] [] a2) env)
      standAt a3.atName
      let (f, first) ← holding [ov] (getMethod ov "__init__" pl)
      callWith a5 f first (backTo a5 (starEach [.Constant (.str msg) j a4] env)) [])
structure Ex1Txt (K : Frag) (mg : Str → Option Value) (p : Program) (C fI : Addr) (qual fld msg : Str) : Prop extends ClsTxt K mg p C fI where
  fl : Fld1 fld
  noN : findIn K (.ref C) fld = some none
  fn : ∃ (oc : Value) (od : Option Addr) (doc pm : Value) (an : Option Addr) (cda cc : Addr) (ct : Value) (osl : Array (Option Value)) (p1 p2 a1 a2 a3 a4 a5 a6 b1 b2 b3 b4 : Pos) (j : Tok) (ccl : Value) (cdd : Option Addr) (vs : Array Value) (ccs : Array (Option Value)) (file : Str) (tf : Tok) (cl : Value) (cld : Option Addr) (csl : Array (Option Value)),
    K.lookup fI = some ⟨oc, od, .func (ksFn "__init__" qual (eA1 fld p1 p2) [supS msg a1 a2 a3 a4 a5 a6 j, asgS fld b1 b2 b3 b4] (eS1 fld) .none .none doc pm an (.ref cda) ct cc), osl⟩ ∧ codeIn K (.ref cda) qual = true ∧
    K.lookup cda = some ⟨ccl, cdd, .fields vs, ccs⟩ ∧ vs[2]? = some (.str file tf) ∧ ((p.main.file : Str) == file) = true ∧ K.lookup cc = some ⟨cl, cld, .cell (some (.ref C)), csl⟩ ∧
    (∀ s a v, BindsTo s (ksFn "__init__" qual (eA1 fld p1 p2) [supS msg a1 a2 a3 a4 a5 a6 j, asgS fld b1 b2 b3 b4] (eS1 fld) .none .none doc pm an (.ref cda) ct cc) ⟨[a, v], []⟩ [("self", a), (fld, v)]) ∧
    (∀ env : Env, starEach [(.Constant (.str msg) j a4 : Expr)] env = (false, eval (.Constant (.str msg) j a4) env) :: starEach [] env) ∧
    (∃ pl : Sem Bool, ∀ L : Addr, eval (supCall msg a1 a2 a3 a4 a5 j) (ksEnv qual (eS1 fld) L fI (.ref cda) cc) = supTree msg a1 a2 a3 a4 a5 j pl (ksEnv qual (eS1 fld) L fI (.ref cda) cc))
structure InitEnd (h h' : Heap) (x C dx t1 : Addr) (ns : Str → Option Value) : Prop where
  keep : ∀ b o, b ≠ x → h.get? b = some o → h'.get? b = some o
  obj : h'.get? x = some { cls := .ref C, dict := some dx, data := .fields #[.ref t1, .none, .none, .none, .bool false, .none] }
  dbig : h.objs.size ≤ dx
  dne : dx ≠ x
  ns : h'.Ns1 dx ns
section
variable {prog : Program} {w : World} {A : Around} {E : Value → Shared → Prop} {R : Result → Shared → Prop} {s : Shared} {K : Frag} {mg mb : Str → Option Value} {C fI : Addr} {qual fld msg : Str}
theorem ldC {s : Shared} {env : Env} {m : Str → Option Value} {x : Str} {pos : Pos} {v : Value} {Q : Value → Shared → Prop} {A : Around} {E : Value → Shared → Prop} {M : Model} (hn : s.heap.Ns env.locals m) (hv : m x = some v) (hk : env.scope.kind = .function) (hl : env.kindOf x = some .local) (hd : (x == ("__debug__" : Str)) = false) (h : Q v s) :
    wpAny M A (eval (.Name x pos) env) Q E s := wpAny_Name (wpAny_loadName_local hk hl hn hv h) hd
theorem sup_stmt (T : ClsTxt K mg prog C fI) {q : Str} {scope : Scope} {L cda cc x t0 : Addr} {m : Str → Option Value} {msg : Str} {a1 a2 a3 a4 a5 a6 : Pos} {j : Tok} {oc : Value} {od : Option Addr} {fd : FuncData} {osl : Array (Option Value)} {ar : Arg} {ccl : Value} {cdd : Option Addr} {vs : Array Value} {ccs : Array (Option Value)} {file : Str} {tf : Tok}
    {cl : Value} {cld : Option Addr} {csl : Array (Option Value)} {body : List Stmt} {Q : Flow → Shared → Prop}
    (X : K.In s.heap) (hg : s.heap.Ns mainGlobals mg) (hb : s.heap.Ns builtinsNs mb) (hmb : mb "super" = bootBuiltins "super") (hx : s.heap.get? x = some (excO C t0)) (hn : s.heap.Ns L m) (hv : m ar.arg = some (.ref x))
    (hf : K.lookup fI = some ⟨oc, od, .func fd, osl⟩) (hp : (fd.params.posonlyargs ++ fd.params.args).head? = some ar) (hcode : K.lookup cda = some ⟨ccl, cdd, .fields vs, ccs⟩) (hvs : vs[2]? = some (.str file tf)) (hfile : ((prog.main.file : Str) == file) = true)
    (hcell : K.lookup cc = some ⟨cl, cld, .cell (some (.ref C)), csl⟩) (hks : scope.names.lookup ("super" : Str) = some .globalImplicit) (hkc : scope.names.lookup ("__class__" : Str) = some .free) (hka : scope.names.lookup ar.arg = some .local) (hk : scope.kind = .function)
    {pl : Sem Bool} (hcall : eval (supCall msg a1 a2 a3 a4 a5 j) (ksEnv q scope L fI (.ref cda) cc) = supTree msg a1 a2 a3 a4 a5 j pl (ksEnv q scope L fI (.ref cda) cc))
    (hstar : ∀ env : Env, starEach [(.Constant (.str msg) j a4 : Expr)] env = (false, eval (.Constant (.str msg) j a4) env) :: starEach [] env)
    (hq : ∀ h' tk t1, (∀ b o, b ≠ x → s.heap.get? b = some o → h'.get? b = some o) → h'.get? x = some (excO C t1) → Q .next { s with heap := h', toks := tk }) :
    _root_.PySem.wpAt (model prog w) A (.func body (ksEnv q scope L fI (.ref cda) cc)) (exec (supS msg a1 a2 a3 a4 a5 a6 j) (ksEnv q scope L fI (.ref cda) cc)) Q E s := by
  obtain ⟨nm, qn, N, bs, bm, sn, sub, ab, col, dd, k0, k1, k2, k3, k5, hC, hbm⟩ := T.cls
  have hcl : clsIn K C = some { name := nm, bases := bs, mro := .ref C :: bm, ns := N, qualname := qn, hasDict := true, slotNames := sn, subclasses := sub, abstract := ab, collection := col, hasDel := false } := by unfold clsIn; rw [hC] <;> rfl
  obtain ⟨hh, g, d, t, os⟩ := s
  have I : InstAt hh x (excO C t0) C none := ⟨hx, rfl, rfl, trivial⟩
  have hD1 : hh.get? C = some (excClassObj nm qn C N bs bm true sn sub ab col dd k0 k1 k2 k3 k5 "ValueError.__new__") := X _ _ hC
  refine ks_wpAt_Expr_any (hi := by simp [interactive, ksEnv, envX, hk]) ?_
  refine ks_wpAt_MethodCall (pl := pl) (he := hcall) ?_
  refine ks_wpAt_super_base (env := ksEnv q scope L fI (.ref cda) cc) hks hkc (by decide) rfl (X _ _ hf) rfl hp rfl (X _ _ hcode) rfl hvs hfile T.top ?_
  refine ks_loadName_global hk hks (loadGlobal_builtin (env := ksEnv q scope L fI (.ref cda) cc) hg T.noS hb (hmb.trans (by first | rfl | decide +kernel)) ⟨rfl, ?_⟩)
  refine wpAny_loadName_free hk hkc rfl ⟨_, X _ _ hcell, rfl⟩ ?_
  refine wpAny_loadName_local hk hka hn hv ?_
  refine ks_wpAny_isType_cls hD1 rfl ⟨rfl, ?_⟩
  refine ks_wpAny_call_super hD1 rfl I.at_ I.cls (fun c e => nomatch e) (looks_mroIn X T.sub) (fun h' e k => ?_)
  have X1 : K.In h' := X.keeps k
  have hx1 := k _ _ hx
  have I1 : InstAt h' x (excO C t0) C none := ⟨hx1, rfl, rfl, trivial⟩
  have hm : alongIn K "__init__" (((.ref C :: bm : List Value).dropWhile (· != .ref C)).drop 1) = some (some (.builtin "ValueError.__init__")) := by
    have z := T.sup
    unfold ks_superIn at z
    rw [hcl] at z
    exact z
  have hI : Looks (model prog w) h' (isInstance (.ref x) (.type "ValueError")) true := I1.type.andThen (looks_subIn X1 T.veC)
  refine kxs_getMethod kxs_ValueError e (looks_opaque X1 T.opq) (l₀ := .ref C :: bm) (fun A Q E s k q => wpAny_bind ((looks_clsIn X1 hcl) A _ E s k (wpAny_pure q))) rfl X1 hm hI (ks_ne X1 I1 hcl) (by decide) ?_
  have ku : (h'.push (kxs_mw "ValueError.__init__" x)).get? h'.objs.size = some (kxs_mw "ValueError.__init__" x) := Heap.get?_push_at rfl rfl
  have k2 : ∀ b o, hh.get? b = some o → (h'.push (kxs_mw "ValueError.__init__" x)).get? b = some o := fun b o e => Heap.get?_push_of_some _ (k b o e)
  rw [hstar]
  refine kxs_callWith (i := "ValueError.__init__") (x := x) (by rfl) (evalArgs_plain ?_)
  refine Calls.spliced_cons (show wpAny _ _ (eval (.Constant (.str msg) j a4) (ksEnv q scope L fI (.ref cda) cc)) _ _ _ from Calls.Constant_str (PyProof.Rows.spliced_none (env := ksEnv q scope L fI (.ref cda) cc) (pos := a5) ⟨ku, ?_⟩))
  refine wpAny_call (codeAny_of_tree ?_)
  show wpAny _ A.in1 (callAny (.ref h'.objs.size) ⟨_, []⟩) _ _ _
  simp only [callAny]
  refine wpAny_bind (wpAny_load ku ?_)
  simp only [kxs_mw, show (Value.type "method-wrapper" == Value.type "method" || Value.type "method-wrapper" == Value.type "builtin_function_or_method" || Value.type "method-wrapper" == Value.type "method-wrapper") = true by decide, if_true]
  refine KFB.if_so (by decide) ?_
  refine wpAny_bind (check_bound_init F.excBase_ValueError.toExcCallFacts (k2 _ _ hD1) (k2 _ _ hx) rfl ?_)
  refine wpAny_bind (wpAny_pure (wpAny_pure ?_))
  refine ⟨plainId_quiet F.excBase_ValueError.init.plain _, codeAny_builtin F.excBase_ValueError.initEntry ?_⟩
  refine exc_init_tree (cls := .ref C) (t0 := t0) (dv := none) (c2 := .none) (c3 := .none) (b4 := .bool false) (k2 _ _ hx) (by first | (rw [sizeLine_eq]; decide) | (simp; rw [sizeLine_eq]; decide)) fun h3 k3 e3 t3 => ?_
  exact hq h3 _ _ (fun b o hb e => k3 b o hb (k2 b o e)) e3
theorem ex1_init (T : Ex1Txt K mg prog C fI qual fld msg) {x t0 : Addr} {v : Value} (X : K.In s.heap) (hg : s.heap.Ns mainGlobals mg) (hb : s.heap.Ns builtinsNs mb) (hmb : mb "super" = bootBuiltins "super") (hlim : s.heap.NoLimit) (hx : s.heap.get? x = some (excO C t0)) (hnx : K.lookup x = none) (hroom : A.depth < recursionLimit)
    (hq : ∀ h' tk dx t1, InitEnd s.heap h' x C dx t1 (fun y => if y = fld then some v else none) → R (.ok (.ret .none)) { s with heap := h', toks := tk }) :
    codeAny (model prog w) A (.call (.ref fI) ⟨[.ref x, v], []⟩) R s := by
  obtain ⟨oc, od, doc, pm, an, cda, cc, ct, osl, p1, p2, a1, a2, a3, a4, a5, a6, b1, b2, b3, b4, j, ccl, cdd, vs, ccs, file, tf, cl, cld, csl, ho, hcd, hcode, hvs, hfile, hcell, hbind, hstar, pl, hcall⟩ := T.fn
  obtain ⟨nm, qn, N, bs, bm, sn, sub, ab, col, dd, k0, k1, k2, k3, k5, hC, hbm⟩ := T.cls
  have hcl : clsIn K C = some { name := nm, bases := bs, mro := .ref C :: bm, ns := N, qualname := qn, hasDict := true, slotNames := sn, subclasses := sub, abstract := ab, collection := col, hasDel := false } := by unfold clsIn; rw [hC] <;> rfl
  refine ks_codeAny_call_defAt (fd := ksFn "__init__" qual (eA1 fld p1 p2) [supS msg a1 a2 a3 a4 a5 a6 j, asgS fld b1 b2 b3 b4] (eS1 fld) .none .none doc pm an (.ref cda) ct cc) (body := [supS msg a1 a2 a3 a4 a5 a6 j, asgS fld b1 b2 b3 b4]) (binds := [("self", .ref x), (fld, v)])
    hroom (X _ _ ho) rfl hlim (codeRec_of X hcd) rfl (hbind s _ v) T.fl.c (fun y hy => ?_) (fun h₁ hns hk₁ => ?_) rfl rfl rfl
  · rcases List.mem_cons.mp hy with rfl | hy
    · exact T.fl.l1
    · rw [List.mem_singleton.mp hy]; exact T.fl.l2
  have X₁ : K.In h₁ := X.keeps hk₁
  have hx₁ := hk₁ _ _ hx
  refine ks_wpAt_execs_cons ?_
  refine sup_stmt (s := ⟨h₁, s.gens, s.drawn, _, s.os⟩) (t0 := t0) (q := qual) (scope := eS1 fld) (L := s.heap.objs.size) (ar := { arg := "self", annotation := none, pos := p1 }) (fd := ksFn "__init__" qual (eA1 fld p1 p2) [supS msg a1 a2 a3 a4 a5 a6 j, asgS fld b1 b2 b3 b4] (eS1 fld) .none .none doc pm an (.ref cda) ct cc)
    T.toClsTxt X₁ (hg.keeps hk₁) (hb.keeps hk₁) hmb hx₁ hns (T.fl.m1 _ _) ho rfl hcode hvs hfile hcell T.fl.l3 T.fl.l4 T.fl.l1 rfl (hcall _) hstar fun h₂ tk₂ t1 k₂ hx₂ => ?_
  have hxL : s.heap.objs.size ≠ x := Nat.ne_of_gt (Heap.lt_size hx)
  have X₂ : K.In h₂ := fun a o e => k₂ a o (fun z => by rw [z, hnx] at e; cases e) (X₁ a o e)
  have hn₂ : h₂.Ns s.heap.objs.size (fun y => [(("self" : Str), Value.ref x), (fld, v)].reverse.lookup y) := by
    obtain ⟨oL, es, ep, hL, r⟩ := hns
    exact ⟨oL, es, ep, k₂ _ _ hxL hL, r⟩
  refine wpAt_of_wpAny ?_
  refine wpAny_execs_cons (plainObj_wpAny_Assign_Attribute ?_)
  refine ldC (v := v) hn₂ (T.fl.m2 _ _) rfl T.fl.l2 T.fl.d (ldC (v := .ref x) hn₂ (T.fl.m1 _ _) rfl T.fl.l1 (by decide) ?_)
  refine set_plain X₂ (ox := excO C t1) (od := none) ⟨hx₂, rfl, rfl, trivial⟩ T.sa ?_
  refine exc_osa X₂ hx₂ hcl (show refsVE (.ref C :: bm) = true from hbm) rfl T.noN (fun h₃ tk₃ dx k₃ dn dne hx₃ hn₃ => ?_)
  show wpAny _ _ (execs _ _) _ _ _
  exact wpAny_execs_nil (hq h₃ tk₃ dx t1 ⟨fun b o hb e => k₃ b o hb (k₂ b o hb (hk₁ b o e)), hx₃, Nat.le_of_lt (Nat.lt_of_lt_of_le hn₂.lt dn), dne, hn₃⟩)
structure OwnMade (h h' : Heap) (e C d : Addr) (ns : Str → Option Value) : Prop where
  keep : ∀ b o, h.get? b = some o → h'.get? b = some o
  new : h.objs.size ≤ e
  obj : ∃ oe vs, h'.get? e = some oe ∧ oe.cls = .ref C ∧ oe.dict = some d ∧ oe.data = .fields vs ∧ vs[1]? = some .none ∧ vs[2]? = some .none ∧ 4 < vs.size
  dbig : h.objs.size ≤ d
  dne : d ≠ e
  ns : h'.Ns1 d ns
theorem made_of (T : ClsTxt K mg prog C fI) {rest : List Value} {ns : Str → Option Value} (X : K.In s.heap) (hz : rest.length ≤ sizeLine)
    (hin : ∀ (h₁ : Heap) (A₁ : Around) (R₁ : Result → Shared → Prop), A₁.depth ≤ A.depth + 1 → (∀ b o, s.heap.get? b = some o → h₁.get? b = some o) → h₁.get? (s.heap.objs.size + 1) = some (excO C s.heap.objs.size) → K.lookup (s.heap.objs.size + 1) = none →
      (∀ h' tk dx t1, InitEnd h₁ h' (s.heap.objs.size + 1) C dx t1 ns → h₁.objs.size = s.heap.objs.size + 2 → R₁ (.ok (.ret .none)) { s with heap := h', toks := tk }) → h₁.objs.size = s.heap.objs.size + 2 → codeAny (model prog w) A₁ (.call (.ref fI) ⟨.ref (s.heap.objs.size + 1) :: rest, []⟩) R₁ { s with heap := h₁ })
    (hq : ∀ h' tk e d, OwnMade s.heap h' e C d ns → R (.ok (.ret (.ref e))) { s with heap := h', toks := tk }) :
    codeAny (model prog w) A (.call (.ref C) ⟨rest, []⟩) R s := by
  obtain ⟨nm, q, N, bs, bm, sn, sub, ab, col, dd, k0, k1, k2, k3, k5, hC, hbm⟩ := T.cls
  obtain ⟨hp, g, dr, tk, os⟩ := s
  have k : ∀ b o, hp.get? b = some o → ((hp.push (kdv_tup rest)).push (excO C hp.objs.size)).get? b = some o := fun b o e => Heap.get?_push_of_some _ (Heap.get?_push_of_some _ e)
  have hget : ((hp.push (kdv_tup rest)).push (excO C hp.objs.size)).get? (hp.objs.size + 1) = some (excO C hp.objs.size) := by heap_get
  have hsz : ((hp.push (kdv_tup rest)).push (excO C hp.objs.size)).objs.size = hp.objs.size + 2 := by rw [Heap.size_push, Heap.size_push]
  have hnx : K.lookup (hp.objs.size + 1) = none := by
    cases e : K.lookup (hp.objs.size + 1) with
    | none => rfl
    | some o =>
      have z : hp.get? (hp.objs.size + 1) = some o := X _ _ e
      exact absurd (Nat.lt_of_succ_lt (Heap.lt_size z)) (Nat.lt_irrefl _)
  refine call_own F.excBase_ValueError (fun X => refsVE_contains X bm hbm) (X _ _ hC) (looks_findIn X T.iC) (fun self => bind_fn X self T.tC) hz ?_
  refine hin _ _ _ (Nat.le_refl _) k hget hnx (fun h' tk' dx t1 M _ => ?_) hsz
  have old : ∀ b o, hp.get? b = some o → h'.get? b = some o := fun b o e => M.keep b o (Nat.ne_of_lt (Nat.lt_succ_of_lt (Heap.lt_size e))) (k b o e)
  have dn := M.dbig
  rw [hsz] at dn
  exact ⟨rfl, hq h' tk' (hp.objs.size + 1) dx ⟨old, Nat.le_succ _, ⟨_, _, M.obj, rfl, rfl, rfl, rfl, rfl, by show (4 : Nat) < 6; decide⟩, by show hp.objs.size ≤ dx; omega, M.dne, M.ns⟩⟩
theorem ex1_made (T : Ex1Txt K mg prog C fI qual fld msg) {v : Value} (X : K.In s.heap) (hg : s.heap.Ns mainGlobals mg) (hb : s.heap.Ns builtinsNs mb) (hmb : mb "super" = bootBuiltins "super") (hlim : s.heap.NoLimit) (hroom : A.depth + 1 < recursionLimit)
    (hq : ∀ h' tk e d, OwnMade s.heap h' e C d (fun y => if y = fld then some v else none) → R (.ok (.ret (.ref e))) { s with heap := h', toks := tk }) :
    codeAny (model prog w) A (.call (.ref C) ⟨[v], []⟩) R s :=
  made_of T.toClsTxt X (by rw [sizeLine_eq]; exact (by decide : 1 ≤ 16777216)) (fun h₁ A₁ R₁ hA k hx hnx hR hsz => ex1_init (s := { s with heap := h₁ }) T (X.keeps k) (hg.keeps k) (hb.keeps k) hmb (hlim.keeps k) hx hnx (by omega) fun h' tk dx t1 M => hR h' tk dx t1 M hsz) hq
end
end ExF
end PySem
namespace L2
open PySem PySem.Spec PyProof.Rows
theorem relO_1 {fld : Str} {v : V} {v' : Value} (r : RelV v v') (f : Str) : RelO (List.lookup f [(fld, v)]) (if f = fld then some v' else none) := by
  by_cases hw : f = fld
  · subst hw
    rw [if_pos rfl]
    have q : List.lookup f [(f, v)] = some v := by simp [List.lookup]
    rw [q]
    exact r
  · rw [if_neg hw]
    have qw : (f == fld) = false := by simpa using hw
    have q2 : List.lookup f [(fld, v)] = none := by simp [List.lookup, qw]
    rw [q2]
    trivial
section
variable {X : Cx} {C fI : Addr} {qual fld msg x : Str}
theorem mkP_of {pins : List (Addr × Obj)} {σ : St} {H1 : Hp} {hp : Heap} {g : Array GenState} {dr : Drawn} {tk : Nat} {os : OsState} {Q : XK} (I1 : Inv X pins σ H1 ⟨hp, g, dr, tk, os⟩) (T : Raises X (.ref C)) {h' : Heap} {tk' : Nat} {e d : Addr} {ns : Str → Option Value} {fs : List (Str × V)}
    (M : PySem.ExF.OwnMade hp h' e C d ns) (r : ∀ f, RelO (fs.lookup f) (ns f)) (q1 : ∀ d, H1 d = none → Q (.ref C) (some d) (upd H1 d (.xd fs))) : L2N.MkP X pins σ Q (.ref e) ⟨h', g, dr, tk', os⟩ ∧ L2H.Six (.ref e) ⟨h', g, dr, tk', os⟩ := by
  obtain ⟨oe, fv, hoe, hc, hd, hdat, h1, h2, h4⟩ := M.obj
  have hns := M.ns
  obtain ⟨G', g1, g2⟩ := restrict h' fun b => decide (b ≠ e)
  have gk : ∀ b, b ≠ e → G'.get? b = h'.get? b := fun b hb => g1 b (decide_eq_true hb)
  have ge : G'.get? e = none := g2 e (by simp)
  have old : ∀ b o, hp.get? b = some o → G'.get? b = some o := fun b o q => (gk b (Nat.ne_of_lt (Nat.lt_of_lt_of_le (Heap.lt_size q) M.new))).trans (M.keep b o q)
  have ob : ObjOk X.prog X.w (upd H1 d (.xd fs)) G' d (.xd fs) := ⟨_, hns.at (fun o q => (gk d M.dne).trans q), r⟩
  have J : Inv X pins σ (upd H1 d (.xd fs)) ⟨G', g, dr, tk', os⟩ := I1.laid (t' := tk') old M.dbig ob
  refine ⟨⟨e, oe, fv, ⟨G', g, dr, tk', os⟩, _, .ref C, some d, rfl, J, fun b o q => ?_, ge, hoe, ⟨hc, hd, fun vs q => by rw [hdat] at q; cases q; exact h2⟩, hdat, h1, ?_, rfl, I1.bare, T, q1 d (I1.hok.fresh M.dbig)⟩, fun a' o' vs' ea e1 e2 => ?_⟩
  · by_cases hb : b = e
    · have q' : G'.get? b = some o := q
      rw [hb, ge] at q'; cases q'
    · exact (gk b hb).symm.trans q
  · rw [upd_ne (Ne.symm M.dne)]
    exact I1.hok.fresh M.new
  · cases ea
    have e1' : h'.get? e = some o' := e1
    rw [hoe] at e1'; cases e1'
    rw [hdat] at e2; cases e2
    exact h4
def tMk1 (C : Addr) (fld : Str) (ta : TA) : St → Hp → XK → Prop := fun σ H Q => ta σ H fun vs H1 => ∃ v, vs = [v] ∧ ∀ d, H1 d = none → Q (.ref C) (some d) (upd H1 d (.xd [(fld, v)]))
theorem pmk5_1 {a : Expr} {ta : TA} {p pos : Pos} (T : PySem.ExF.Ex1Txt X.K X.mg X.prog C fI qual fld msg) (gC : X.mg x = some (.ref C)) (hr : X.A.depth + 1 < recursionLimit) (ha : PA X [a] ta) (hg : Gl X x) (hdb : (x == ("__debug__" : Str)) = false := by decide)
    (he : starEach (a :: []) X.env = (false, eval a X.env) :: starEach [] X.env := by rfl) (hpl : (backTo pos (starEach [] X.env)).any (·.1) = false := by rfl) :
    L2H.PMk5 X (.Call (.Name x p) [a] [] pos) (tMk1 C fld ta) := by
  intro pins s σ H Q I h
  refine wpAny_Call_Name_kw (ld_glob I hg gC ?_ hdb)
  refine PySem.W.callWith_K (h₀ := X.base) I.ok.mod.kin T.kC (thn (ha.run pos pins s σ H _ I h) fun us s1 hh => ?_) he hpl
  obtain ⟨vs, H1, I1, r1, v, ev, q1⟩ := hh
  subst ev
  refine ⟨I1.kIn, ?_⟩
  cases r1 with
  | cons rv rn =>
    rename_i v' us'
    cases rn
    show wpAny _ _ (call (.ref C) [v']) _ _ _
    have hlim := I1.nolimit
    have hgl := I1.mod.glob.keeps I1.bk
    obtain ⟨mb, hb1, hb2⟩ := I1.mod.blt
    have hbl := hb1.keeps I1.bk
    obtain ⟨hp, g, dr, tk, os⟩ := s1
    exact wpAny_call (PySem.ExF.ex1_made T I1.kIn hgl hbl (hb2 _ (by decide)) hlim hr fun h' tk' e d M => mkP_of I1 (raises_own T.exC T.tyC) M (relO_1 rv) q1)
theorem pmk_1 {a : Expr} {ta : TA} {p pos : Pos} {k : Nat} (T : PySem.ExF.Ex1Txt X.K X.mg X.prog C fI qual fld msg) (gC : X.mg x = some (.ref C)) (hr : Room k X.A) (ha : PA X [a] ta) (hg : Gl X x) (hdb : (x == ("__debug__" : Str)) = false := by decide)
    (he : starEach (a :: []) X.env = (false, eval a X.env) :: starEach [] X.env := by rfl) (hpl : (backTo pos (starEach [] X.env)).any (·.1) = false := by rfl) :
    L2N.PMk X (.Call (.Name x p) [a] [] pos) (tMk1 C fld ta) := (pmk5_1 T gC (by have := hr.dp; omega) ha hg hdb he hpl).pmk
end
end L2

set_option Elab.async false
set_option linter.all false
set_option maxRecDepth 100000
set_option maxHeartbeats 4000000
namespace Mz
open PySem PySem.Spec PyProof.Rows L2
def mRaise1 (c : Nat) (f : Str) (a : ME) : MS := fun env st => ofR env (a env st) fun x st1 => match x with
  | .v w => .ex c [f] [w] env st1
  | _ => .bad
section
variable {X : Cx} {cl : Nat → Addr} {Wx : WX} {x : Str} {pos pos' p p2 np : Pos} {e : Expr} {me : ME}
theorem is_raise1 {c k : Nat} {fI : Addr} {qual fld msg : Str} (T : PySem.ExF.Ex1Txt X.K X.mg X.prog (cl c) fI qual fld msg) (gC : X.mg x = some (.ref (cl c))) (hr : Room k X.A) (he : IE X cl Wx e me) (hg : Gl X x) (hc : X.calm = true) (tk : Takes X Wx) (hdb : (x == ("__debug__" : Str)) = false := by decide)
    (hs : starEach (e :: []) X.env = (false, eval e X.env) :: starEach [] X.env := by rfl) (hpl : (backTo pos (starEach [] X.env)).any (·.1) = false := by rfl) :
    IS X cl Wx (.Raise (some (.Call (.Name x p) [e] [] pos)) none pos') (mRaise1 c fld me) :=
  ps_weak (L2N.ps_raise hc tk.n (pmk_1 T gC hr (pa_cons he pa_nil hs) hg hdb hs hpl)) fun D σ H ⟨env, ρ, G, st, rel, er, h⟩ => by
    refine ⟨env, ρ, G, st, rel, er, PostS.ofR (R := Mz.SlR ⟨X.K, cl⟩) er h fun y st1 ρ1 G1 H1 u f1 r1 s1 p1 => ?_⟩
    split at p1
    · rename_i w
      refine ⟨u, rfl, fun d hd => ?_⟩
      obtain ⟨f2, r2⟩ := r1.newG (o := .xd [(fld, u)]) hd
      exact p1 _ _ _ σ (some d) f2 r2 ((er.mono f1).mono f2) (.inr ⟨d, [u], rfl, upd_same, rfl, Reps.cons (Rep.mono f2.ex _ _ s1) Reps.nil⟩)
    · exact p1.elim
end
structure Gd (T : Tx) (cs : List (Nat × Bool)) (i : Nat) (a : Addr) (cls : Value) (d : Option Addr) (σ : L2.St) (G : Hp) (c : Nat) (ns : List Str) (ws : List W) : Prop where
  sl : σ[i]? = some (some (.ref a))
  cl : cls = .ref (T.cl c)
  lk : cs.lookup c = some true
  ex : ExR T G ns ws d
theorem ExR.mono {T : Tx} {G G' : Hp} {ns : List Str} {ws : List W} {d : Option Addr} (e : ∀ a o, G a = some o → G' a = some o) (h : ExR T G ns ws d) : ExR T G' ns ws d := by
  rcases h with h | ⟨dd, vs, h1, h2, h3, h4⟩
  · exact .inl h
  · exact .inr ⟨dd, vs, h1, e _ _ h2, h3, Reps.mono e _ _ h4⟩
theorem Gd.mono {T : Tx} {cs : List (Nat × Bool)} {i : Nat} {a : Addr} {cls : Value} {d : Option Addr} {σ : L2.St} {G G' : Hp} {c : Nat} {ns : List Str} {ws : List W} (e : ∀ a o, G a = some o → G' a = some o) (g : Gd T cs i a cls d σ G c ns ws) : Gd T cs i a cls d σ G' c ns ws := ⟨g.sl, g.cl, g.lk, g.ex.mono e⟩
abbrev XE1 := Nat → List Str → List W → ME
abbrev XA1 := Nat → List Str → List W → MA
abbrev XS1 := Nat → List Str → List W → MS
def tX (T : Tx) (Wx : WX) (cs : List (Nat × Bool)) (i : Nat) (a : Addr) (cls : Value) (d : Option Addr) (m : XE1) : TE := fun σ H Q => ∃ c ns ws env ρ G st, Gd T cs i a cls d σ G c ns ws ∧ Rel T ρ G H st ∧ EnvR T ρ G env σ ∧ PostR T ρ G (Mz.SlR T) (m c ns ws env st) Q fun c d H' => Wx c d σ H'
def keepI (i : Nat) (a : Addr) (D : Ends) : Ends := ⟨fun σ' H' => σ'[i]? = some (some (.ref a)) → D.nx σ' H', D.rt, fun σ' H' => D.bk σ' H', fun σ' H' => D.ct σ' H'⟩
def tXS (T : Tx) (Wx : WX) (cs : List (Nat × Bool)) (i : Nat) (a : Addr) (cls : Value) (d : Option Addr) (m : XS1) : TS := fun D σ H => ∃ c ns ws env ρ G st, Gd T cs i a cls d σ G c ns ws ∧ Rel T ρ G H st ∧ EnvR T ρ G env σ ∧ PostS T ρ G (m c ns ws env st) (keepI i a D) Wx
structure XcF (K : PySem.W.Frag) (C : Addr) : Prop where
  xf : XfC K C
  cs : (PySem.W.clsIn K C).isSome = true
  ha : PySem.W.findIn K (.ref C) "__class__" = some (some (.builtin "object.__class__"))
  hn : PySem.W.specialIn K (.builtin "object.__class__") "__get__" = some (some (.builtin "getset_descriptor.__get__"))
  ht : PySem.W.takesIn K (.builtin "object.__class__") = some true
  hm : PySem.W.mroIn K C (.type "object") = some true
def mXf (f : Str) : XE1 := fun _ ns ws _ st => match (ns.zip ws).lookup f with
  | some w => .ok (.v w) st
  | none => .bad
section
variable {X : Cx} {cl : Nat → Addr} {Wx : WX} {cs : List (Nat × Bool)} {i : Nat} {a : Addr} {oe : Obj} {cls : Value} {d : Option Addr} {pn : List (Addr × Obj)} {e b : Expr} {es : List Expr} {pos pos' p p2 : Pos} {x y f : Str}
abbrev XIE (X : Cx) (cl : Nat → Addr) (Wx : WX) (cs : List (Nat × Bool)) (i : Nat) (a : Addr) (oe : Obj) (cls : Value) (d : Option Addr) (pn : List (Addr × Obj)) (e : Expr) (m : XE1) : Prop := PE (X.suite a ((a, oe) :: pn)) e (tX ⟨X.K, cl⟩ Wx cs i a cls d m)
abbrev XIS (X : Cx) (cl : Nat → Addr) (Wx : WX) (cs : List (Nat × Bool)) (i : Nat) (a : Addr) (oe : Obj) (cls : Value) (d : Option Addr) (pn : List (Addr × Obj)) (s : Stmt) (m : XS1) : Prop := PS (X.suite a ((a, oe) :: pn)) s (tXS ⟨X.K, cl⟩ Wx cs i a cls d m)
abbrev XISs (X : Cx) (cl : Nat → Addr) (Wx : WX) (cs : List (Nat × Bool)) (i : Nat) (a : Addr) (oe : Obj) (cls : Value) (d : Option Addr) (pn : List (Addr × Obj)) (s : List Stmt) (m : XS1) : Prop := PSs (X.suite a ((a, oe) :: pn)) s (tXS ⟨X.K, cl⟩ Wx cs i a cls d m)
theorem x_fld (hx : ∀ c b, cs.lookup c = some b → b = true → XfC X.K (cl c) ∧ PySem.W.findIn X.K (.ref (cl c)) f = some none) (hz : Zc cls d oe) (hf : ∃ vs, oe.data = .fields vs) (hN : X.N[i]? = some x) (hv : Vis X.env.scope x) (hd : (x == ("__debug__" : Str)) = false := by decide) (hcd : (x == ("__classdict__" : Str)) = false := by decide)
    (hb : attributeBase (.Name x p) f X.env (eval (.Name x p) X.env) = eval (.Name x p) X.env := by rfl) : XIE X cl Wx cs i a oe cls d pn (.Attribute (.Name x p) f pos) (mXf f) := by
  refine ⟨fun pins s σ H Q I h => ?_⟩
  obtain ⟨c, ns, ws, env, ρ, G, st, g, rel, er, q⟩ := h
  obtain ⟨t1, t2⟩ := hx c true g.lk rfl
  have hcl := g.cl
  subst hcl
  refine (pe_xf (X := X) (te := tVar i) (e := .Name x p) t1 t2 hz hf (pe_var (X := X.suite a ((a, oe) :: pn)) hN hv hd hcd) hb).run pins s σ H Q I ?_
  unfold mXf at q
  split at q
  · rename_i w hw
    rcases g.ex with ⟨rfl, rfl, _⟩ | ⟨dd, vs, rfl, h2, h3, h4⟩
    · cases hw
    · obtain ⟨v, hv2, rv⟩ := look_reps h4 hw
      exact ⟨_, g.sl, rfl, rfl, dd, _, v, rfl, rel.ext _ _ h2, hv2, q.give rel rv⟩
  · exact q.elim
end
section
variable {X : Cx} {cl : Nat → Addr} {Wx : WX} {cs : List (Nat × Bool)} {i : Nat} {a : Addr} {oe : Obj} {cls : Value} {d : Option Addr} {pn : List (Addr × Obj)} {e b : Expr} {es rest : List Expr} {pos pos' p p2 : Pos} {x y f : Str} {m ma mb : XE1} {mr : XA1}
theorem x_asg (j : Nat) (hij : j ≠ i) {pos2 : Pos} (hN : X.N.Nodup) (he : XIE X cl Wx cs i a oe cls d pn e m) (hj : X.N[j]? = some y := by rfl) (hy : Loc X.env.scope y := by first | exact Or.inl rfl | exact Or.inr rfl) (hs : swapsWith e (some (.Name y pos2)) pos.line X.env = pure false := by rfl)
    (hf : X.fn y = true ∨ X.env.scope.names.lookup y = some .local := by first | exact .inl rfl | exact .inr rfl | assumption) : XIS X cl Wx cs i a oe cls d pn (.Assign [.Name y pos2] e pos) (fun c ns ws => mAsg j (m c ns ws)) :=
  ps_weak (ps_set (X := X.suite a ((a, oe) :: pn)) hN hj hy he hs hf) fun D σ H ⟨c, ns, ws, env, ρ, G, st, g, rel, er, p⟩ => ⟨c, ns, ws, env, ρ, G, st, g, rel, er, PostS.ofR (R := Mz.SlR ⟨X.K, cl⟩) er p fun x st1 ρ1 G1 H1 u f1 r1 s1 p1 =>
    PostS.nx p1 r1 ((er.mono f1).set j s1) (by rw [List.getElem?_set_ne hij]; exact g.sl)⟩
variable {s : Stmt} {ss : List Stmt} {ms mss : XS1}
theorem xs_one (h : XIS X cl Wx cs i a oe cls d pn s ms) : XISs X cl Wx cs i a oe cls d pn [s] ms := pss_one h
end
def tryX (cs : List (Nat × Bool)) (i : Nat) (ms : XS1) : SR → SR
  | .ex c ns ws env st => match cs.lookup c with
    | some true => if i < env.length then (match ms c ns ws (env.set i none) st with
      | .nx env1 st1 => .nx (env1.set i none) st1
      | _ => .bad) else .bad
    | some false => .ex c ns ws env st
    | none => .bad
  | r => r
def mTryX (cs : List (Nat × Bool)) (i : Nat) (mb : MS) (ms : XS1) : MS := fun env st => tryX cs i ms (mb env st)
section
variable {X : Cx} {cl : Nat → Addr} {Wx : WX} {x n : Str} {pos pos' p p2 np : Pos} {mb : MS} {ms : XS1} {i : Nat}
theorem is_tryAs {k : Nat} {body suite : List Stmt} {b₀ : Stmt} (cs : List (Nat × Bool)) (hs : X.stack = X.env :: X.outer) (hf : X.env.frame = some X.env.locals) (hN : X.N.Nodup) (hi : X.N[i]? = some n) (hln : X.env.kindOf n = some .local) (hc : Names X x (.ref (cl k))) (tk : Takes X Wx)
    (hcs : ∀ c b, cs.lookup c = some b → PySem.W.exmOne X.K (.ref (cl c)) (.ref (cl k)) = some b)
    (hb : ∀ (W : WX) (pn : List (Addr × Obj)) (xe : Value → Shared → Prop), Takes (X.tr pn xe) W → PassesOwn (model X.prog X.w) X.A X.env xe → ISs (X.tr pn xe) cl W body mb)
    (hsu : ∀ (a : Addr) (oe : Obj) (cls : Value) (d : Option Addr) (pn : List (Addr × Obj)), Zc cls d oe → (∃ vs, oe.data = .fields vs) → XISs X cl Wx cs i a oe cls d pn (b₀ :: suite) ms) :
    IS X cl Wx (.Try body [.ExceptHandler (some (.Name x np)) (some n) (b₀ :: suite) pos'] [] [] pos) (mTryX cs i mb ms) := by
  have hil : ∀ {σ : L2.St} {pins : List (Addr × Obj)} {s : Shared} {H : Hp}, Inv X pins σ H s → i < σ.length := fun I => by rw [I.len]; exact get_lt hi
  refine ⟨fun pins s σ H D I h => ?_⟩
  have hσl := I.len
  refine (ps_try_as' (Wout := Wx) (c := .ref (cl k)) (ts := fun a cls d => tXS ⟨X.K, cl⟩ Wx cs i a cls d ms) (tb := fun W => tS ⟨X.K, cl⟩ W mb) hs hf hN hi hln hc tk (fun W pn xe t o => hb W pn xe t o) (fun a oe cls d pn z f => hsu a oe cls d pn z f)).run pins s σ H D I ?_
  obtain ⟨env, ρ, G, st, rel, er, h⟩ := h
  refine ⟨env, ρ, G, st, rel, er, ?_⟩
  have h' : PostS ⟨X.K, cl⟩ ρ G (tryX cs i ms (mb env st)) D Wx := h
  revert h'
  cases mb env st with
  | ex c ns ws env2 st2 =>
    intro h' ρ1 G1 H1 σ1 d f1 r1 e1 hx
    unfold tryX at h'
    dsimp only at h'
    cases hl : cs.lookup c with
    | none => rw [hl] at h'; exact h'.elim
    | some b =>
      rw [hl] at h'
      refine ⟨b, hcs c b hl, fun hb2 a _ => ?_, fun hb2 => ?_⟩
      · subst hb2
        have hlen : σ1.length = env2.length := e1.1.symm
        dsimp only at h'
        by_cases hi1 : i < σ1.length
        · rw [if_pos (by rw [← hlen]; exact hi1)] at h'
          refine ⟨c, ns, ws, env2.set i none, ρ1, G1, st2, ⟨List.getElem?_set_self hi1, rfl, hl, hx⟩, r1, e1.unset i _, ?_⟩
          have h2 := PostS.mono f1 h'
          revert h2
          cases ms c ns ws (env2.set i none) st2 with
          | nx env3 st3 => exact fun h2 ρ2 G2 H2 σ2 f2 r2 e2 _ => h2 ρ2 G2 H2 (σ2.set i none) f2 r2 (e2.unset i _)
          | rt s3 st3 => exact fun h2 => h2.elim
          | bk env3 st3 => exact fun h2 => h2.elim
          | ct env3 st3 => exact fun h2 => h2.elim
          | ex c3 ns3 ws3 env3 st3 => exact fun h2 => h2.elim
          | bad => exact fun h2 => h2.elim
        · rw [if_neg (by rw [← hlen]; exact hi1)] at h'
          exact h'.elim
      · subst hb2
        exact h' ρ1 G1 H1 σ1 d f1 r1 e1 hx
  | nx env2 st2 => exact fun h' => h'
  | rt s st2 => exact fun h' => h'
  | bk env2 st2 => exact fun h' => h'
  | ct env2 st2 => exact fun h' => h'
  | bad => exact fun h' => h'
end
theorem e_tryX {cs : List (Nat × Bool)} {i : Nat} {mb : MS} {ms : XS1} {env : Env} {st : Store} : mTryX cs i mb ms env st = tryX cs i ms (mb env st) := rfl
theorem x_nx {cs : List (Nat × Bool)} {i : Nat} {ms : XS1} {env : Env} {st : Store} : tryX cs i ms (.nx env st) = .nx env st := rfl
theorem x_rt {cs : List (Nat × Bool)} {i : Nat} {ms : XS1} {s : Sl} {st : Store} : tryX cs i ms (.rt s st) = .rt s st := rfl
def kTryX (o : Option Bool) (i : Nat) (ms : XS1) (c : Nat) (ns : List Str) (ws : List W) (env : Env) (st : Store) : SR := match o with
    | some true => if i < env.length then (match ms c ns ws (env.set i none) st with
      | .nx env1 st1 => .nx (env1.set i none) st1
      | _ => .bad) else .bad
    | some false => .ex c ns ws env st
    | none => .bad
def kTryY (i : Nat) : SR → SR
  | .nx env1 st1 => .nx (env1.set i none) st1
  | _ => .bad
theorem x_ex {cs : List (Nat × Bool)} {i : Nat} {ms : XS1} {c : Nat} {ns : List Str} {ws : List W} {env : Env} {st : Store} : tryX cs i ms (.ex c ns ws env st) = kTryX (cs.lookup c) i ms c ns ws env st := by
  unfold tryX kTryX; rfl
theorem x_yes {i : Nat} {ms : XS1} {c : Nat} {ns : List Str} {ws : List W} {env : Env} {st : Store} (h : i < env.length) : kTryX (some true) i ms c ns ws env st = kTryY i (ms c ns ws (env.set i none) st) := by
  unfold kTryX kTryY; dsimp only; rw [if_pos h]
theorem x_no {i : Nat} {ms : XS1} {c : Nat} {ns : List Str} {ws : List W} {env : Env} {st : Store} : kTryX (some false) i ms c ns ws env st = .ex c ns ws env st := rfl
theorem x_y {i : Nat} {env : Env} {st : Store} : kTryY i (.nx env st) = .nx (env.set i none) st := rfl
theorem e_raise1 {c : Nat} {f : Str} {a : ME} {env : Env} {st : Store} : mRaise1 c f a env st = ofR env (a env st) fun x st1 => match x with
  | .v w => .ex c [f] [w] env st1
  | _ => .bad := rfl
theorem k_raise1 {c : Nat} {f : Str} {w : W} {env : Env} {st : Store} : ofR env (.ok (Sl.v w) st) (fun x st1 => match x with
  | .v w => .ex c [f] [w] env st1
  | _ => .bad) = .ex c [f] [w] env st := rfl
theorem cls_some {K : PySem.W.Frag} {C : Addr} (h : PySem.W.hasDictIn K C = true) : (PySem.W.clsIn K C).isSome = true := by
  obtain ⟨cd, hc, _⟩ := PySem.W.any_some h
  rw [hc]; rfl
end Mz

set_option Elab.async false
set_option linter.all false
set_option maxRecDepth 100000
set_option maxHeartbeats 4000000
namespace Mz
open PySem L2
section
variable {α : Type}
end
end Mz

set_option Elab.async false
set_option linter.all false
set_option maxRecDepth 100000
set_option maxHeartbeats 4000000
namespace PySem.W
open Lean Elab Tactic Meta PySem PySem.Calls PyProof.Rows PySem.Spec
section
variable {prog : Program} {w : World} {M : Model} {A : Around} {E : Value → Shared → Prop} {s : Shared} {K : Frag} {x C L f f0 : Addr} {h₀ : Heap} {m : Str → Option Value} {ox : Obj} {od : Option Obj} {nm : String}
end
end PySem.W
namespace Mz
open PySem PySem.Spec PyProof.Rows L2
section
variable {X : Cx} {cl : Nat → Addr} {Wx : WX} {e : Expr} {me : ME} {pos p p2 : Pos} {x : Str}
structure DecI (op : Operator) (idl : String) : Prop where
  fill : fillsNumberSlot (.type "int") op.info.2 = pure true
  slot : Slot "int" (PySem.dunder op.info.2) idl
  dec : ∀ (prog : Program) (w : World) (A : Around) (s : Shared) (a : Int) (t : Tok) (l dx C : Addr) (Q E : Value → Shared → Prop), s.heap.get? l = some (PySem.W.instObj C dx) → Q .notImplemented s → wpAny (model prog w) A (call (.builtin idl) [.int a t, .ref l]) Q E s
end
section
variable {c : Nat} {F R : MF} {std : Op2} {x y : Sl} {st : Store} {i j : Int} {t : String} {a : ME} {env : Env}
end
end Mz

set_option Elab.async false
set_option linter.all false
set_option maxRecDepth 100000
set_option maxHeartbeats 4000000
namespace Mz
open PySem PySem.Spec PyProof.Rows L2
section
variable {X : Cx} {cl : Nat → Addr} {Wx : WX} {e : Expr} {me : ME} {pos p p2 p3 p4 : Pos} {x y : Str}
end
section
variable {c : Nat} {F : MF} {std : Op2} {x y : Sl} {st : Store} {i j : Int} {t : String} {a : ME} {env : Env}
end
end Mz

set_option Elab.async false
set_option linter.all false
set_option maxRecDepth 100000
set_option maxHeartbeats 4000000
namespace Mz
open PySem PySem.Spec PyProof.Rows L2
def strsOf : List W → Option (List Str)
  | [] => some []
  | .str i :: r => (strsOf r).map (i :: ·)
  | _ :: _ => none
theorem strs_rep {T : Tx} {G : Hp} : ∀ {xs : List W} {ys : List Str} {vs : List V}, strsOf xs = some ys → Reps T G xs vs → vs = ys.map V.str
  | [], ys, vs, h, hr => by
    cases h
    unfold Reps at hr
    rw [hr]; rfl
  | x :: r, ys, vs, h, hr => by
    unfold Reps at hr
    obtain ⟨v, t, rfl, h2, h3⟩ := hr
    cases x with
    | str i =>
      obtain ⟨z, h1, rfl⟩ := Option.map_eq_some_iff.mp (show (strsOf r).map (i :: ·) = some ys from h)
      unfold Rep at h2
      rw [h2, strs_rep h1 h3, List.map_cons]
    | _ => cases h
def joinOf (a : Str) (y : Sl) (st : Store) : Res Sl := match litems st y with
  | some xs => match strsOf xs with
    | some ys => if (ys.map (·.length)).sum + ys.length * a.length ≤ 16777216 then .ok (.v (.str (Txt.join a ys))) st else .bad
    | none => .bad
  | none => .bad
def mJoin (o e : ME) : ME := fun env st => (o env st).bind fun x st1 => match x with
  | .v (.str a) => (e env st1).bind fun y st2 => joinOf a y st2
  | _ => .bad
section
variable {X : Cx} {cl : Nat → Addr} {Wx : WX} {o e : Expr} {mo me : ME} {pos apos : Pos}
theorem ie_join (ho : IE X cl Wx o mo) (he : IE X cl Wx e me) (hs : starEach [e] X.env = [(false, eval e X.env)] := by rfl) (hbase : attributeBase o "join" X.env (eval o X.env) = eval o X.env := by rfl) (hline : (apos.endLine == pos.line) = true := by rfl) :
    IE X cl Wx (.Call (.Attribute o "join" apos) [e] [] pos) (mJoin mo me) :=
  pe_weak (pe_join ho he hs hbase hline) fun σ H Q ⟨env, ρ, G, st, rel, er, p⟩ => ⟨env, ρ, G, st, rel, er, PostR.bind (R1 := Mz.SlR ⟨X.K, cl⟩) p fun x st1 ρ1 G1 H1 u f1 r1 s1 p1 => by
    split at p1
    · rename_i a
      have s0 := s1
      unfold Mz.SlR Rep at s0
      subst s0
      refine ⟨⟨a, rfl⟩, env, ρ1, G1, st1, r1, er.mono f1, PostR.bind (R1 := Mz.SlR ⟨X.K, cl⟩) p1 fun y st2 ρ2 G2 H2 v f2 r2 s2 p2 => ?_⟩
      unfold joinOf at p2
      split at p2
      · rename_i xs ex
        split at p2
        · rename_i ys ey
          split at p2
          · rename_i hz
            obtain ⟨q, vs, rfl, hq, hr⟩ := litems_at r2 s2 ex
            rw [strs_rep ey hr] at hq
            exact ⟨a, q, ys, rfl, rfl, .inl hq, hz, pg p2 r2 rep_str⟩
          · exact p2.elim
        · exact p2.elim
      · exact p2.elim
    · exact p1.elim⟩
end
section
variable {a b : Str} {x y : Sl} {st : Store} {env : Env} {o e : ME} {ys : List Str} {i : Int}
def kJoin1 (e : ME) (env : Env) (r : Res Sl) : Res Sl := r.bind fun x st1 => match x with
  | .v (.str a) => (e env st1).bind fun y st2 => joinOf a y st2
  | _ => .bad
def kJoin2 (a : Str) (r : Res Sl) : Res Sl := r.bind fun y st2 => joinOf a y st2
theorem e_join : mJoin o e env st = kJoin1 e env (o env st) := rfl
theorem k_join1 : kJoin1 e env (.ok (.v (.str a)) st) = kJoin2 a (e env st) := rfl
theorem k_join2 : kJoin2 a (.ok y st) = joinOf a y st := rfl
end
end Mz

set_option Elab.async false
set_option linter.all false
set_option maxRecDepth 100000
set_option maxHeartbeats 4000000
namespace Mz
open PySem PySem.Spec PyProof.Rows L2
section
variable {X : Cx} {cl : Nat → Addr} {Wx : WX}
end
end Mz

set_option Elab.async false
set_option linter.all false
set_option maxRecDepth 100000
set_option maxHeartbeats 4000000
namespace L2
open PySem PySem.Spec PyProof.Rows
section
variable {X : Cx}
end
end L2
namespace Mz
open PySem PySem.Spec PyProof.Rows L2
theorem i_int {i : Int} {st : Store} : items st (.v (.int i)) = none := rfl
end Mz

set_option Elab.async false
set_option linter.all false
set_option maxRecDepth 100000
set_option maxHeartbeats 4000000
namespace Mz
open PySem PySem.Spec PyProof.Rows L2
section
variable {X : Cx} {cl : Nat → Addr} {Wx : WX}
end
end Mz

set_option Elab.async false
set_option linter.all false
set_option maxRecDepth 100000
set_option maxHeartbeats 4000000
namespace Mz
open PySem PySem.Spec PyProof.Rows L2
section
variable {T : Tx} {ρ : Mp} {G H : Hp} {st : Store}
theorem Rel.kill (r : Rel T ρ G H st) {n : Nat} {a : Addr} {xs : List W} (hn : ρ.l[n]? = some a) (hx : st.lget n = some xs) :
    ∃ vs, Fr ρ ρ G (upd G a (.lst vs)) ∧ Rel T ρ (upd G a (.lst vs)) H (st.setl n .dead) ∧ Reps T (upd G a (.lst vs)) xs vs := by
  have hx0 := Store.lget_of hx
  obtain ⟨hG, o, ho, vs, rfl, hr⟩ := r.la n a _ hn hx0
  replace hG := hG (fun z => by cases z)
  have f : Fr ρ ρ G (upd G a (.lst vs)) := ⟨(Fr.refl ρ G).le, updG_ex hG⟩
  refine ⟨vs, f, ⟨fun b u e => ?_, ?_, r.lo, fun m b y hm hy => ?_, fun m b y hm hy => ?_, r.nl, r.no, r.tb, nt_upd r.nt (fun _ z => nomatch z)⟩, Reps.mono f.ex _ _ hr⟩
  · by_cases hb : b = a
    · subst hb; rw [upd_same] at e; cases e; exact ho
    · rw [upd_ne hb] at e; exact r.ext b u e
  · show ρ.l.length = (st.l.set n .dead).length
    rw [List.length_set]; exact r.ll
  · by_cases hmn : n = m
    · subst hmn
      rw [hn] at hm; cases hm
      have hy' : (st.l.set n Lo.dead)[n]? = some y := hy
      rw [List.getElem?_set_self (get_lt hx0)] at hy'; cases hy'
      exact ⟨fun z => absurd rfl z, _, ho, .inl ⟨vs, rfl⟩⟩
    · have hb : b ≠ a := fun z => hmn (nodup_get r.nl hn (z ▸ hm))
      have hy' : (st.l.set n Lo.dead)[m]? = some y := hy
      rw [List.getElem?_set_ne hmn] at hy'
      obtain ⟨h1, o', h2, h3⟩ := r.la m b y hm hy'
      exact ⟨fun hd => by rw [upd_ne hb]; exact h1 hd, o', h2, h3.mono f.ex⟩
  · obtain ⟨h1, o', h2, h3⟩ := r.oa m b y hm hy
    have hb : b ≠ a := fun z => r.apart hn hm z.symm
    exact ⟨by rw [upd_ne hb]; exact h1, o', h2, h3.mono f⟩
end
def fzOf (x : Sl) (st : Store) : Res Sl := match x with
  | .v w => .ok (.v w) st
  | .l n => match st.lget n with
    | some xs => .ok (.v (.lst xs)) (st.setl n .dead)
    | none => .bad
  | .o _ => .bad
  | .t _ => .bad
  | .q _ _ => .bad
  | .z _ _ => .bad
def mFz (a : ME) : ME := fun env st => (a env st).bind fzOf
section
variable {X : Cx} {cl : Nat → Addr} {Wx : WX} {o e : Expr} {mo me : ME} {pos apos : Pos}
theorem ie_fz (he : IE X cl Wx e me) : IE X cl Wx e (mFz me) :=
  pe_weak he fun σ H Q ⟨env, ρ, G, st, rel, er, p⟩ => ⟨env, ρ, G, st, rel, er, PostR.bind (R1 := Mz.SlR ⟨X.K, cl⟩) p fun x st1 ρ1 G1 H1 u f1 r1 s1 p1 => by
    cases x with
    | v w => exact p1.give r1 s1
    | l n =>
      unfold fzOf at p1
      dsimp only at p1
      split at p1
      · rename_i xs hx
        obtain ⟨a, ha, rfl⟩ := s1
        obtain ⟨vs, f2, r2, hr⟩ := r1.kill ha hx
        exact p1 _ _ _ _ f2 r2 (by unfold Mz.SlR Rep; exact ⟨a, vs, rfl, upd_same, hr⟩)
      · exact p1.elim
    | o n => exact p1.elim
    | t ns => exact p1.elim
    | q k y => exact p1.elim
    | z k y => exact p1.elim⟩
end
section
variable {a b : Str} {x y : Sl} {st : Store} {env : Env} {o e : ME} {xs : List W} {n : Nat} {w : W}
def kFz (r : Res Sl) : Res Sl := r.bind fzOf
def kFz2 (n : Nat) (o : Option (List W)) (st : Store) : Res Sl := match o with
    | some xs => .ok (.v (.lst xs)) (st.setl n .dead)
    | none => .bad
theorem e_fz : mFz e env st = kFz (e env st) := rfl
theorem k_fzv : kFz (.ok (.v w) st) = .ok (.v w) st := rfl
theorem k_fzl : kFz (.ok (.l n) st) = kFz2 n (st.lget n) st := rfl
theorem k_fz2 : kFz2 n (some xs) st = .ok (.v (.lst xs)) (st.setl n .dead) := rfl
end
end Mz

set_option Elab.async false
set_option linter.all false
set_option maxRecDepth 100000
set_option maxHeartbeats 4000000
namespace Mz
open PySem PySem.Spec PyProof.Rows L2
abbrev tx (cs : List Nat) : Str := ⟨cs.toArray⟩
theorem tx_of (x : Str) : x = tx x.cps.toList := by cases x; rfl
end Mz

set_option Elab.async false
set_option linter.all false
set_option maxRecDepth 100000
set_option maxHeartbeats 4000000
namespace Mz
open PySem PySem.Spec PyProof.Rows L2
section
variable {X : Cx} {cl : Nat → Addr} {Wx : WX} {e : Expr} {m : ME} {pos : Pos}
end
section
variable {env : Mz.Env} {st : Store} {m : ME} {ms : List ME} {acc y : Str} {i : Int} {a b : List Nat}
end
def isStr : Sl → Bool
  | .v (.str _) => true
  | _ => false
def opInS (neg : Bool) : Op2
  | .v (.str s), .v (.str z), st => match s.cps.toList with
    | [c] => .ok (.v (.bl (if neg then !decide (c ∈ z.cps.toList) else decide (c ∈ z.cps.toList)))) st
    | _ => .bad
  | _, _, _ => .bad
def rInS (neg : Bool) : R2 := fun x y H Q => ∃ (c : Nat) (z : Str), x = .str ⟨#[c]⟩ ∧ y = .str z ∧ Q (.bl (if neg then !decide (c ∈ z.cps.toList) else decide (c ∈ z.cps.toList))) H
theorem s_inS {T : Tx} {neg : Bool} : OpS T (rInS neg) (opInS neg) := fun ρ G H st x y u v Q E r hx hy p => by
  unfold opInS at p
  split at p
  · rename_i q s z
    unfold SlR Rep at hx hy
    subst hx hy
    split at p
    · rename_i c hc
      refine ⟨c, z, ?_, rfl, pg p r (by unfold Rep; rfl)⟩
      have e := tx_of s
      rw [hc] at e
      rw [e]
    · exact p.elim
  · exact p.elim
theorem op_inS {X : Cx} : OpR X (compareOp .In) (rInS false) := fun pins s σ H x y v u Q I rx ry h => op_in_sign pins s σ H x y v u Q I rx ry h
abbrev opInX (neg : Bool) : Op2 := fun x y st => if isStr y = true then opInS neg x y st else opIn neg x y st
theorem o_inX {neg : Bool} {c : Nat} {z : List Nat} {st : Store} : opInX neg (.v (.str (tx [c]))) (.v (.str (tx z))) st = .ok (.v (.bl (if neg then !decide (c ∈ z) else decide (c ∈ z)))) st := rfl
section
variable {X : Cx} {cl : Nat → Addr} {Wx : WX} {x : Str} {pos : Pos}
end
end Mz

set_option Elab.async false
set_option linter.all false
set_option maxRecDepth 100000
set_option maxHeartbeats 4000000
namespace Mz
open PySem PySem.Spec PySem.Calls PyProof.Rows L2
def inBk (neg : Bool) : Res Sl → Res Sl
  | .ok (.v (.bl b)) st1 => .ok (.v (.bl (if neg then !b else b))) st1
  | _ => .bad
def inOwn (neg : Bool) (c : Nat) (F : MF) : Op2 := fun x y st => if isCl c st y = true then inBk neg (F [y, x] st) else .bad
section
variable {X : Cx} {cl : Nat → Addr} {Wx : WX}
theorem opm_in {F : MF} {k c : Nat} {g : Addr} {fd : FuncData} {ps : List Str} (hs : PySem.W.findIn X.K (.ref (cl c)) "__contains__" = some (some (.ref g))) (hf : PySem.W.isFn X.K (.ref g) = true)
    (hF : FnOk X.prog X.w X.K X.mg X.base (CXm X.K X.prog X.w) k g fd ps (spM ⟨X.K, cl⟩ 2 F)) (hr : Room k X.A) (hb : Binds X.K fd ps []) (neg : Bool) : OpM X cl Wx (compareOp (if neg then .NotIn else .In)) (inOwn neg c F) :=
  fun pins s σ H x y v u Q ρ G st sx sy I rx ry rel hx hy p => by
    unfold inOwn at p
    split at p
    · rename_i hi
      obtain ⟨a, dx, fs, rfl, hH⟩ := isCl_at rel hy hi
      cases ry
      obtain ⟨mA, J, _⟩ := ins_get I.hok hH
      obtain ⟨od, J, _⟩ := J.look
      obtain ⟨m, hFr⟩ := I.fr
      have sp : spM ⟨X.K, cl⟩ 2 F [.ref a, x] H (fun v H2 => ∃ b : Bool, v = .bl b ∧ Q (.bl (if neg then !b else b)) H2) (fun _ _ _ => False) := by
        refine ⟨ρ, G, st, [sy, sx], rel, ⟨_, _, rfl, hy, _, _, rfl, hx, rfl⟩, rfl, ?_⟩
        revert p
        cases F [sy, sx] st with
        | ok s1 st1 =>
          intro p ρ2 G2 H2 v f2 r2 hv
          unfold inBk at p
          split at p
          · rename_i b st2 e
            cases e
            unfold Mz.SlR Rep at hv
            subst hv
            exact ⟨b, rfl, p ρ2 G2 H2 _ f2 r2 (by unfold Mz.SlR Rep; rfl)⟩
          · exact p.elim
        | ex c ns ws st1 => exact fun p => p.elim
        | bad => exact fun p => p.elim
      have rv : Vals [V.ref a, x] [Value.ref a, v] := .cons rfl (.cons rx .nil)
      have hl : ([Value.ref a, v]).length = ps.length := by rw [← rv.length]; exact hF.len _ _ _ _ sp
      have bb := hb s [.ref a, v] I.kIn (by rw [List.append_nil]; exact hl)
      rw [List.append_nil] at bb
      have key : ∀ (R : Bool → Shared → Prop), (∀ (b : Bool) (s' : Shared) (H' : Hp), Inv X pins σ H' s' → Q (.bl (if neg then !b else b)) H' → R b s') →
          wpAny (model X.prog X.w) X.A (call (.ref g) [.ref a, v]) (fun r s' => wpAny (model X.prog X.w) X.A (truthy r) R X.xe s') X.xe s := fun R hR => by
        refine wpAny_call (codeAny_mono (hF.run X.A X.stack s H ⟨[.ref a, v], []⟩ _ _ _ _ hr I.env0 bb rv sp) fun r s' hq => ?_)
        cases r with
        | error e =>
          exact (noCXm hq).elim
        | ok fl =>
          cases fl with
          | ret u =>
            obtain ⟨w, H', I3, rv3, b, rfl, q3⟩ := I.after hq
            cases rv3
            exact wpAny_truthy_bool (hR b s' H' I3 q3)
          | next => exact False.elim hq
          | brk => exact False.elim hq
          | cont => exact False.elim hq
      cases neg with
      | false => exact PySem.W.in_K hFr I.ok.mod.kin J hs hf (key _ fun b s' H' I' q => ⟨.bl b, H', I', rfl, q⟩)
      | true => exact PySem.W.notIn_K hFr I.ok.mod.kin J hs hf (key _ fun b s' H' I' q => ⟨.bl (!b), H', I', rfl, q⟩)
    · exact p.elim
end
theorem inBk_1 {neg b : Bool} {st : Store} : inBk neg (.ok (.v (.bl b)) st) = .ok (.v (.bl (if neg then !b else b))) st := rfl
section
variable {M : Model} {A : Around} {E : Value → Shared → Prop} {s : Shared} {env : PySem.Env} {pos : Pos} {x C : Addr} {first : List Value} {Q : Value → Shared → Prop}
end
section
variable {X : Cx} {cl : Nat → Addr} {Wx : WX}
end
end Mz

set_option Elab.async false
set_option linter.all false
set_option maxRecDepth 100000
set_option maxHeartbeats 4000000
namespace Mz
open PySem PySem.Spec PySem.Calls PyProof.Rows L2
section
variable {T : Tx} {ρ : Mp} {G H : Hp} {st : Store}
end
section
variable {X : Cx} {cl : Nat → Addr} {Wx : WX} {a b : Expr} {ma mb : ME} {pos : Pos}
end
section
variable {env : Mz.Env} {st : Store} {m : ME} {ms : List ME} {ks : List Str} {ws : List W} {w : W} {n : Nat}
end
end Mz

set_option Elab.async false
set_option linter.all false
set_option maxRecDepth 100000
set_option maxHeartbeats 4000000
namespace Mz
open PySem PySem.Spec PySem.Calls PyProof.Rows L2
end Mz

set_option Elab.async false
set_option linter.all false
set_option maxRecDepth 100000
set_option maxHeartbeats 4000000
namespace Mz
open PySem PySem.Spec PySem.Calls PyProof.Rows L2
section
variable {X : Cx} {cl : Nat → Addr} {Wx : WX} {o e : Expr} {es : List Expr} {mo : ME} {ma : MA} {apos cpos : Pos}
end
end Mz

set_option Elab.async false
set_option linter.all false
set_option maxRecDepth 100000
set_option maxHeartbeats 4000000
namespace Mz
open PySem PySem.Spec PySem.Calls PyProof.Rows L2
open Classical in
noncomputable def keepR (st : Store) : Res Sl → Res Sl
  | .ok (.v .non) st2 => .ok (.o st.o.length) st2
  | .ex c ns ws st2 => if st2.o.take st.o.length = st.o then .ex c ns ws ⟨st2.l.take st.l.length, st.o⟩ else .bad
  | _ => .bad
theorem keep_post {T : Tx} {ρ : Mp} {G H : Hp} {st : Store} {Q : VK} {E : XK} {F : MF} {xs : List Sl} {us : List V} {c : Nat} {x dx : Addr} (r : Rel T ρ G H st) (rs : SlRs T ρ G xs us) (hx : H x = none) (hd : H dx = none) (hn : dx ≠ x)
    (p : PostR T ρ G (Mz.SlR T) (keepR st (F (.o st.o.length :: xs) (st.pusho ⟨c, [], []⟩))) Q E) :
    ∃ ρ', Rel T ρ' G (upd (upd H dx (.own x)) x (.ins (T.cl c) dx [])) (st.pusho ⟨c, [], []⟩) ∧ SlRs T ρ' G (.o st.o.length :: xs) (.ref x :: us) ∧
      PostR T ρ' G (Mz.SlR T) (F (.o st.o.length :: xs) (st.pusho ⟨c, [], []⟩)) (fun v H2 => v = .non ∧ Q (.ref x) H2) E := by
  have r1 := r.junk (o := .own x) hd
  have hx1 : upd H dx (.own x) x = none := by rw [upd_ne (Ne.symm hn)]; exact hx
  obtain ⟨f, r2⟩ := r1.newO (dx := dx) (c := c) hx1
  have hxx : (ρ.o ++ [x])[st.o.length]? = some x := by rw [← r.lo]; simp
  refine ⟨⟨ρ.l, ρ.o ++ [x]⟩, r2, ⟨.ref x, us, rfl, ⟨x, hxx, rfl⟩, rs.mono f⟩, ?_⟩
  revert p
  cases F (.o st.o.length :: xs) (st.pusho ⟨c, [], []⟩) with
  | ok a st2 =>
    intro p ρ2 G2 H2 u f2 rel su
    unfold keepR at p
    split at p
    · rename_i st3 e
      cases e
      unfold Mz.SlR Rep at su
      refine ⟨su, ?_⟩
      have hx2 : ρ2.o[st.o.length]? = some x := f2.le.2 _ _ hxx
      exact p ρ2 G2 H2 (.ref x) (f.trans f2) rel ⟨x, hx2, rfl⟩
    · rename_i e; cases e
    · exact p.elim
  | ex c' ns ws st2 =>
    intro p ρ2 G2 H2 d f2 rel hd'
    unfold keepR at p
    dsimp only at p
    split at p
    · rename_i ho
      obtain ⟨ρ3, f3, r3, _⟩ := Rel.trunc r rel (f.trans f2) ho
      exact p ρ3 G2 H2 d f3 r3 hd'
    · exact p.elim
  | bad => exact fun p => p.elim
section
variable {X : Cx} {cl : Nat → Addr} {Wx : WX} {e o : Expr} {m mo : ME} {pos pos' p apos : Pos} {f x : Str}
end
end Mz

set_option Elab.async false
set_option linter.all false
set_option maxRecDepth 100000
set_option maxHeartbeats 4000000
namespace Mz
open PySem PySem.Spec PySem.Calls PyProof.Rows L2
end Mz

set_option Elab.async false
set_option linter.all false
set_option maxRecDepth 100000
set_option maxHeartbeats 4000000
namespace Mz
open PySem PySem.Spec PySem.Calls PyProof.Rows L2
section
variable {X : Cx} {cl : Nat → Addr} {Wx : WX} {e : Expr} {es : List Expr} {ma : MA} {x : Str} {p pos : Pos}
end
end Mz

set_option Elab.async false
set_option linter.all false
set_option maxRecDepth 100000
set_option maxHeartbeats 4000000
namespace Mz
open PySem PySem.Spec PySem.Calls PyProof.Rows L2
open PySem.W (keyH_end KeepsBut KeyedOut AllAlike dataKind EachIs copyHeap copyHeap_at copyHeap_old sorted_of_sort keyedOut_each SortsAt dataLe hideAll hideAll_get hideAll_none of_hideAll)
section
variable {prog : Program} {w : World} {A : Around} {E : Value → Shared → Prop} {s : Shared} {a kS : Addr} {vs : List Value} {e1 : Nat} {P : PySem.Fin → Shared → Prop} {kz : List PyData} {f : Value} {J : Nat → List Value → Shared → Prop}
end
end Mz

set_option Elab.async false
set_option linter.all false
set_option maxRecDepth 100000
set_option maxHeartbeats 4000000
namespace Mz
open PySem PySem.Spec PySem.Calls PyProof.Rows L2 LamX
structure Lam1 (sc scope : Scope) (x : Str) : Prop where
  kd : scope.kind = .function
  noco : scope.isCoroutine = false
  nogen : scope.isGenerator = false
  par : scope.names.lookup x = some .local
  own : ∀ y ∈ scope.names, (y.2 = .local → y.1 = x) ∧ y.2 ≠ .cell
  cap : ∀ y ∈ scope.names, y.2 = .free → sc.names.lookup y.1 = some .cell ∨ sc.names.lookup y.1 = some .free
section
variable {X : Cx} {pins : List (Addr × Obj)} {σ : L2.St} {H : Hp} {s : Shared} {scope : Scope} {x : Str} {f c' : Addr} {u : Value} {v : V}
end
end Mz

set_option Elab.async false
set_option linter.all false
set_option maxRecDepth 100000
set_option maxHeartbeats 4000000
namespace Mz
open PySem PySem.Spec PySem.Calls PyProof.Rows L2 LamX
open PySem.W (AllAlike EachIs dataLe alike)
section
variable {T : Tx} {ρ ρ' : Mp} {G G' H : Hp} {st : Store}
end
section
variable {X : Cx} {cl : Nat → Addr} {Wx : WX} {pins : List (Addr × Obj)} {σ : L2.St} {ρ : Mp} {G H : Hp} {s : Shared} {st : Store}
inductive KeyR (T : Tx) (G : Hp) : List Value → List W → Prop
  | nil : KeyR T G [] []
  | cons {u : Value} {us : List Value} {w : W} {ws : List W} (h : ∃ l, RelV l u ∧ Rep T G w l) (t : KeyR T G us ws) : KeyR T G (u :: us) (w :: ws)
theorem KeyR.mono {T : Tx} {G G' : Hp} (e : ∀ a o, G a = some o → G' a = some o) : ∀ {us : List Value} {ws : List W}, KeyR T G us ws → KeyR T G' us ws
  | _, _, .nil => .nil
  | _, _, .cons ⟨l, h1, h2⟩ t => .cons ⟨l, h1, Rep.mono e _ _ h2⟩ (t.mono e)
end
end Mz

set_option Elab.async false
set_option linter.all false
set_option maxRecDepth 100000
set_option maxHeartbeats 4000000
namespace Mz
open PySem PySem.Spec PySem.Calls PyProof.Rows L2 LamX
open PySem.W (AllAlike EachIs dataLe alike)
section
variable {X : Cx} {cl : Nat → Addr} {Wx : WX} {pins : List (Addr × Obj)} {σ : L2.St} {ρ : Mp} {G H : Hp} {s : Shared} {st : Store}
end
end Mz

set_option Elab.async false
set_option linter.all false
set_option maxRecDepth 100000
set_option maxHeartbeats 4000000
namespace Mz
open PySem PySem.Spec PySem.Calls PyProof.Rows L2 LamX
open PySem.W (AllAlike)
structure FunC (K : PySem.W.Frag) (x qual : Str) (st : Stmt) (f : Addr) (fd : FuncData) (c : Addr) : Prop where
  ex : ∃ (oc : Value) (od : Option Addr) (kV doc pm : Value) (an : Option Addr) (ct : Value) (osl : Array (Option Value)),
    fd = PySem.W.fnOf x qual (defArgs st) (defBody st) (defScope st) .none kV doc pm an (.ref c) ct ∧ K.lookup f = some ⟨oc, od, .func fd, osl⟩ ∧ PySem.W.codeIn K (.ref c) qual = true
abbrev fdOf {K : PySem.W.Frag} {x qual : Str} {st : Stmt} {f : Addr} {fd : FuncData} (_ : L2.Fun K x qual st f fd) : FuncData := fd
section
variable {P : Program} {w : World} {K : PySem.W.Frag} {mg : Str → Option Value} {base : Heap} {cl : Nat → Addr}
end
end Mz

set_option Elab.async false
set_option linter.all false
set_option maxRecDepth 100000
set_option maxHeartbeats 4000000
namespace Mz
open PySem PySem.Spec PySem.Calls PyProof.Rows L2
section
variable {X : Cx} {cl : Nat → Addr} {Wx : WX}
end
end Mz

set_option Elab.async false
set_option linter.all false
set_option maxRecDepth 100000
set_option maxHeartbeats 4000000
namespace Mz
open PySem L2
open PySem.W (AllAlike dataLe alike keyToks keyToksAll)
section
variable {ks : Nat → List Int} {m n : Nat}
end
section
variable {ks : Nat → List Int} {m n : Nat}
end
end Mz

set_option Elab.async false
set_option linter.all false
set_option maxRecDepth 100000
set_option maxHeartbeats 4000000
namespace Mz
open PySem PySem.Spec PySem.Calls PyProof.Rows L2
section
variable {X : Cx} {pins : List (Addr × Obj)} {σ : L2.St} {H : Hp} {s : Shared}
variable {cl : Nat → Addr} {Wx : WX}
end
end Mz

set_option Elab.async false
set_option linter.all false
set_option maxRecDepth 100000
set_option maxHeartbeats 4000000
namespace Mz
open PySem PySem.Spec PySem.Calls PyProof.Rows L2
section
variable {X : Cx} {cl : Nat → Addr} {Wx : WX} {pos : Pos} {e o i : Expr} {me mo mi : ME}
end
end Mz

set_option Elab.async false
set_option linter.all false
set_option maxRecDepth 100000
set_option maxHeartbeats 4000000
namespace SrtO
open PySem PyProof.Rows Srt
section
variable {prog : Program} {w : World} {A : Around} {E : Value → Shared → Prop} {s : Shared}
end
end SrtO
namespace Mz
open PySem L2 PySem.Spec PyProof.Rows
end Mz

set_option Elab.async false
set_option linter.all false
set_option maxRecDepth 100000
set_option maxHeartbeats 4000000
namespace Mz
open PySem L2 PySem.Spec PyProof.Rows PyProof.V
def ipL (K : PySem.W.Frag) : TIp := fun x y H Q => ∃ l b xs zs, x = .ref l ∧ y = .ref b ∧ H l = some (.lst xs) ∧ SqL K H b zs ∧ xs.length + zs.length ≤ sizeLine ∧ Q (.ref l) (upd H l (.lst (xs ++ zs)))
section
variable {X : Cx}
theorem ip_addL : PIp X .Add (ipL X.K) := by
  intro pins s σ H x y v u Q I rx ry h
  obtain ⟨l, b, xs, zs, rfl, rfl, hH, hB, hz, q⟩ := h
  cases rx
  cases ry
  obtain ⟨z, its, n, r, hl, e⟩ := I.lstM hH
  obtain ⟨its2, r2, hl2, hz2⟩ := I.list hB
  have hl2' := r2.length
  obtain ⟨o2, e2, hc2, n2, hd2⟩ := hl2.isList
  have hsz : its.toArray.size + its2.toArray.size ≤ sizeLine := by rw [List.size_toArray, List.size_toArray]; omega
  refine iadd_road ⟨_, e, rfl⟩ ⟨_, e2, hc2⟩ (wpAny_call_entry PySem.F.slot_list_iadd ⟨_, e, rfl⟩ PySem.F.entry_list_iadd ?_ (PySem.F.args_list_iadd_2 _ _))
  show wpAny _ _ (Builtin.List.listExtendWith (.ref l) (.ref b) (.ref l)) _ _ s
  unfold Builtin.List.listExtendWith
  refine wpAny_bind (wpAny_typeOf (T := "list") ⟨o2, e2, hc2⟩ ?_)
  have ht : (Value.type "list" == Value.type "list") = true := by rfl
  rw [if_pos (by rw [ht]; simp)]
  refine wpAny_bind (listItems_at e2 hd2 ?_)
  refine wpAny_bind (listItems_at (xs := its.toArray) (n := n) e rfl ?_)
  rw [if_neg (by rw [notLongL hsz, Bool.and_false]; exact Bool.false_ne_true)]
  refine wpAny_bind (listUpdate_at (xs := its.toArray) (n := n) e rfl ?_ (by rw [List.size_toArray]; omega) (by show (its.toArray ++ its2.toArray).size ≤ sizeLine + 1; rw [Array.size_append]; omega))
  refine wpAny_pure ⟨_, rfl, .ref l, _, I.lset (its' := its ++ its2) (t' := s.toks) hH e (by simp) (r.append r2) ?_, rfl, q⟩
  rw [List.length_append]
  omega
end
def mAugL (i : Nat) (e : ME) : MS := fun env st => match env[i]? with
  | some (some (.l n)) => ofR env (e env st) fun x st1 => match st1.lget n, litems st1 x with
    | some xs, some zs => if xs.length + zs.length ≤ big then .nx (env.set i (some (.l n))) (st1.setl n (.lst (xs ++ zs))) else .bad
    | _, _ => .bad
  | _ => .bad
section
variable {X : Cx} {cl : Nat → Addr} {Wx : WX} {pos : Pos}
theorem is_augL (i : Nat) {x : Str} {e : Expr} {me : ME} {pos' : Pos} (hN : X.N.Nodup) (he : IE X cl Wx e me) (hi : X.N[i]? = some x := by rfl) (hx : Loc X.env.scope x := by first | exact Or.inl rfl | exact Or.inr rfl)
    (hf : X.fn x = true ∨ X.env.scope.names.lookup x = some .local := by first | exact .inl rfl | exact .inr rfl | assumption) : IS X cl Wx (.AugAssign (.Name x pos') .Add e pos) (mAugL i me) :=
  ps_weak (ps_aug hN hi hx he ip_addL hf) fun D σ H ⟨env, ρ, G, st, r, er, p⟩ => by
    unfold mAugL at p
    split at p
    · rename_i n ha
      obtain ⟨u, h1, h2⟩ := er.2 i _ ha
      refine ⟨_, h1, env, ρ, G, st, r, er, PostS.ofR (R := Mz.SlR ⟨X.K, cl⟩) er p fun x st1 ρ1 G1 H1 v f1 r1 s1 p1 => ?_⟩
      split at p1
      · rename_i xs zs ex ez
        split at p1
        · rename_i hz
          have h3 : Mz.SlR ⟨X.K, cl⟩ ρ1 G1 (.l n) u := SlR.mono f1 h2
          obtain ⟨a, vs, ha1, rfl, hH, hr⟩ := lst_at r1 h3 ex
          obtain ⟨b, ws, rfl, hq, hs⟩ := litems_at r1 s1 ez
          refine ⟨a, b, vs, ws, rfl, rfl, hH, hq, by rw [← hr.length, ← hs.length]; exact hz, ?_⟩
          exact PostS.nx p1 (r1.setl ha1 ⟨_, rfl, hr.append hs⟩ (Store.lget_of ex) (fun z => by cases z)) ((er.mono f1).set i h3)
        · exact p1.elim
      · exact p1.elim
    · exact p.elim
end
section
variable {X : Cx} {cl : Nat → Addr} {Wx : WX} {o : Expr} {mo : ME} {apos cpos : Pos}
end
def kAugL (i n : Nat) (env : Mz.Env) (r : Res Sl) : SR := ofR env r fun x st1 => match st1.lget n, litems st1 x with
    | some xs, some zs => if xs.length + zs.length ≤ big then .nx (env.set i (some (.l n))) (st1.setl n (.lst (xs ++ zs))) else .bad
    | _, _ => .bad
def kAugL0 (o : Option (Option Sl)) (i : Nat) (e : ME) (env : Mz.Env) (st : Store) : SR := match o with
  | some (some (.l n)) => kAugL i n env (e env st)
  | _ => .bad
theorem e_augL {i : Nat} {e : ME} {env : Mz.Env} {st : Store} : mAugL i e env st = kAugL0 env[i]? i e env st := rfl
theorem k_augL0 {i n : Nat} {e : ME} {env : Mz.Env} {st : Store} : kAugL0 (some (some (.l n))) i e env st = kAugL i n env (e env st) := rfl
end Mz

set_option Elab.async false
set_option linter.all false
set_option maxRecDepth 100000
set_option maxHeartbeats 4000000
namespace Mz
open PySem L2 PySem.Spec PyProof.Rows
section
variable {X : Cx} {cl : Nat → Addr} {Wx : WX} {e : Expr} {rest : List Expr} {me : ME} {ra : MA} {p : Pos}
end
theorem vals_map : ∀ {ws : List W}, vals (ws.map Sl.v) = some ws
  | [] => rfl
  | w :: ws => by rw [List.map_cons, v_cons, vals_map]; rfl
end Mz

set_option Elab.async false
set_option linter.all false
set_option maxRecDepth 100000
set_option maxHeartbeats 4000000
namespace Mz
open PySem L2 PySem.Spec PyProof.Rows
end Mz

set_option Elab.async false
set_option linter.all false
set_option maxRecDepth 100000
set_option maxHeartbeats 4000000
namespace Mz
open PySem PySem.Spec PySem.Calls PyProof PyProof.Rows L2
section
variable {X : Cx} {cl : Nat → Addr} {Wx : WX} {pos : Pos} {a e : Expr} {ta : TE} {te : L2.St → Hp → (Int → Int → Hp → Prop) → Prop}
end
section
variable {X : Cx} {cl : Nat → Addr} {Wx : WX} {pos p1 ps : Pos} {a e e2 : Expr} {m m2 m3 : ME}
end
section
variable {X : Cx} {cl : Nat → Addr} {Wx : WX} {pos : Pos} {a e o i : Expr} {m me mo mi : ME}
end
section
variable {neg : Bool} {env : Mz.Env} {st : Store} {m m2 m3 mk mv o i e : ME} {x y k : Sl} {n : Nat} {lo j : Int} {w : W}
end
end Mz

set_option Elab.async false
set_option linter.all false
set_option maxRecDepth 100000
set_option maxHeartbeats 4000000
namespace Mz
open PySem PySem.Spec PySem.Calls PyProof PyProof.Rows L2
section
variable {X : Cx} {cl : Nat → Addr} {Wx : WX} {pos : Pos}
end
end Mz

set_option Elab.async false
set_option linter.all false
set_option maxRecDepth 100000
set_option maxHeartbeats 4000000
namespace Mz
open PySem PySem.Spec PySem.Calls PyProof.Rows L2
section
variable {X : Cx} {cl : Nat → Addr} {Wx : WX} {pos : Pos}
end
section
variable {X : Cx} {cl : Nat → Addr} {Wx : WX} {pos : Pos} {e o i : Expr} {me mo mi : ME}
end
end Mz

set_option Elab.async false
set_option linter.all false
set_option maxRecDepth 100000
set_option maxHeartbeats 4000000
namespace Mz
open PySem PySem.Spec PyProof.Rows L2
section
variable {X : Cx} {cl : Nat → Addr} {Wx : WX} {x : Str} {pos pos' : Pos} {e : Expr} {m : ME} {a : Addr} {ps : List (Str × Str)}
end
section
variable {X : Cx} {cl : Nat → Addr} {Wx : WX} {pos p apos : Pos} {f x : Str}
end
section
variable {env : Mz.Env} {st : Store} {m : ME} {ps : List (Str × Str)} {neg : Bool} {z y : Str}
end
end Mz

set_option Elab.async false
set_option linter.all false
set_option maxRecDepth 100000
set_option maxHeartbeats 4000000
namespace Mz
open PySem PySem.Spec PyProof.Rows L2

structure Up (st st1 : Store) : Prop where
  le : st.o.length ≤ st1.o.length
  at_ : ∀ m y, st1.o[m]? = some y → m < st.o.length → st.o[m]? = some y ∨ valsS y.vs = true
theorem Up.refl {st : Store} : Up st st := ⟨Nat.le_refl _, fun _ _ h _ => .inl h⟩
theorem Up.push {st st1 : Store} {x : Lo} (h : Up st st1) : Up st (st1.push x) := ⟨h.le, h.at_⟩
theorem Up.setl {st st1 : Store} {n : Nat} {x : Lo} (h : Up st st1) : Up st (st1.setl n x) := ⟨h.le, h.at_⟩
theorem Up.seto {st st1 : Store} {n : Nat} {z : In} (h : Up st st1) (hv : valsS z.vs = true) : Up st (st1.seto n z) := by
  refine ⟨by show _ ≤ (st1.o.set n z).length; rw [List.length_set]; exact h.le, fun m y e hm => ?_⟩
  have e' : (st1.o.set n z)[m]? = some y := e
  by_cases q : n = m
  · subst q
    rw [List.getElem?_set] at e'
    simp only [if_true] at e'
    split at e'
    · cases e'; exact .inr hv
    · cases e'
  · rw [List.getElem?_set_ne q] at e'
    exact h.at_ m y e' hm
theorem Up.trans {a b c : Store} (h : Up a b) (g : Up b c) : Up a c := ⟨Nat.le_trans h.le g.le, fun m y e hm => by
  rcases g.at_ m y e (Nat.lt_of_lt_of_le hm h.le) with e1 | e1
  · exact h.at_ m y e1 hm
  · exact .inr e1⟩
theorem Up.same {a b b' : Store} (h : Up a b) (e : b'.o = b.o) : Up a b' := ⟨by rw [e]; exact h.le, by rw [e]; exact h.at_⟩
theorem fn_up {np nl : Nat} {body : MS} {args : List Sl} {st : Store} (h : args.length = np) : mFn np nl .up body args st = fin .up st (body (args.map some ++ List.replicate (nl - np) none) st) := if_pos h
end Mz

set_option Elab.async false
set_option linter.all false
set_option maxRecDepth 100000
set_option maxHeartbeats 4000000
namespace Mz
open PySem PySem.Spec PyProof.Rows L2

section
variable {X : Cx} {cl : Nat → Addr} {Wx : WX} {pos : Pos}
end
end Mz

set_option Elab.async false
set_option linter.all false
set_option maxRecDepth 100000
set_option maxHeartbeats 4000000
namespace Mz
open PySem PySem.Spec PyProof.Rows L2

section
variable {X : Cx} {cl : Nat → Addr} {Wx : WX} {o e : Expr} {es : List Expr} {mo : ME} {ma : MA} {apos cpos : Pos}
end
end Mz

set_option Elab.async false
set_option linter.all false
set_option maxRecDepth 100000
set_option maxHeartbeats 4000000
namespace Mz
open PySem PySem.Spec PySem.Calls PyProof.Rows L2
structure SetterOf (K : PySem.W.Frag) (C : Addr) (f : Str) (p g : Addr) : Prop where
  tk : PySem.W.takerIn K C f = some (some (.ref p))
  ty : PySem.W.typeIn K (.ref p) = some (.type "property")
  rc : ∃ a rest, PySem.W.recIn K p "property" = some (a :: .ref g :: rest)
section
variable {X : Cx} {cl : Nat → Addr} {Wx : WX} {e o : Expr} {m mo : ME} {pos pos' : Pos} {f : Str}
end
end Mz

set_option Elab.async false
set_option linter.all false
set_option maxRecDepth 100000
set_option maxHeartbeats 4000000
namespace HT
open PySem PySem.Spec PySem.Calls PyProof.Rows
section
variable {prog : Program} {w : World} {A : Around} {E : Value → Shared → Prop} {s : Shared}
end
end HT
namespace Mz
open PySem PySem.Spec PySem.Calls PyProof.Rows L2
section
variable {X : Cx} {cl : Nat → Addr} {Wx : WX}
end
end Mz

set_option Elab.async false
set_option linter.all false
set_option maxRecDepth 100000
set_option maxHeartbeats 4000000
namespace Mz
open PySem PySem.Spec PySem.Calls PyProof.Rows L2
end Mz

set_option Elab.async false
set_option linter.all false
set_option maxRecDepth 100000
set_option maxHeartbeats 4000000
namespace Mz
open PySem PySem.Spec PyProof.Rows L2
inductive ClM
  | only (cs : List (Nat × Bool)) (ms : MS)
  | nam (cs : List (Nat × Bool)) (i : Nat) (ms : XS1)
section
variable {X : Cx} {cl : Nat → Addr} {Wx : WX}
end
end Mz

set_option Elab.async false
set_option linter.all false
set_option maxRecDepth 100000
set_option maxHeartbeats 4000000
namespace Mz
open PySem PySem.Spec PyProof.Rows L2
section
variable {X : Cx} {W : WX} {n : Str} {i : Nat} {pos : Pos}
end
end Mz

set_option Elab.async false
set_option linter.all false
set_option maxRecDepth 100000
set_option maxHeartbeats 4000000
namespace Mz
open PySem PySem.Spec PyProof.Rows L2
section
variable {X : Cx} {body : List Stmt} {tb : WX → TS} {Wout : WX} {x1 x2 x3 xr n : Str} {c1 c2 c3 : Value} {i kk : Nat} {p1 p2 p3 p4 tp np2 rp rpos hpos pos : Pos} {C fI : Addr} {qual fld msg : Str} {ea : Expr} {ta : TA}
end
end Mz

set_option Elab.async false
set_option linter.all false
set_option maxRecDepth 100000
set_option maxHeartbeats 4000000
namespace Mz
open PySem PySem.Spec PyProof.Rows L2
section
variable {X : Cx} {cl : Nat → Addr} {Wx : WX} {body : List Stmt} {mb : MS} {ma : ME} {x1 x2 x3 xr n : Str} {c1 c2 c3 : Value} {i kk : Nat} {p1 p2 p3 tp np2 rp rpos hpos pos p4 : Pos} {fI : Addr} {qual fld msg : Str} {ea : Expr}
end
end Mz

set_option Elab.async false
set_option linter.all false
set_option maxRecDepth 100000
set_option maxHeartbeats 4000000
namespace Mz
open PySem PySem.Spec PyProof.Rows L2
section
variable {X : Cx} {body fs : List Stmt} {f₀ : Stmt} {tb : WX → TS} {tf tfs : TS} {Wout : WX} {pos : Pos}
end
section
variable {X : Cx} {cl : Nat → Addr} {Wx : WX} {body fs : List Stmt} {f₀ : Stmt} {mb ms : MS} {pos : Pos}
end
end Mz

set_option Elab.async false
set_option linter.all false
set_option maxRecDepth 100000
set_option maxHeartbeats 4000000
namespace Mz
open PySem PySem.Spec PyProof.Rows L2
theorem slrs_apS {T : Tx} {ρ : Mp} {G : Hp} : ∀ {a b : List Sl} {u v : List V}, SlRs T ρ G a u → SlRs T ρ G b v → SlRs T ρ G (a ++ b) (u ++ v)
  | [], b, u, v, h, h2 => by
    have e : u = [] := h
    subst e; exact h2
  | x :: r, b, u, v, h, h2 => by
    obtain ⟨w, ws, rfl, h1, h3⟩ := h
    exact ⟨w, ws ++ v, rfl, h1, slrs_apS h3 h2⟩
section
variable {P : Program} {w : World} {K : PySem.W.Frag} {mg : Str → Option Value} {base : Heap} {cl : Nat → Addr}
end
section
variable {X : Cx} {cl : Nat → Addr} {Wx : WX} {o : Expr} {mo : ME} {pos apos : Pos}
end
end Mz

set_option Elab.async false
set_option linter.all false
set_option maxRecDepth 100000
set_option maxHeartbeats 4000000
namespace Mz
open PySem PySem.Spec PyProof.Rows L2
theorem takes0 {X : Cx} : Takes X (fun _ _ _ _ => False) := Takes.of fun _ _ x => by
  obtain ⟨_, _, _, _, _, _, _, _, _, _, _, _, _, _, _, _, z⟩ := x
  exact z.elim
end Mz

set_option Elab.async false
set_option linter.all false
set_option maxRecDepth 100000
set_option maxHeartbeats 4000000
namespace Mz
open PySem PySem.Spec PyProof.Rows L2
end Mz

set_option Elab.async false
set_option linter.all false
set_option maxRecDepth 100000
set_option maxHeartbeats 4000000
namespace Mz
open PySem PySem.Spec PyProof.Rows L2
end Mz

set_option Elab.async false
set_option linter.all false
set_option maxRecDepth 100000
set_option maxHeartbeats 4000000
namespace Mz
open PySem PySem.Spec PyProof.Rows L2 L2H
section
variable {P : Program} {w : World} {K : PySem.W.Frag} {mg : Str → Option Value} {base : Heap} {cl : Nat → Addr}
end
section
variable {X : Cx} {W : WX}
end
end Mz

set_option Elab.async false
set_option linter.all false
set_option maxRecDepth 100000
set_option maxHeartbeats 4000000
namespace PySem.W
open PySem PySem.Calls PyProof.Rows
section
variable {prog : Program} {w : World} {A : Around} {E : Value → Shared → Prop} {s : Shared} {env : Env} {K : Frag} {x C fe fx : Addr} {ox : Obj} {od : Option Obj} {pos : Pos}
end
end PySem.W

set_option Elab.async false
set_option linter.all false
set_option maxRecDepth 100000
set_option maxHeartbeats 4000000
namespace Mz
open PySem PySem.Spec PyProof.Rows L2 L2H
section
variable {X : Cx} {cl : Nat → Addr} {Wx : WX} {ctx : Expr} {body : List Stmt} {mk : ME} {mb : MS} {pos : Pos}
end
end Mz

set_option Elab.async false
set_option linter.all false
set_option maxRecDepth 100000
set_option maxHeartbeats 4000000
namespace Mz
open PySem PySem.Spec PyProof.Rows L2
section
variable {X : Cx} {cl : Nat → Addr} {Wx : WX} {o : Expr} {mo : ME} {pos apos spos npos : Pos}
end
end Mz

set_option Elab.async false
set_option linter.all false
set_option maxRecDepth 100000
set_option maxHeartbeats 4000000
namespace Mz
open PySem PySem.Spec PySem.Calls PyProof.Rows L2
section
variable {X : Cx} {cl : Nat → Addr} {Wx : WX} {pos : Pos}
end
end Mz

set_option Elab.async false
set_option linter.all false
set_option maxRecDepth 100000
set_option maxHeartbeats 4000000
namespace Mz
open PySem PySem.Spec PySem.Calls PyProof.Rows L2
open Sem (wp)
end Mz

set_option Elab.async false
set_option linter.all false
set_option maxRecDepth 100000
set_option maxHeartbeats 4000000
namespace Mz
open PySem PySem.Spec PySem.Calls PyProof.Rows L2
open PySem.SeqAt
open AutoSeq1 (wpAny_loadPart')
open MeetsSeq MeetsSeq2 MeetsSeq3 SeqRoads2
section
variable {prog : Program} {w : World} {A : Around} {R : Result → Shared → Prop}
end
section
variable {X : Cx} {cl : Nat → Addr} {Wx : WX}
end
end Mz

set_option Elab.async false
set_option linter.all false
set_option maxRecDepth 100000
set_option maxHeartbeats 4000000
namespace PySem
namespace ExF
open PySem.W PySem.Calls PyProof.Rows PySem.HandSPX
def eA2 (f1 f2 : Str) (p1 p2 p3 : Pos) : Arguments := { posonlyargs := [], args := [{ arg := "self", annotation := none, pos := p1 }, { arg := f1, annotation := none, pos := p2 }, { arg := f2, annotation := none, pos := p3 }], vararg := none, kwonlyargs := [], kw_defaults := [], kwarg := none, defaults := [] }
def eS2 (f1 f2 : Str) : Scope := { kind := .function, names := [(PySem.Str.ofString "self", .local), (f1, .local), (f2, .local), (PySem.Str.ofString "__class__", .free), (PySem.Str.ofString "super", .globalImplicit)], isGenerator := false, isCoroutine := false, more := [] }
structure Fld2 (f1 f2 : Str) : Prop where
  l1 : (eS2 f1 f2).names.lookup ("self" : Str) = some .local
  l2 : (eS2 f1 f2).names.lookup f1 = some .local
  l5 : (eS2 f1 f2).names.lookup f2 = some .local
  l3 : (eS2 f1 f2).names.lookup ("super" : Str) = some .globalImplicit
  l4 : (eS2 f1 f2).names.lookup ("__class__" : Str) = some .free
  c : ∀ x ∈ (eS2 f1 f2).names, x.2 ≠ .cell
  m1 : ∀ a v w : Value, ([(("self" : Str), a), (f1, v), (f2, w)].reverse.lookup ("self" : Str)) = some a
  m2 : ∀ a v w : Value, ([(("self" : Str), a), (f1, v), (f2, w)].reverse.lookup f1) = some v
  m3 : ∀ a v w : Value, ([(("self" : Str), a), (f1, v), (f2, w)].reverse.lookup f2) = some w
  d1 : (f1 == ("__debug__" : Str)) = false
  d2 : (f2 == ("__debug__" : Str)) = false
  ne : f2 ≠ f1
structure Ex2Txt (K : Frag) (mg : Str → Option Value) (p : Program) (C fI : Addr) (qual f1 f2 msg : Str) : Prop extends ClsTxt K mg p C fI where
  fl : Fld2 f1 f2
  noN1 : findIn K (.ref C) f1 = some none
  noN2 : findIn K (.ref C) f2 = some none
  fn : ∃ (oc : Value) (od : Option Addr) (doc pm : Value) (an : Option Addr) (cda cc : Addr) (ct : Value) (osl : Array (Option Value)) (p1 p2 p3 a1 a2 a3 a4 a5 a6 b1 b2 b3 b4 c1 c2 c3 c4 : Pos) (j : Tok) (ccl : Value) (cdd : Option Addr) (vs : Array Value) (ccs : Array (Option Value)) (file : Str) (tf : Tok) (cl : Value) (cld : Option Addr) (csl : Array (Option Value)),
    K.lookup fI = some ⟨oc, od, .func (ksFn "__init__" qual (eA2 f1 f2 p1 p2 p3) [supS msg a1 a2 a3 a4 a5 a6 j, asgS f1 b1 b2 b3 b4, asgS f2 c1 c2 c3 c4] (eS2 f1 f2) .none .none doc pm an (.ref cda) ct cc), osl⟩ ∧ codeIn K (.ref cda) qual = true ∧
    K.lookup cda = some ⟨ccl, cdd, .fields vs, ccs⟩ ∧ vs[2]? = some (.str file tf) ∧ ((p.main.file : Str) == file) = true ∧ K.lookup cc = some ⟨cl, cld, .cell (some (.ref C)), csl⟩ ∧
    (∀ s a v w, BindsTo s (ksFn "__init__" qual (eA2 f1 f2 p1 p2 p3) [supS msg a1 a2 a3 a4 a5 a6 j, asgS f1 b1 b2 b3 b4, asgS f2 c1 c2 c3 c4] (eS2 f1 f2) .none .none doc pm an (.ref cda) ct cc) ⟨[a, v, w], []⟩ [("self", a), (f1, v), (f2, w)]) ∧
    (∀ env : Env, starEach [(.Constant (.str msg) j a4 : Expr)] env = (false, eval (.Constant (.str msg) j a4) env) :: starEach [] env) ∧
    (∃ pl : Sem Bool, ∀ L : Addr, eval (supCall msg a1 a2 a3 a4 a5 j) (ksEnv qual (eS2 f1 f2) L fI (.ref cda) cc) = supTree msg a1 a2 a3 a4 a5 j pl (ksEnv qual (eS2 f1 f2) L fI (.ref cda) cc))
section
variable {prog : Program} {w : World} {A : Around} {E : Value → Shared → Prop} {R : Result → Shared → Prop} {s : Shared} {K : Frag} {mg mb : Str → Option Value} {C fI : Addr} {qual f1 f2 msg : Str}
end
end ExF
end PySem
namespace L2
open PySem PySem.Spec PyProof.Rows
section
variable {X : Cx} {C fI : Addr} {qual f1 f2 msg x : Str}
end
end L2
namespace Mz
open PySem PySem.Spec PyProof.Rows L2
section
variable {X : Cx} {cl : Nat → Addr} {Wx : WX} {x : Str} {pos pos' p : Pos} {e b : Expr} {me mb : ME}
end
end Mz

set_option Elab.async false
set_option linter.all false
set_option maxRecDepth 100000
set_option maxHeartbeats 4000000
namespace Mz
open PySem PySem.Spec PyProof.Rows L2
section
variable {X : Cx} {body suite : List Stmt} {tb : WX → TS} {Wout : WX} {x1 n : Str} {c1 : Value} {i : Nat} {p1 hpos pos : Pos} {b₀ : Stmt} {ts : Addr → Value → Option Addr → WX → L2.St → Hp → Prop}
end
section
variable {X : Cx} {cl : Nat → Addr} {Wx : WX} {body suite : List Stmt} {b₀ : Stmt} {mb : MS} {mp : XS1} {ma : XE1} {x1 xr n : Str} {i k k1 : Nat} {p1 hpos pos np2 rp rpos p4 : Pos} {fI : Addr} {qual fld msg : Str} {ea : Expr}
end
section
variable {X : Cx} {cl : Nat → Addr} {Wx : WX} {cs : List (Nat × Bool)} {i : Nat} {a : Addr} {oe : Obj} {cls : Value} {d : Option Addr} {pn : List (Addr × Obj)} {e b : Expr} {pos : Pos} {ma mb : XE1}
end
theorem k_lm2_ex {f : LM} {n : Nat} {c : Nat} {ns : List Str} {ws : List W} {st : Store} : kLm2 f n (.ex c ns ws st) = .ex c ns ws st := rfl
end Mz

set_option Elab.async false
set_option linter.all false
set_option maxRecDepth 100000
set_option maxHeartbeats 4000000
namespace Mz
open PySem PySem.Spec PyProof.Rows L2
theorem EnvR.told {T : Tx} {ρ : Mp} {G : Hp} {env : Env} {σ : L2.St} {s : Sl} {u : V} (i : Nat) (h : EnvR T ρ G env σ) (hu : σ[i]? = some (some u)) (r : SlR T ρ G s u) : EnvR T ρ G (env.set i (some s)) σ := by
  have q := h.set i r
  rwa [show σ.set i (some u) = σ from by
    apply List.ext_getElem?
    intro j
    by_cases hj : i = j
    · subst hj
      rw [List.getElem?_set_self (get_lt hu), hu]
    · rw [List.getElem?_set_ne hj]] at q
section
variable {X : Cx} {cl : Nat → Addr} {Wx : WX} {s : Stmt} {ms : MS}
end
end Mz

set_option Elab.async false
set_option linter.all false
set_option maxRecDepth 100000
set_option maxHeartbeats 4000000
namespace Mz
open PySem PySem.Spec PySem.Calls PyProof.Rows L2
theorem tup_lies {P : Program} {w : World} {K : PySem.W.Frag} {H : Hp} {h : Heap} {a : Addr} {xs : List V} (hok : HOk P w H h) (KX : K.In h) (q : SqT K H a xs) : ∃ (its : List Value) (o : Obj) (n : Nat), Vals xs its ∧ h.get? a = some o ∧ o.cls = .type "tuple" ∧ o.data = .seq its.toArray n := by
  cases q with
  | inl q => obtain ⟨_, its, v, o, e, c, n, d⟩ := (show ObjOk P w H h a (.tup xs) from q.ok hok); exact ⟨its, o, n, v, e, c, d⟩
  | inr q => obtain ⟨o, its, n, e, c, d, _, v⟩ := q; exact ⟨its.toList, o, n, v, KX _ _ e, c, by rw [d]⟩
mutual
theorem key_is {P : Program} {w : World} {T : Tx} {G H : Hp} {h : Heap} (hok : HOk P w H h) (KX : T.K.In h) (e : ∀ a o, G a = some o → H a = some o) : ∀ (x : W) (v : V) (u : Value) (k : NestedKey), Rep T G x v → nkOf x = some k → RelV v u → NestedIs h k u
  | .int i, v, u, k, hr, hk, rv => by
    unfold Rep at hr
    subst hr
    unfold nkOf at hk
    cases hk
    obtain ⟨t, rfl⟩ := rv
    exact .int i t
  | .tup xs, v, u, k, hr, hk, rv => by
    unfold Rep at hr
    obtain ⟨a, vs, rfl, hs, hrs⟩ := hr
    unfold nkOf at hk
    obtain ⟨ks, hks, rfl⟩ := Option.map_eq_some_iff.mp hk
    obtain rfl : u = Value.ref a := rv
    obtain ⟨its, o, n, hv, ho, hc, hd⟩ := tup_lies hok KX (sqt_mono e hs)
    exact .tup ho hc hd (keys_is hok KX e xs vs its ks hrs hks hv)
  | .non, _, _, _, _, hk, _ => by unfold nkOf at hk; cases hk
  | .bl _, _, _, _, _, hk, _ => by unfold nkOf at hk; cases hk
  | .str _, _, _, _, _, hk, _ => by unfold nkOf at hk; cases hk
  | .lst _, _, _, _, _, hk, _ => by unfold nkOf at hk; cases hk
  | .ro _, _, _, _, _, hk, _ => by unfold nkOf at hk; cases hk
  | .dct _ _, _, _, _, _, hk, _ => by unfold nkOf at hk; cases hk
  | .ins _ _ _, _, _, _, _, hk, _ => by unfold nkOf at hk; cases hk
  | .cls _, _, _, _, _, hk, _ => by unfold nkOf at hk; cases hk
theorem keys_is {P : Program} {w : World} {T : Tx} {G H : Hp} {h : Heap} (hok : HOk P w H h) (KX : T.K.In h) (e : ∀ a o, G a = some o → H a = some o) : ∀ (xs : List W) (vs : List V) (us : List Value) (ks : List NestedKey), Reps T G xs vs → nksOf xs = some ks → Vals vs us → NestedAll h ks us
  | [], vs, us, ks, hr, hk, hv => by
    unfold Reps at hr
    subst hr
    unfold nksOf at hk
    cases hk
    cases hv
    exact .nil
  | x :: xs, vs, us, ks, hr, hk, hv => by
    unfold Reps at hr
    obtain ⟨v, r, rfl, h1, h2⟩ := hr
    unfold nksOf at hk
    obtain ⟨k, hk1, hk2⟩ := Option.bind_eq_some_iff.mp hk
    obtain ⟨ks', hk3, rfl⟩ := Option.map_eq_some_iff.mp hk2
    cases hv with
    | cons r1 r2 => exact .cons (key_is hok KX e x v _ k h1 hk1 r1) (keys_is hok KX e xs r _ ks' h2 hk3 r2)
end
mutual
theorem hash_num {w w' : World} : ∀ (x : W) (k : NestedKey), nkOf x = some k → k.hash w = k.hash w'
  | .int i, k, hk => by unfold nkOf at hk; cases hk; rfl
  | .tup xs, k, hk => by
    unfold nkOf at hk
    obtain ⟨ks, hks, rfl⟩ := Option.map_eq_some_iff.mp hk
    show reduceHash _ = reduceHash _
    rw [hashes_num xs ks hks]
  | .non, _, hk => by unfold nkOf at hk; cases hk
  | .bl _, _, hk => by unfold nkOf at hk; cases hk
  | .str _, _, hk => by unfold nkOf at hk; cases hk
  | .lst _, _, hk => by unfold nkOf at hk; cases hk
  | .ro _, _, hk => by unfold nkOf at hk; cases hk
  | .dct _ _, _, hk => by unfold nkOf at hk; cases hk
  | .ins _ _ _, _, hk => by unfold nkOf at hk; cases hk
  | .cls _, _, hk => by unfold nkOf at hk; cases hk
theorem hashes_num {w w' : World} : ∀ (xs : List W) (ks : List NestedKey), nksOf xs = some ks → NestedKey.hashes w ks = NestedKey.hashes w' ks
  | [], ks, hk => by unfold nksOf at hk; cases hk; rfl
  | x :: xs, ks, hk => by
    unfold nksOf at hk
    obtain ⟨k, hk1, hk2⟩ := Option.bind_eq_some_iff.mp hk
    obtain ⟨ks', hk3, rfl⟩ := Option.map_eq_some_iff.mp hk2
    show NestedKey.hash w k :: _ = NestedKey.hash w' k :: _
    rw [hash_num x k hk1, hashes_num xs ks' hk3]
end
theorem nks_get : ∀ {ks : List W} {nks : List NestedKey} {i : Nat} {n : NestedKey}, nksOf ks = some nks → nks[i]? = some n → ∃ k, ks[i]? = some k ∧ nkOf k = some n
  | [], nks, i, n, h, hn => by unfold nksOf at h; cases h; simp at hn
  | x :: xs, nks, i, n, h, hn => by
    unfold nksOf at h
    obtain ⟨k, hk1, hk2⟩ := Option.bind_eq_some_iff.mp h
    obtain ⟨ks', hk3, rfl⟩ := Option.map_eq_some_iff.mp hk2
    cases i with
    | zero => cases hn; exact ⟨x, rfl, hk1⟩
    | succ i => exact nks_get (ks := xs) (i := i) hk3 hn
theorem nks_app : ∀ {ks : List W} {nks : List NestedKey} {k : W} {n : NestedKey}, nksOf ks = some nks → nkOf k = some n → nksOf (ks ++ [k]) = some (nks ++ [n])
  | [], nks, k, n, h, hk => by unfold nksOf at h; cases h; show nksOf [k] = _; unfold nksOf; rw [hk]; rfl
  | x :: xs, nks, k, n, h, hk => by
    unfold nksOf at h
    obtain ⟨k1, hk1, hk2⟩ := Option.bind_eq_some_iff.mp h
    obtain ⟨ks', hk3, rfl⟩ := Option.map_eq_some_iff.mp hk2
    show nksOf (x :: (xs ++ [k])) = _
    unfold nksOf
    rw [hk1, nks_app hk3 hk]; rfl
theorem entry_all {P P' : Program} {w w' : World} {ks : List W} {xs : List (NestedKey × Addr × Value)} (h : nksOf ks = some (xs.map (·.1))) : xs.map (entryOfKey (nestedKind P w)) = xs.map (entryOfKey (nestedKind P' w')) := by
  refine List.map_congr_left fun x hx => ?_
  obtain ⟨i, hi⟩ := List.mem_iff_getElem?.mp hx
  obtain ⟨k, _, hk⟩ := nks_get (i := i) (n := x.1) h (by rw [List.getElem?_map, hi]; rfl)
  show DictEntry.mk _ _ _ = DictEntry.mk _ _ _
  congr 1
  exact hash_num k x.1 hk
section
variable {X : Cx} {cl : Nat → Addr} {Wx : WX} {pins : List (Addr × Obj)} {σ : L2.St} {ρ : Mp} {G H : Hp} {s : Shared} {st : Store}
theorem ndR_at {a a' : Addr} {xs : List (NestedKey × Addr × Value)} {P : Program} {w : World} {h : Heap} (hok : HOk P w H h) (ha : H a = some (NdO a' xs)) : a' = a ∧ NdR a xs h := by
  obtain ⟨r, ⟨o, ho⟩, st⟩ := hok a _ ha
  obtain ⟨G, g1, g2⟩ := restrict h fun b => decide (b = a)
  have r2 := st h G r fun o e => by rw [g1 a (by simp)]; exact e
  have e : a' = a := by
    obtain ⟨o, es, ep, h1, _⟩ := r2 P w
    by_cases z : a' = a
    · exact z
    · rw [g2 a' (by simp [z])] at h1; cases h1
  subst e
  exact ⟨rfl, r⟩
theorem ndR_stay {a : Addr} {xs : List (NestedKey × Addr × Value)} {h1 h2 : Heap} (r : NdR a xs h1) (k : ∀ o, h1.get? a = some o → h2.get? a = some o) : NdR a xs h2 := fun P w => by
  obtain ⟨o, es, ep, e, q⟩ := r P w
  exact ⟨o, es, ep, k _ e, q⟩
theorem ndR_code {a : Addr} {xs : List (NestedKey × Addr × Value)} {h : Heap} (P : Program) (w : World) (r : NdR a xs h) : ∀ p q, NdO a xs ≠ LamX.CodeO p q := fun p q z => by
  unfold NdO LamX.CodeO at z
  have z' := HO.ext.inj z
  have c1 := (congrFun z' h).mp r
  obtain ⟨oc, vs, t, hc, hd, _⟩ := c1
  obtain ⟨o, es, ep, ho, _, hd2, _⟩ := r P w
  have ne : p ≠ a := fun e => by
    subst e
    rw [hc] at ho; cases ho
    rw [hd] at hd2; cases hd2
  obtain ⟨G, g1, g2⟩ := restrict h fun b => decide (b = a)
  have r2 : NdR a xs G := ndR_stay r fun o e => by rw [g1 a (by simp)]; exact e
  obtain ⟨_, _, _, hc2, _⟩ := (congrFun z' G).mp r2
  rw [g2 p (by simp [ne])] at hc2; cases hc2
theorem nd_ok {a : Addr} {xs : List (NestedKey × Addr × Value)} {P : Program} {w : World} {h : Heap} (r : NdR a xs h) : ObjOk P w H h a (NdO a xs) := by
  obtain ⟨o, es, ep, ho, _⟩ := r P w
  exact ⟨r, ⟨o, ho⟩, fun h1 h2 p k => ndR_stay p k⟩
theorem nd_dict (I : Inv X pins σ H s) (r : Rel ⟨X.K, cl⟩ ρ G H st) {n : Nat} {ks ws : List W} (hx : st.l[n]? = some (.dn ks ws)) {u : V} (hu : SlR ⟨X.K, cl⟩ ρ G (.l n) u) :
    ∃ a xs vs, u = .ref a ∧ ρ.l[n]? = some a ∧ G a = none ∧ H a = some (NdO a xs) ∧ NdC a xs ∧ nksOf ks = some (xs.map (·.1)) ∧ Reps ⟨X.K, cl⟩ G ks (xs.map fun x => .ref x.2.1) ∧ Vals vs (xs.map (·.2.2)) ∧ Reps ⟨X.K, cl⟩ G ws vs ∧ s.heap.DictOfH (nestedKind X.prog X.w) a xs := by
  obtain ⟨a, ha, rfl⟩ := hu
  obtain ⟨hG, o, ho, a', xs, vs, rfl, hc, hk, hrk, hv, hrw⟩ := r.la n a _ ha hx
  obtain ⟨rfl, hr⟩ := ndR_at I.hok ho
  obtain ⟨od, es, ep, e1, e2, e3, e4, e5⟩ := hr X.prog X.w
  refine ⟨a', xs, vs, rfl, ha, hG (fun z => by cases z), ho, hc, hk, hrk, hv, hrw, od, es, ep, e1, e2, e3, e4, fun x hx => ?_, e5⟩
  obtain ⟨i, hi⟩ := List.mem_iff_getElem?.mp hx
  obtain ⟨k, hki, hkk⟩ := nks_get (i := i) (n := x.1) hk (by rw [List.getElem?_map, hi]; rfl)
  obtain ⟨v, hv1, hv2⟩ := hrk.get' hki
  rw [List.getElem?_map, hi] at hv1
  cases hv1
  exact ⟨key_is I.hok I.kIn r.ext k _ _ x.1 hv2 hkk rfl, hc.depth x hx⟩
end
def nLook : List W → List W → NestedKey → Option W
  | k' :: ks, w :: ws, k => if nkOf k' = some k then some w else nLook ks ws k
  | _, _, _ => none
def nRep : List W → List W → NestedKey → W → List W
  | k' :: ks, w' :: ws, k, w => (if nkOf k' = some k then w else w') :: nRep ks ws k w
  | _, _, _, _ => []
def ndOf (st : Store) : Sl → Option (List W × List W)
  | .l n => match st.l[n]? with
    | some (.dn ks ws) => some (ks, ws)
    | _ => none
  | _ => none
def nkS : Sl → Option NestedKey
  | .v (.tup xs) => (nkOf (.tup xs)).bind fun k => if k.depth ≤ 8 then some k else none
  | _ => none
section
variable {T : Tx} {G : Hp}
theorem nlook_at : ∀ {ks ws : List W} {xs : List (NestedKey × Addr × Value)} {vs : List V} {k : NestedKey}, nksOf ks = some (xs.map (·.1)) → Vals vs (xs.map (·.2.2)) → Reps T G ws vs →
    (nLook ks ws k = none → atKey xs k = none) ∧ ∀ w, nLook ks ws k = some w → ∃ a u v, atKey xs k = some (a, u) ∧ RelV v u ∧ Rep T G w v
  | [], ws, xs, vs, k, hk, hv, hr => by
    unfold nksOf at hk
    have : xs = [] := by cases xs with
      | nil => rfl
      | cons x xs => cases hk
    subst this
    refine ⟨fun _ => rfl, fun w h => by unfold nLook at h; cases h⟩
  | k' :: ks, ws, xs, vs, k, hk, hv, hr => by
    unfold nksOf at hk
    obtain ⟨n, hk1, hk2⟩ := Option.bind_eq_some_iff.mp hk
    obtain ⟨ns, hk3, he⟩ := Option.map_eq_some_iff.mp hk2
    cases xs with
    | nil => cases he
    | cons x xs =>
      obtain ⟨rfl, rfl⟩ := List.cons.inj he
      cases hv with
      | @cons v0 u0 vs0 us0 r1 r2 =>
        cases ws with
        | nil => unfold Reps at hr; cases hr
        | cons w0 ws =>
          unfold Reps at hr
          obtain ⟨v', r', e', h1, h2⟩ := hr
          obtain ⟨rfl, rfl⟩ := List.cons.inj e'
          obtain ⟨i1, i2⟩ := nlook_at (ks := ks) (ws := ws) (xs := xs) (k := k) hk3 r2 h2
          unfold nLook
          rw [hk1]
          by_cases e : x.1 = k
          · rw [if_pos (congrArg some e)]
            have ea : atKey (x :: xs) k = some x.2 := by unfold atKey; simp [e]
            rw [ea]
            refine ⟨fun z => (Option.some_ne_none _ z).elim, fun w h => ?_⟩
            obtain rfl := Option.some.inj h
            exact ⟨x.2.1, x.2.2, _, rfl, r1, h1⟩
          · rw [if_neg (fun z => e (Option.some.inj z))]
            have ea : atKey (x :: xs) k = atKey xs k := by unfold atKey; simp [e]
            rw [ea]
            exact ⟨i1, i2⟩
end
def opNin (neg : Bool) : Op2 := fun y x st => match ndOf st x, nkS y with
  | some (ks, ws), some k => .ok (.v (.bl (if neg then !(nLook ks ws k).isSome else (nLook ks ws k).isSome))) st
  | _, _ => .bad
def opNix : Op2 := fun x y st => match ndOf st x, nkS y with
  | some (ks, ws), some k => match nLook ks ws k with
    | some w => .ok (.v w) st
    | none => .bad
  | _, _ => .bad
section
variable {X : Cx} {cl : Nat → Addr} {Wx : WX} {a b : Expr} {ma mb : ME} {pos : Pos}
theorem ndOf_at {st : Store} {x : Sl} {ks ws : List W} (h : ndOf st x = some (ks, ws)) : ∃ n, x = .l n ∧ st.l[n]? = some (.dn ks ws) := by
  unfold ndOf at h
  split at h
  · rename_i n
    refine ⟨n, rfl, ?_⟩
    split at h
    · rename_i k2 w2 e; cases h; exact e
    · cases h
  · cases h
theorem nkS_at {x : Sl} {k : NestedKey} (h : nkS x = some k) : ∃ ys, x = .v (.tup ys) ∧ nkOf (.tup ys) = some k ∧ k.depth ≤ 8 := by
  unfold nkS at h
  split at h
  · rename_i ys
    obtain ⟨k', h1, h2⟩ := Option.bind_eq_some_iff.mp h
    split at h2
    · rename_i hd; cases h2; exact ⟨ys, rfl, h1, hd⟩
    · cases h2
  · cases h
end
def rOf (T : Tx) (g : Op2) : R2 := fun u v H Q => ∃ (ρ : Mp) (G : Hp) (st : Store) (x y : Sl) (E : XK), Rel T ρ G H st ∧ Mz.SlR T ρ G x u ∧ Mz.SlR T ρ G y v ∧ PostR T ρ G (Mz.SlR T) (g x y st) Q E
theorem ops_of {T : Tx} {g : Op2} : OpS T (rOf T g) g := fun ρ G H st x y u v Q E r hx hy p => ⟨ρ, G, st, x, y, E, r, hx, hy, p⟩
section
variable {X : Cx} {cl : Nat → Addr} {Wx : WX} {pins : List (Addr × Obj)} {σ : L2.St} {ρ : Mp} {G H : Hp} {s : Shared} {st : Store}
theorem nkey (I : Inv X pins σ H s) (r : Rel ⟨X.K, cl⟩ ρ G H st) {x : Sl} {v : V} {u : Value} {k : NestedKey} (hx : Mz.SlR ⟨X.K, cl⟩ ρ G x v) (rv : RelV v u) (hk : nkS x = some k) : ∃ b w, x = .v w ∧ v = .ref b ∧ u = .ref b ∧ nkOf w = some k ∧ Rep ⟨X.K, cl⟩ G w (.ref b) ∧ (nestedKind X.prog X.w).is s.heap k b := by
  obtain ⟨ys, rfl, h1, h2⟩ := nkS_at hk
  have hr : Rep ⟨X.K, cl⟩ G (.tup ys) v := hx
  have hr0 := hr
  unfold Rep at hr
  obtain ⟨b, vs, rfl, _⟩ := hr
  obtain rfl : u = Value.ref b := rv
  exact ⟨b, _, rfl, rfl, rfl, h1, hr0, key_is I.hok I.kIn r.ext _ _ _ k hr0 h1 rfl, h2⟩
theorem op_nin (hu : X.A.units + 9 < cLine) : OpR X (compareOp .In) (rOf ⟨X.K, cl⟩ (opNin false)) := by
  intro pins s σ H x y v u Q I rx ry ⟨ρ, G, st, sx, sy, E, r, hx, hy, p⟩
  unfold opNin at p
  split at p
  · rename_i ks ws k e1 e2
    obtain ⟨n, rfl, hn⟩ := ndOf_at e1
    obtain ⟨a, xs, vs, rfl, _, _, _, hc, hk, _, hv, hrw, hd⟩ := nd_dict I r hn hy
    obtain ⟨b, w, rfl, rfl, rfl, _, _, hkey⟩ := nkey I r hx rx e2
    obtain rfl : u = Value.ref a := ry
    obtain ⟨l1, l2⟩ := nlook_at (k := k) hk hv hrw
    refine wpAny_in_heap (knd := nestedKind X.prog X.w) (by show X.A.in1.units + 8 < cLine; rw [Around.in1_units]; omega) hkey hc.sys hd ?_
    have e : (atKey xs k).isSome = (nLook ks ws k).isSome := by
      cases h : nLook ks ws k with
      | none => rw [l1 h]; rfl
      | some w => obtain ⟨_, _, _, h3, _⟩ := l2 w h; rw [h3]; rfl
    rw [e]
    exact ⟨.bl _, H, I.tok _, rfl, p ρ G H _ (Fr.refl _ _) r (by unfold Mz.SlR Rep; rfl)⟩
  · exact p.elim
theorem op_notNin (hu : X.A.units + 9 < cLine) : OpR X (compareOp .NotIn) (rOf ⟨X.K, cl⟩ (opNin true)) := by
  intro pins s σ H x y v u Q I rx ry ⟨ρ, G, st, sx, sy, E, r, hx, hy, p⟩
  unfold opNin at p
  split at p
  · rename_i ks ws k e1 e2
    obtain ⟨n, rfl, hn⟩ := ndOf_at e1
    obtain ⟨a, xs, vs, rfl, _, _, _, hc, hk, _, hv, hrw, hd⟩ := nd_dict I r hn hy
    obtain ⟨b, w, rfl, rfl, rfl, _, _, hkey⟩ := nkey I r hx rx e2
    obtain rfl : u = Value.ref a := ry
    obtain ⟨l1, l2⟩ := nlook_at (k := k) hk hv hrw
    have hkd : s.heap.DictKeyed (nestedKind X.prog X.w) a (pairsH xs) := ⟨xs, hd, rfl⟩
    refine notIn_keyed (knd := nestedKind X.prog X.w) (by show X.A.in1.units + 8 < cLine; rw [Around.in1_units]; omega) hkey hc.sys hkd ?_
    have e : (valueAt (pairsH xs) k).isSome = (nLook ks ws k).isSome := by
      rw [valueAt_pairsH, Option.isSome_map]
      cases h : nLook ks ws k with
      | none => rw [l1 h]; rfl
      | some w => obtain ⟨_, _, _, h3, _⟩ := l2 w h; rw [h3]; rfl
    rw [e]
    exact ⟨.bl _, H, I.tok _, rfl, p ρ G H _ (Fr.refl _ _) r (by unfold Mz.SlR Rep; rfl)⟩
  · exact p.elim
theorem pe_ndget {a b : Expr} {ta tb : TE} {pos : Pos} (hu : X.A.units + 9 < cLine) (ha : PE X a ta) (hb : PE X b tb) (hs : NoSl b) : PE X (.Subscript a b pos) (tOp (rOf ⟨X.K, cl⟩ opNix) ta tb) := by
  refine ⟨fun pins s σ H Q I h => ?_⟩
  refine subD_of PySem.F.slot_dict_getitem.lookup hs (thn (ha.run pins s σ H _ I h) fun u s1 ⟨x, H1, I1, rx, q1⟩ => thn (hb.run pins s1 σ H1 _ I1 q1) fun iv s2 ⟨y, H2, I2, ry, ρ, G, st, sx, sy, E, r, hx, hy, p⟩ => ?_)
  unfold opNix at p
  split at p
  · rename_i ks ws k e1 e2
    split at p
    · rename_i w0 hw
      obtain ⟨n, rfl, hn⟩ := ndOf_at e1
      obtain ⟨d, xs, vs, rfl, _, _, _, hc, hk, _, hv, hrw, hd⟩ := nd_dict I2 r hn hx
      obtain ⟨b, w, rfl, rfl, rfl, _, _, hkey⟩ := nkey I2 r hy ry e2
      obtain rfl : u = Value.ref d := rx
      obtain ⟨l1, l2⟩ := nlook_at (k := k) hk hv hrw
      obtain ⟨q, u, v, h3, h4, h5⟩ := l2 w0 hw
      refine ⟨hd.typeIs, ?_⟩
      refine wpAny_getItem_heap (knd := nestedKind X.prog X.w) (by show X.A.in1.units + 8 < cLine; rw [Around.in1_units]; omega) hkey hd h3 ?_
      exact ⟨v, H2, I2.tok _, h4, p ρ G H2 v (Fr.refl _ _) r h5⟩
    · exact p.elim
  · exact p.elim
end
section
variable {X : Cx} {cl : Nat → Addr} {Wx : WX} {a b : Expr} {ma mb : ME} {pos : Pos}
theorem ie_nin (hu : X.A.units + 9 < cLine) (ha : IE X cl Wx a ma) (hb : IE X cl Wx b mb) (hm : behindInMarks .In b = false := by rfl) : IE X cl Wx (.Compare a [.In] [b] pos) (mOp (opNin false) ma mb) := ie_cmp (op_nin hu) ops_of ha hb hm
theorem ie_notnin (hu : X.A.units + 9 < cLine) (ha : IE X cl Wx a ma) (hb : IE X cl Wx b mb) (hm : behindInMarks .NotIn b = false := by rfl) : IE X cl Wx (.Compare a [.NotIn] [b] pos) (mOp (opNin true) ma mb) := ie_cmp (op_notNin hu) ops_of ha hb hm
theorem it_notnin (hu : X.A.units + 9 < cLine) (ha : IE X cl Wx a ma) (hb : IE X cl Wx b mb) (hm : behindInMarks .NotIn b = false := by rfl) : IT X cl Wx (.Compare a [.NotIn] [b] pos) (mTest (mOp (opNin true) ma mb)) := it_cmp (op_notNin hu) ops_of ha hb hm
theorem ie_nix (hu : X.A.units + 9 < cLine) (ha : IE X cl Wx a ma) (hb : IE X cl Wx b mb) (hs : NoSl b) : IE X cl Wx (.Subscript a b pos) (mOp opNix ma mb) := pe_weak (pe_ndget hu ha hb hs) (tM_op ops_of)
end
def nPut (ks ws : List W) (kw : W) (k : NestedKey) (w : W) : List W × List W := if (nLook ks ws k).isSome = true then (ks, nRep ks ws k w) else (ks ++ [kw], ws ++ [w])
def setN (env : Mz.Env) (x k y : Sl) (st : Store) : SR := match x, k, y with
  | .l n, .v kw, .v w => match st.l[n]?, nkS (.v kw) with
    | some (.dn ks ws), some q => if ks.length < 1000000 then .nx env (st.setl n (.dn (nPut ks ws kw q w).1 (nPut ks ws kw q w).2)) else .bad
    | _, _ => .bad
  | _, _, _ => .bad
def mSetN (o i e : ME) : MS := fun env st => ofR env (e env st) fun y st1 => ofR env (o env st1) fun x st2 => ofR env (i env st2) fun k st3 => setN env x k y st3
theorem nrep_reps {T : Tx} {G : Hp} {k : NestedKey} {a : Addr} {v : V} {u : Value} {w : W} (hr : Rep T G w v) (rv : RelV v u) : ∀ {ks ws : List W} {xs : List (NestedKey × Addr × Value)} {vs : List V}, nksOf ks = some (xs.map (·.1)) → Vals vs (xs.map (·.2.2)) → Reps T G ws vs →
    ∃ vs', Vals vs' ((xs.map fun x => if x.1 = k then (x.1, x.2.1, u) else x).map (·.2.2)) ∧ Reps T G (nRep ks ws k w) vs'
  | [], ws, xs, vs, hk, hv, hr => by
    unfold nksOf at hk
    have : xs = [] := by cases xs with
      | nil => rfl
      | cons x xs => cases hk
    subst this
    exact ⟨[], .nil, by unfold nRep; exact Reps.nil⟩
  | k' :: ks, ws, xs, vs, hk, hv, hrs => by
    unfold nksOf at hk
    obtain ⟨n, hk1, hk2⟩ := Option.bind_eq_some_iff.mp hk
    obtain ⟨ns, hk3, he⟩ := Option.map_eq_some_iff.mp hk2
    cases xs with
    | nil => cases he
    | cons x xs =>
      obtain ⟨rfl, rfl⟩ := List.cons.inj he
      cases hv with
      | @cons v0 u0 vs0 us0 r1 r2 =>
        cases ws with
        | nil => unfold Reps at hrs; cases hrs
        | cons w0 ws =>
          unfold Reps at hrs
          obtain ⟨v', r', e', h1, h2⟩ := hrs
          obtain ⟨rfl, rfl⟩ := List.cons.inj e'
          obtain ⟨vs', i1, i2⟩ := nrep_reps hr rv (ks := ks) (ws := ws) (xs := xs) (k := k) (a := a) hk3 r2 h2
          unfold nRep
          rw [hk1]
          by_cases e : x.1 = k
          · refine ⟨v :: vs', ?_, ?_⟩
            · rw [List.map_cons, List.map_cons, if_pos e]; exact .cons rv i1
            · rw [if_pos (congrArg some e)]; exact Reps.cons hr i2
          · refine ⟨v0 :: vs', ?_, ?_⟩
            · rw [List.map_cons, List.map_cons, if_neg e]; exact .cons r1 i1
            · rw [if_neg (fun z => e (Option.some.inj z))]; exact Reps.cons h1 i2
theorem reps_keys {k : NestedKey} {u : Value} : ∀ {xs : List (NestedKey × Addr × Value)}, (xs.map fun x => if x.1 = k then (x.1, x.2.1, u) else x).map (fun x => V.ref x.2.1) = xs.map fun x => V.ref x.2.1
  | [] => rfl
  | x :: xs => by
    rw [List.map_cons, List.map_cons, List.map_cons, reps_keys (xs := xs)]
    by_cases e : x.1 = k
    · rw [if_pos e]
    · rw [if_neg e]
theorem keys_fst {k : NestedKey} {u : Value} : ∀ {xs : List (NestedKey × Addr × Value)}, (xs.map fun x => if x.1 = k then (x.1, x.2.1, u) else x).map (·.1) = xs.map (·.1)
  | [] => rfl
  | x :: xs => by
    rw [List.map_cons, List.map_cons, List.map_cons, keys_fst (xs := xs)]
    by_cases e : x.1 = k
    · rw [if_pos e]
    · rw [if_neg e]
theorem storedH_yes {xs : List (NestedKey × Addr × Value)} {k : NestedKey} {b : Addr} {u : Value} (h : (atKey xs k).isSome = true) : storedH xs k b u = xs.map fun x => if x.1 = k then (x.1, x.2.1, u) else x := by
  unfold storedH
  rw [if_pos h]
  refine List.map_congr_left fun x _ => ?_
  by_cases e : x.1 = k <;> simp [putAt, e]
theorem storedH_no {xs : List (NestedKey × Addr × Value)} {k : NestedKey} {b : Addr} {u : Value} (h : (atKey xs k).isSome = false) : storedH xs k b u = xs ++ [(k, b, u)] := by
  unfold storedH
  rw [if_neg (by rw [h]; decide)]
section
variable {X : Cx} {cl : Nat → Addr} {Wx : WX} {pins : List (Addr × Obj)} {σ : L2.St} {ρ : Mp} {G H : Hp} {s : Shared} {st : Store}
theorem nd_put (r : Rel ⟨X.K, cl⟩ ρ G H st) {n : Nat} {ks ws : List W} {xs : List (NestedKey × Addr × Value)} {vs : List V} {a b : Addr} {kw w : W} {k : NestedKey} {v : V} {u : Value} (hx : st.l[n]? = some (.dn ks ws)) (ha : ρ.l[n]? = some a) (hc : NdC a xs) (hk : nksOf ks = some (xs.map (·.1)))
    (hrk : Reps ⟨X.K, cl⟩ G ks (xs.map fun x => .ref x.2.1)) (hv : Vals vs (xs.map (·.2.2))) (hrw : Reps ⟨X.K, cl⟩ G ws vs) (hkw : nkOf kw = some k) (hd : k.depth ≤ 8) (hkr : Rep ⟨X.K, cl⟩ G kw (.ref b)) (hw : Rep ⟨X.K, cl⟩ G w v) (rv : RelV v u) (hz : xs.length < 1000000)
    {h' : Heap} (hd' : h'.DictOfH (nestedKind X.prog X.w) a (storedH xs k b u)) :
    NdR a (storedH xs k b u) h' ∧ Rel ⟨X.K, cl⟩ ρ G (upd H a (NdO a (storedH xs k b u))) (st.setl n (.dn (nPut ks ws kw k w).1 (nPut ks ws kw k w).2)) := by
  obtain ⟨l1, l2⟩ := nlook_at (k := k) hk hv hrw
  have hsz : sizeLine = 16777216 := sizeLine_eq
  have key : ∃ vs', nksOf (nPut ks ws kw k w).1 = some ((storedH xs k b u).map (·.1)) ∧ Reps ⟨X.K, cl⟩ G (nPut ks ws kw k w).1 ((storedH xs k b u).map fun x => .ref x.2.1) ∧ Vals vs' ((storedH xs k b u).map (·.2.2)) ∧ Reps ⟨X.K, cl⟩ G (nPut ks ws kw k w).2 vs' ∧ (∀ x ∈ storedH xs k b u, x.1.depth ≤ 8) ∧ (storedH xs k b u).length ≤ sizeLine := by
    unfold nPut
    cases h : nLook ks ws k with
    | some w0 =>
      obtain ⟨q, u0, v0, h3, _⟩ := l2 w0 h
      rw [storedH_yes (by rw [h3]; rfl)]
      show ∃ vs', nksOf ks = _ ∧ Reps _ G ks _ ∧ _ ∧ Reps _ G (nRep ks ws k w) vs' ∧ _
      obtain ⟨vs', i1, i2⟩ := nrep_reps (k := k) (a := a) hw rv hk hv hrw
      refine ⟨vs', by rw [keys_fst]; exact hk, by rw [reps_keys]; exact hrk, i1, i2, fun x hx => ?_, by rw [List.length_map]; omega⟩
      obtain ⟨y, hy, rfl⟩ := List.mem_map.mp hx
      by_cases e : y.1 = k
      · rw [if_pos e]; exact hc.depth y hy
      · rw [if_neg e]; exact hc.depth y hy
    | none =>
      rw [storedH_no (by rw [l1 h]; rfl)]
      show ∃ vs', nksOf (ks ++ [kw]) = _ ∧ Reps _ G (ks ++ [kw]) _ ∧ _ ∧ Reps _ G (ws ++ [w]) vs' ∧ _
      refine ⟨vs ++ [v], ?_, ?_, ?_, hrw.append (Reps.cons hw Reps.nil), fun x hx => ?_, by rw [List.length_append, List.length_singleton]; omega⟩
      · rw [List.map_append]; exact nks_app hk hkw
      · rw [List.map_append]; exact hrk.append (Reps.cons hkr Reps.nil)
      · rw [List.map_append]; exact hv.append (.cons rv .nil)
      · rcases List.mem_append.mp hx with h | h
        · exact hc.depth x h
        · rw [List.mem_singleton.mp h]; exact hd
  obtain ⟨vs', e1, e2, e3, e4, e5, e6⟩ := key
  obtain ⟨o, es, ep, q1, q2, q3, q4, _, q5⟩ := hd'
  have hR : NdR a (storedH xs k b u) h' := fun P w' => ⟨o, es, ep, q1, q2, q3, by rw [q4]; exact entry_all e1, q5⟩
  exact ⟨hR, r.setl (x := .dn _ _) ha ⟨a, _, vs', rfl, ⟨e5, e6, hc.sys, ndR_code X.prog X.w hR⟩, e1, e2, e3, e4⟩ hx (fun z => by cases z)⟩
def tSetN (X : Cx) (cl : Nat → Addr) : TSet := fun o i v H Q => ∃ (ρ : Mp) (G : Hp) (st : Store) (n : Nat) (ks ws : List W) (kw w : W) (q : NestedKey), Rel ⟨X.K, cl⟩ ρ G H st ∧ Mz.SlR ⟨X.K, cl⟩ ρ G (.l n) o ∧ Mz.SlR ⟨X.K, cl⟩ ρ G (.v kw) i ∧ Mz.SlR ⟨X.K, cl⟩ ρ G (.v w) v ∧
  st.l[n]? = some (.dn ks ws) ∧ nkS (.v kw) = some q ∧ ks.length < 1000000 ∧ ∀ H', Rel ⟨X.K, cl⟩ ρ G H' (st.setl n (.dn (nPut ks ws kw q w).1 (nPut ks ws kw q w).2)) → Q H'
theorem nks_len : ∀ {ks : List W} {ns : List NestedKey}, nksOf ks = some ns → ns.length = ks.length
  | [], ns, h => by unfold nksOf at h; cases h; rfl
  | x :: xs, ns, h => by
    unfold nksOf at h
    obtain ⟨k1, hk1, hk2⟩ := Option.bind_eq_some_iff.mp h
    obtain ⟨ks', hk3, rfl⟩ := Option.map_eq_some_iff.mp hk2
    rw [List.length_cons, List.length_cons, nks_len hk3]
theorem set_nd (hu : X.A.units + 9 < cLine) : PSet X (tSetN X cl) := by
  intro pins s σ H o i v ov iv u Q I ro ri rv ⟨ρ, G, st, n, ks, ws, kw, w, q, r, ho, hi, hv, hx, hq, hl, p⟩
  obtain ⟨a, xs, vs, rfl, ha, _, hH, hc, hk, hrk, hvs, hrw, hd⟩ := nd_dict I r hx ho
  obtain ⟨b, w', e, rfl, rfl, hkw, hkr, hkey⟩ := nkey I r hi ri hq
  obtain rfl := Sl.v.inj e
  obtain rfl : ov = Value.ref a := ro
  have hz : xs.length < 1000000 := by have := nks_len hk; rw [List.length_map] at this; omega
  refine wpAny_setItem_heap (knd := nestedKind X.prog X.w) (hsz := by rw [sizeLine_eq]; omega) (by show X.A.in1.units + 8 < cLine; rw [Around.in1_units]; omega) hkey hd (fun h' hm' hs => ?_)
  obtain ⟨hR, r'⟩ := nd_put (kw := kw) (w := w) r hx ha hc hk hrk hvs hrw hkw hkey.2 hkr hv rv hz hm'
  have J := I.write (t' := s.toks + (nestedKind X.prog X.w).draws q) (x := a) (e := a) (o := NdO a (storedH xs q b u)) (by rw [hH]; exact True.intro) (.inl rfl) (fun c o' hb ho' => (hs.2 c hb).trans ho') (by obtain ⟨o', _, _, h1, _⟩ := hR X.prog X.w; exact ⟨o', h1⟩) (nd_ok hR)
  exact ⟨_, J, p _ r'⟩
variable {o i e : Expr} {mo mi me : ME} {pos : Pos}
theorem is_setN {p2 : Pos} (he : IE X cl Wx e me) (ho : IE X cl Wx o mo) (hi : IE X cl Wx i mi) (hg : PG X (.Subscript o i p2) (gSub (tM ⟨X.K, cl⟩ Wx mo) (tM ⟨X.K, cl⟩ Wx mi) (tSetN X cl))) (hs : swapsWithSole [.Subscript o i p2] e pos.line X.env = pure false := by rfl) (hw : swappedStores [.Subscript o i p2] e X.env = pure none := by rfl)
    (h1 : List.map (fun x => x.snd) (assignEach [.Subscript o i p2] X.env) = [assign (.Subscript o i p2) X.env] := by rfl) : IS X cl Wx (.Assign [.Subscript o i p2] e pos) (mSetN mo mi me) :=
  ps_weak (ps_asg he hg hs hw (h1 := h1)) fun D σ H ⟨env, ρ, G, st, r, er, p⟩ => ⟨env, ρ, G, st, r, er, PostS.ofR (R := Mz.SlR ⟨X.K, cl⟩) er p fun y st1 ρ1 G1 H1 u f1 r1 s1 p1 =>
    ⟨env, ρ1, G1, st1, r1, er.mono f1, PostS.ofR (R := Mz.SlR ⟨X.K, cl⟩) (er.mono f1) p1 fun x st2 ρ2 G2 H2 v f2 r2 s2 p2 =>
      ⟨env, ρ2, G2, st2, r2, (er.mono f1).mono f2, PostS.ofR (R := Mz.SlR ⟨X.K, cl⟩) ((er.mono f1).mono f2) p2 fun k st3 ρ3 G3 H3 z f3 r3 s3 p3 => by
        unfold setN at p3
        split at p3
        · rename_i n kw w
          split at p3
          · rename_i ks ws q e0 ek
            split at p3
            · rename_i hc
              exact ⟨ρ3, G3, st3, n, ks, ws, kw, w, q, r3, s2.mono f3, s3, (s1.mono f2).mono f3, e0, ek, hc, fun H' r' => PostS.nx p3 r' (((er.mono f1).mono f2).mono f3)⟩
            · exact p3.elim
          · exact p3.elim
        · exact p3.elim⟩⟩⟩
end
def dispN (n : Nat) (x y : Sl) (st : Store) : Res Sl := match x, y, st.l[n]? with
  | .v kw, .v w, some (.dn [] []) => match nkS (.v kw) with
    | some _ => .ok (.l n) (st.setl n (.dn [kw] [w]))
    | none => .bad
  | _, _, _ => .bad
def mDispN (mk mv : ME) : ME := fun env st => (mk env (st.push (.dn [] []))).bind fun x st1 => (mv env st1).bind fun y st2 => dispN st.l.length x y st2
end Mz

set_option Elab.async false
set_option linter.all false
set_option maxRecDepth 100000
set_option maxHeartbeats 4000000
namespace Mz
open PySem PySem.Spec PySem.Calls PyProof.Rows L2
structure PEA (X : Cx) (body : List Stmt) (e : Expr) (t : TE) : Prop where
  run : ∀ (pins : List (Addr × Obj)) (s : Shared) (σ : L2.St) (H : Hp) (Q : VK), Inv X pins σ H s → t σ H Q → _root_.PySem.wpAt (model X.prog X.w) X.A (.func body X.env) (eval e X.env) (EP X pins σ Q) X.xe s
structure PSA (X : Cx) (body : List Stmt) (st : Stmt) (t : TS) : Prop where
  run : ∀ (pins : List (Addr × Obj)) (s : Shared) (σ : L2.St) (H : Hp) (D : Ends), Inv X pins σ H s → t D σ H → _root_.PySem.wpAt (model X.prog X.w) X.A (.func body X.env) (exec st X.env) (SP X pins D) X.xe s
structure PSsA (X : Cx) (body : List Stmt) (st : List Stmt) (t : TS) : Prop where
  run : ∀ (pins : List (Addr × Obj)) (s : Shared) (σ : L2.St) (H : Hp) (D : Ends), Inv X pins σ H s → t D σ H → _root_.PySem.wpAt (model X.prog X.w) X.A (.func body X.env) (execs st X.env) (SP X pins D) X.xe s
section
variable {X : Cx} {body : List Stmt} {e l r : Expr} {st : Stmt} {rest : List Stmt} {t u : TS} {te ta tb : TE} {pos : Pos}
theorem PEA.of (h : PE X e te) : PEA X body e te := ⟨fun pins s σ H Q I q => _root_.PySem.wpAt_of_wpAny (h.run pins s σ H Q I q)⟩
theorem PSA.of (h : PS X st t) : PSA X body st t := ⟨fun pins s σ H D I q => _root_.PySem.wpAt_of_wpAny (h.run pins s σ H D I q)⟩
theorem PSsA.of (h : PSs X rest t) : PSsA X body rest t := ⟨fun pins s σ H D I q => _root_.PySem.wpAt_of_wpAny (h.run pins s σ H D I q)⟩
end
structure SFun (P : Program) (K : PySem.W.Frag) (D : Addr) (x qual : Str) (st : Stmt) (f : Addr) (fd : FuncData) : Prop where
  ex : ∃ (oc : Value) (od : Option Addr) (kV doc pm : Value) (an : Option Addr) (cda cc : Addr) (ct : Value) (osl : Array (Option Value)) (ccl : Value) (cdd : Option Addr) (vs : Array Value) (ccs : Array (Option Value)) (file : Str) (tf : Tok) (cl : Value) (cld : Option Addr) (csl : Array (Option Value)),
    fd = PySem.W.fnX x qual (defArgs st) (defBody st) (defScope st) [("__class__", cc)] .none kV doc pm an (.ref cda) ct ∧ K.lookup f = some ⟨oc, od, .func fd, osl⟩ ∧ PySem.W.codeIn K (.ref cda) qual = true ∧
    K.lookup cda = some ⟨ccl, cdd, .fields vs, ccs⟩ ∧ vs[2]? = some (.str file tf) ∧ ((P.main.file : Str) == file) = true ∧ K.lookup cc = some ⟨cl, cld, .cell (some (.ref D)), csl⟩
  kp : PySem.W.keepIn K (.ref f) = true
structure SupX (X : Cx) (D : Addr) : Prop where
  ks : X.env.kindOf "super" = some .globalImplicit
  kc : X.env.kindOf "__class__" = some .free
  kl : X.env.kindOf "self" = some .local
  n0 : X.N[0]? = some ("self" : Str)
  fu : ∃ f fd oc od osl ar, X.env.func = some f ∧ X.K.lookup f = some ⟨oc, od, .func fd, osl⟩ ∧ (fd.params.posonlyargs ++ fd.params.args).head? = some ar ∧ ar.arg = "self"
  co : ∃ cda ccl cdd vs ccs file tf, X.env.code = .ref cda ∧ X.K.lookup cda = some ⟨ccl, cdd, .fields vs, ccs⟩ ∧ vs[2]? = some (.str file tf) ∧ ((X.prog.main.file : Str) == file) = true
  cell : ∃ cc cl cld csl, X.env.cells.lookup ("__class__" : Str) = some cc ∧ X.K.lookup cc = some ⟨cl, cld, .cell (some (.ref D)), csl⟩
structure SupK (P : Program) (K : PySem.W.Frag) (mg : Str → Option Value) (D : Addr) : Prop where
  cls : ∃ cd, PySem.W.clsIn K D = some cd
  sub : PySem.W.mroIn K D (.ref D) = some true
  top : (P.main.scope.names.lookup ("super" : Str)).isSome = false
  mg : mg "super" = none
  any : PySem.W.nsIn K PySem.cStatics "thirdparty.any" = some none
structure SupM (K : PySem.W.Frag) (D : Addr) (m : Str) (f : Addr) : Prop where
  at_ : PySem.W.ks_superIn K D D m = some (some (.ref f))
  ty : PySem.W.typeIn K (.ref f) = some (.type "function")
  fi : PySem.W.fnIn K f = true
section
variable {P : Program} {w : World} {K : PySem.W.Frag} {mg : Str → Option Value} {base : Heap} {cl : Nat → Addr}
end
end Mz

set_option Elab.async false
set_option linter.all false
set_option maxRecDepth 100000
set_option maxHeartbeats 4000000
namespace Mz
open PySem PySem.Spec PySem.Calls PyProof.Rows L2
def intS (is : List Int) : List Sl := is.map fun i => .v (.int i)
def gS (pre post : List Int) (xs zs : List Sl) : List Sl := xs ++ (intS pre ++ (zs ++ intS post))
def gVs (pre post : List Int) (vs zs : List V) : List V := vs ++ (pre.map V.int ++ (zs ++ post.map V.int))
structure KB (K : PySem.W.Frag) (fd : FuncData) (ps : List Str) (n : Nat) (ks : List Str) (pre post : List Int) : Prop where
  ex : ∃ mp mq : List Value, KBn K fd ps n ks (fun us ws => us ++ (mp ++ (ws ++ mq))) (gVs pre post)
theorem slrs_int {T : Tx} {ρ : Mp} {G : Hp} : ∀ {is : List Int}, SlRs T ρ G (intS is) (is.map V.int)
  | [] => rfl
  | i :: is => ⟨_, _, rfl, (rep_int : Rep T G (.int i) _), slrs_int (is := is)⟩
theorem slrs_gS {T : Tx} {ρ : Mp} {G : Hp} {pre post : List Int} {xs zs : List Sl} {us ws : List V} (h1 : SlRs T ρ G xs us) (h2 : SlRs T ρ G zs ws) : SlRs T ρ G (gS pre post xs zs) (gVs pre post us ws) := slrs_apS h1 (slrs_apS slrs_int (slrs_apS h2 slrs_int))
section
variable {K : PySem.W.Frag} {x qual : Str} {params : Arguments} {body : List Stmt} {scope : Scope} {ps ks : List Str} {n : Nat}
theorem kb_all {fd : FuncData} (h : ∀ us ws : List Value, us.length = n → ws.length = ks.length → bindArgs fd ⟨us, ks.zip ws⟩ = pure (ps.zip (us ++ ws))) : KB K fd ps n ks [] [] :=
  ⟨[], [], fun s us ws X l1 l2 => .of_eq (by show _ = pure (ps.zip (us ++ ([] ++ (ws ++ [])))); rw [List.append_nil, List.nil_append]; exact h us ws l1 l2), fun r1 r2 => by
    show Vals (_ ++ ([] ++ (_ ++ []))) (_ ++ ([] ++ (_ ++ [])))
    rw [List.append_nil, List.nil_append, List.append_nil, List.nil_append]
    exact r1.append r2⟩
theorem kb_some {fd : FuncData} {D : Addr} {pre post : List (Str × Int)} (hp : ∀ q ∈ pre ++ post, ∃ t, PySem.W.nsIn K D q.1 = some (some (.int q.2 t)))
    (h : ∀ (us mp ws mq : List Value), us.length = n → mp.length = pre.length → ws.length = ks.length → mq.length = post.length → KwChain D (((pre ++ post).map (·.1)).zip (mp ++ mq)) (bindArgs fd ⟨us, ks.zip ws⟩) (ps.zip (us ++ (mp ++ (ws ++ mq))))) :
    KB K fd ps n ks (pre.map (·.2)) (post.map (·.2)) := by
  have vals : ∀ l : List (Str × Int), (∀ q ∈ l, ∃ t, PySem.W.nsIn K D q.1 = some (some (.int q.2 t))) → ∃ us : List Value, us.length = l.length ∧ Vals ((l.map (·.2)).map V.int) us ∧ ∀ q ∈ (l.map (·.1)).zip us, PySem.W.nsIn K D q.1 = some (some q.2) := by
    intro l
    induction l with
    | nil => intro _; exact ⟨[], rfl, .nil, fun q hq => by cases hq⟩
    | cons q l ih =>
      intro hl
      obtain ⟨us, h1, h2, h3⟩ := ih fun p hp => hl p (List.mem_cons_of_mem _ hp)
      obtain ⟨t, ht⟩ := hl q List.mem_cons_self
      refine ⟨.int q.2 t :: us, by simp [h1], .cons ⟨t, rfl⟩ h2, fun p hp => ?_⟩
      rcases List.mem_cons.mp hp with e | e
      · subst e; exact ht
      · exact h3 p e
  obtain ⟨mp, l1, r1, k1⟩ := vals pre fun q hq => hp q (List.mem_append_left _ hq)
  obtain ⟨mq, l2, r2, k2⟩ := vals post fun q hq => hp q (List.mem_append_right _ hq)
  refine ⟨mp, mq, fun s us ws X e1 e2 => BindsTo.of_looks fun M => KwChain.looks X (fun q hq => ?_) (h us mp ws mq e1 l1 e2 l2), fun ra rb => ra.append (r1.append (rb.append r2))⟩
  rw [List.map_append, List.zip_append (by rw [List.length_map, l1])] at hq
  rcases List.mem_append.mp hq with e | e
  · exact k1 q e
  · exact k2 q e
end
section
variable {X : Cx} {cl : Nat → Addr} {Wx : WX}
abbrev IK (X : Cx) (cl : Nat → Addr) (Wx : WX) (kws : List Keyword) (m : MA) : Prop := PK X kws (tL ⟨X.K, cl⟩ Wx m)
theorem ik_nil : IK X cl Wx [] mNil := ⟨fun pos pins s σ H Q I ⟨env, ρ, G, st, r, er, p⟩ => pk_nil.run pos pins s σ H Q I (p ρ G H [] (Fr.refl ρ G) r rfl)⟩
theorem ik_cons {e : Expr} {kws : List Keyword} {me : ME} {mk : MA} {nm : Option Str} {kpos : Pos} (he : IE X cl Wx e me) (hk : IK X cl Wx kws mk) : IK X cl Wx (⟨nm, e, kpos⟩ :: kws) (mCons me mk) :=
  ⟨fun pos pins s σ H Q I ⟨env, ρ, G, st, r, er, p⟩ => (pk_cons he hk).run pos pins s σ H Q I ⟨env, ρ, G, st, r, er, PostR.bind (R1 := Mz.SlR ⟨X.K, cl⟩) p fun x st1 ρ1 G1 H1 u f1 r1 s1 p1 =>
    ⟨env, ρ1, G1, st1, r1, er.mono f1, PostR.bind (R1 := SlRs ⟨X.K, cl⟩) p1 fun xs st2 ρ2 G2 H2 us f2 r2 s2 p2 => p2 ρ2 G2 H2 _ (Fr.refl _ _) r2 ⟨_, _, rfl, s1.mono f2, s2⟩⟩⟩⟩
end
noncomputable def mMakeW (c : Nat) (F : MF) (n m : Nat) (pre post : List Int) (a ak : MA) : ME := fun env st => (a env st).bind fun xs st1 => (ak env st1).bind fun zs st2 => if xs.length = n ∧ zs.length = m then keepR st2 (F (gS pre post (.o st2.o.length :: xs) zs) (st2.pusho ⟨c, [], []⟩)) else .bad
section
variable {X : Cx} {cl : Nat → Addr} {Wx : WX} {e o : Expr} {m mo : ME} {pos pos' p apos : Pos} {f x : Str} {e1 : Expr} {es : List Expr} {kws : List Keyword} {ra rk : MA}
theorem keep_postW {T : Tx} {ρ : Mp} {G H : Hp} {st : Store} {Q : VK} {E : XK} {F : MF} {xs zs : List Sl} {us ws : List V} {pre post : List Int} {c : Nat} {x dx : Addr} (r : Rel T ρ G H st) (rs : SlRs T ρ G xs us) (rz : SlRs T ρ G zs ws) (hx : H x = none) (hd : H dx = none) (hn : dx ≠ x)
    (p : PostR T ρ G (Mz.SlR T) (keepR st (F (gS pre post (.o st.o.length :: xs) zs) (st.pusho ⟨c, [], []⟩))) Q E) :
    ∃ ρ', Rel T ρ' G (upd (upd H dx (.own x)) x (.ins (T.cl c) dx [])) (st.pusho ⟨c, [], []⟩) ∧ SlRs T ρ' G (gS pre post (.o st.o.length :: xs) zs) (gVs pre post (.ref x :: us) ws) ∧
      PostR T ρ' G (Mz.SlR T) (F (gS pre post (.o st.o.length :: xs) zs) (st.pusho ⟨c, [], []⟩)) (fun v H2 => v = .non ∧ Q (.ref x) H2) E := by
  have rg : SlRs T ρ G (xs ++ (intS pre ++ (zs ++ intS post))) (us ++ (pre.map V.int ++ (ws ++ post.map V.int))) := slrs_gS (pre := pre) (post := post) rs rz
  exact keep_post (F := F) (xs := xs ++ (intS pre ++ (zs ++ intS post))) r rg hx hd hn p
theorem ie_makeW {nk : Nat} {F : MF} {k n n' c : Nat} {fI : Addr} {fd : FuncData} {ps ks : List Str} {pre post : List Int} (M : Mk X.K (cl c) fI) (hF : FnOk X.prog X.w X.K X.mg X.base (CXm X.K X.prog X.w) k fI fd ps (spM ⟨X.K, cl⟩ n F)) (hn : Ar F n) (tk : Takes X Wx) (hr : Room (k + 1) X.A) (hg : Gl X x) (hm : X.mg x = some (.ref (cl c)))
    (hb : KB X.K fd ps (n' + 1) ks pre post) (ha : IA X cl Wx (e1 :: es) ra) (hk : IK X cl Wx kws rk)
    (hnk : ks.length = nk := by rfl) (hall : (backToKw pos (keywordEach kws X.env)).all (·.1.isSome) = true := by rfl) (hks : (backToKw pos (keywordEach kws X.env)).filterMap (·.1) = ks := by rfl) (hdb : (x == ("__debug__" : Str)) = false := by decide)
    (he : starEach (e1 :: es) X.env = (false, eval e1 X.env) :: starEach es X.env := by rfl) (hpl : ((backTo pos (starEach (e1 :: es) X.env)).any (·.1) || (backToKw pos (keywordEach kws X.env)).any (·.1.isNone)) = false := by rfl) :
    IE X cl Wx (.Call (.Name x p) (e1 :: es) kws pos) (mMakeW c F n' nk pre post ra rk) := by
  subst hnk
  refine ⟨fun pins s σ H Q I h => ?_⟩
  obtain ⟨env, ρ, G, st, rel, er, q⟩ := h
  obtain ⟨mp, mq, hb⟩ := hb.ex
  refine wpAny_Call_Name_kw (ld_glob I hg hm ?_ hdb)
  have h1 : tL ⟨X.K, cl⟩ Wx ra σ H (fun us H1 => ∃ ρ1 G1 st1 xs, Rel ⟨X.K, cl⟩ ρ1 G1 H1 st1 ∧ EnvR ⟨X.K, cl⟩ ρ1 G1 env σ ∧ SlRs ⟨X.K, cl⟩ ρ1 G1 xs us ∧ PostR ⟨X.K, cl⟩ ρ1 G1 (Mz.SlR ⟨X.K, cl⟩) ((rk env st1).bind fun zs st2 => if xs.length = n' ∧ zs.length = ks.length then keepR st2 (F (gS pre post (.o st2.o.length :: xs) zs) (st2.pusho ⟨c, [], []⟩)) else .bad) Q (fun c d H' => Wx c d σ H')) :=
    ⟨env, ρ, G, st, rel, er, PostR.bind (R1 := SlRs ⟨X.K, cl⟩) q fun xs st1 ρ1 G1 H1 us f1 r1 s1 p1 => ⟨ρ1, G1, st1, xs, r1, er.mono f1, s1, p1⟩⟩
  refine PySem.W.callWith_KW (h₀ := X.base) I.ok.mod.kin M.kp hall (thn (ha.run pos pins s σ H _ I h1) ?_) hpl he
  rintro us s1 ⟨vs, H1, I1, rv, ρ1, G1, st1, xs, r1, er1, sx, p1⟩
  have h2 : tL ⟨X.K, cl⟩ Wx rk σ H1 (fun ws H2 => ∃ ρ2 G2 st2 zs, Rel ⟨X.K, cl⟩ ρ2 G2 H2 st2 ∧ SlRs ⟨X.K, cl⟩ ρ2 G2 xs vs ∧ SlRs ⟨X.K, cl⟩ ρ2 G2 zs ws ∧ (xs.length = n' ∧ zs.length = ks.length) ∧ PostR ⟨X.K, cl⟩ ρ2 G2 (Mz.SlR ⟨X.K, cl⟩) (keepR st2 (F (gS pre post (.o st2.o.length :: xs) zs) (st2.pusho ⟨c, [], []⟩))) Q (fun c d H' => Wx c d σ H')) :=
    ⟨env, ρ1, G1, st1, r1, er1, PostR.bind (R1 := SlRs ⟨X.K, cl⟩) p1 fun zs st2 ρ2 G2 H2 ws f2 r2 s2 p2 => by
      split at p2
      · rename_i hl
        exact ⟨ρ2, G2, st2, zs, r2, sx.mono f2, s2, hl, p2⟩
      · exact p2.elim⟩
  refine thn (hk.run pos pins s1 σ H1 _ I1 h2) ?_
  rintro ws s2 ⟨zs, H2, I2, rz, ρ2, G2, st2, zs', r2, sx2, sz2, ⟨l1, l2⟩, p2⟩
  refine ⟨I2.kIn, ?_⟩
  rw [hks]
  have hq : ∀ a dx, H2 a = none → H2 dx = none → dx ≠ a → spM ⟨X.K, cl⟩ n F (gVs pre post (.ref a :: vs) zs) (upd (upd H2 dx (.own a)) a (.ins (cl c) dx [])) (fun v H2 => v = .non ∧ Q (.ref a) H2) (fun c d H' => Wx c d σ H') := fun a dx h1 h2 h3 => by
    obtain ⟨ρ', k1, k2, k3⟩ := keep_postW r2 sx2 sz2 h1 h2 h3 p2
    exact sp_of hn k1 k2 k3
  have hq' := hq (s2.heap.objs.size + 1) s2.heap.objs.size (I2.hok.fresh (Nat.le_succ _)) (I2.hok.fresh (Nat.le_refl _)) (Nat.ne_of_lt (Nat.lt_succ_self _))
  have I3 := Inv.made (C := cl c) I2
  have ra2 : Vals (V.ref (s2.heap.objs.size + 1) :: vs) (Value.ref (s2.heap.objs.size + 1) :: us) := .cons rfl rv
  have m1 : (Value.ref (s2.heap.objs.size + 1) :: us).length = n' + 1 := by rw [List.length_cons, ← rv.length, ← sx2.length, l1]
  have m2 : ws.length = ks.length := by rw [← rz.length, ← sz2.length, l2]
  refine wpAny_call (make_map (f := fI) I2.kIn M.makes M.init (beq_iff_eq.mp M.fn) (codeAny_mono (hF.run _ X.stack _ _ ⟨Value.ref (s2.heap.objs.size + 1) :: us, ks.zip ws⟩ _ _ _ _ (hr.make (cl c) us (ks.zip ws))
    (I3.env0.make (cl c) us (ks.zip ws)) (hb.to _ _ ws I3.kIn m1 m2) (hb.rel ra2 rz) hq') fun r s' hq2 => ?_))
  cases r with
  | error e => exact passAt tk σ pins _ _ e s' I3 hq2
  | ok fl =>
    cases fl with
    | ret u =>
      obtain ⟨v, H', I4, rv', ev, q3⟩ := I3.after hq2
      subst ev
      exact ⟨rv', ⟨V.ref (s2.heap.objs.size + 1), H', I4, rfl, q3⟩⟩
    | next => exact False.elim hq2
    | brk => exact False.elim hq2
    | cont => exact False.elim hq2
end
section
variable {X : Cx} {pins : List (Addr × Obj)} {σ : L2.St} {H : Hp} {s : Shared} {D f2 a dx : Addr} {fs : List (Str × V)} {mm : Str} {p0 p1 apos pos : Pos} {es : List Expr} {kws : List Keyword} {pl : Sem Bool} {body : List Stmt}
end
section
variable {X : Cx} {cl : Nat → Addr} {Wx : WX} {D f2 : Addr} {mm : Str} {p0 p1 apos pos : Pos} {e1 : Expr} {es : List Expr} {kws : List Keyword} {pl : Sem Bool} {body : List Stmt} {ra rk : MA}
end
end Mz

set_option Elab.async false
set_option linter.all false
set_option maxRecDepth 100000
set_option maxHeartbeats 4000000
namespace Mz
open PySem PySem.Spec PySem.Calls PyProof.Rows L2
section
variable {X : Cx} {cl : Nat → Addr} {Wx : WX} {body : List Stmt} {e l r : Expr} {s : Stmt} {ss : List Stmt} {me ml mr : ME} {ms mss : MS} {pos : Pos}
end
section
variable {P : Program} {w : World} {K : PySem.W.Frag} {mg : Str → Option Value} {base : Heap} {cl : Nat → Addr}
end
section
variable {X : Cx} {cl : Nat → Addr} {Wx : WX} {pos : Pos}
theorem ndR_nil {p : Addr} {h : Heap} (e : h.get? p = some { cls := .type "dict", data := .dict #[] }) : NdR p [] h := fun P w => ⟨_, _, _, e, ⟨rfl, rfl, rfl⟩, rfl, rfl, List.nodup_nil⟩
theorem ie_dispN {k v : Expr} {mk mv : ME} (hu : X.A.units + 9 < cLine) (hk : IE X cl Wx k mk) (hv : IE X cl Wx v mv) : IE X cl Wx (.Dict [some k] [v] pos) (mDispN mk mv) := by
  refine ⟨fun pins s σ H Q I h => ?_⟩
  obtain ⟨env, ρ, G, st, rel, er, q⟩ := h
  have hshape : (evalEachOpt [some k] X.env).zip ((evalEach [v] X.env).map fun v => do let x ← v; standAt pos; pure x) = [(eval k X.env, do let x ← eval v X.env; standAt pos; pure x)].map fun p => (some p.1, p.2) := rfl
  rw [arm_eval_Dict, hshape, dictDisplay_pairs _ (by simp) (by simp)]
  refine wpAny_bind (wpAny_standAt (wpAny_bind ?_))
  refine wpAny_subDictH (knd := nestedKind X.prog X.w) (by show X.A.units + 8 < cLine; omega) (by simp) ?_
  have hp : H s.heap.objs.size = none := I.hok.fresh (Nat.le_refl _)
  have hsys : (s.heap.objs.size == sysModules) = false := by
    have z := L2.Inv.big I
    have : s.heap.objs.size ≠ sysModules := Nat.ne_of_gt z
    simpa using this
  have hN : NdR s.heap.objs.size [] (s.heap.push { cls := .type "dict", data := .dict #[] }) := ndR_nil (Heap.get?_push_size s.heap rfl)
  have I1 := I.laid (t' := s.toks) (o := NdO s.heap.objs.size []) (fun b u e => Heap.get?_push_of_some _ e) (Nat.le_refl _) (nd_ok hN)
  obtain ⟨f1, r1⟩ := rel.newL (o := NdO s.heap.objs.size []) (x := .dn [] []) hp ⟨_, [], [], rfl, ⟨fun x hx => absurd hx (List.not_mem_nil), Nat.zero_le _, hsys, ndR_code X.prog X.w hN⟩, rfl, Reps.nil, .nil, Reps.nil⟩
  have hρ0 : (ρ.l ++ [s.heap.objs.size])[st.l.length]? = some s.heap.objs.size := by rw [← rel.ll]; simp
  have h1 : tM ⟨X.K, cl⟩ Wx mk σ (upd H s.heap.objs.size (NdO s.heap.objs.size [])) (fun u H1 => ∃ ρ1 G1 st1 x, Rel ⟨X.K, cl⟩ ρ1 G1 H1 st1 ∧ EnvR ⟨X.K, cl⟩ ρ1 G1 env σ ∧ ρ1.l[st.l.length]? = some s.heap.objs.size ∧ Mz.SlR ⟨X.K, cl⟩ ρ1 G1 x u ∧ PostR ⟨X.K, cl⟩ ρ1 G1 (Mz.SlR ⟨X.K, cl⟩) ((mv env st1).bind fun y st2 => dispN st.l.length x y st2) Q (fun c d H' => Wx c d σ H')) :=
    ⟨env, _, G, _, r1, er.mono f1, PostR.bind (R1 := Mz.SlR ⟨X.K, cl⟩) (PostR.mono f1 q) fun x st1 ρ1 G1 H1 u g1 r2 s1 p1 => ⟨ρ1, G1, st1, x, r2, (er.mono f1).mono g1, g1.le.1 _ _ hρ0, s1, p1⟩⟩
  refine evalPairs_cons (thn (hk.run pins _ σ _ _ I1 h1) ?_)
  rintro ku s1 ⟨ku', H1, I2, rk, ρ1, G1, st1, x, r2, er2, hρ1, sx, p1⟩
  have h2 : tM ⟨X.K, cl⟩ Wx mv σ H1 (fun u H2 => ∃ ρ2 G2 st2 y, Rel ⟨X.K, cl⟩ ρ2 G2 H2 st2 ∧ ρ2.l[st.l.length]? = some s.heap.objs.size ∧ Mz.SlR ⟨X.K, cl⟩ ρ2 G2 x ku' ∧ Mz.SlR ⟨X.K, cl⟩ ρ2 G2 y u ∧ PostR ⟨X.K, cl⟩ ρ2 G2 (Mz.SlR ⟨X.K, cl⟩) (dispN st.l.length x y st2) Q (fun c d H' => Wx c d σ H')) :=
    ⟨env, ρ1, G1, st1, r2, er2, PostR.bind (R1 := Mz.SlR ⟨X.K, cl⟩) p1 fun y st2 ρ2 G2 H2 u g2 r3 s2 p2 => ⟨ρ2, G2, st2, y, r3, g2.le.1 _ _ hρ1, sx.mono g2, s2, p2⟩⟩
  refine wpAny_bind (thn (hv.run pins _ σ _ _ I2 h2) ?_)
  rintro vu s2 ⟨vu', H2, I3, rv, ρ2, G2, st2, y, r3, hρ2, sx2, sy, p2⟩
  refine wpAny_bind (wpAny_standAt (wpAny_pure (evalPairs_nil ?_)))
  unfold dispN at p2
  split at p2
  · rename_i kw w e0
    split at p2
    · rename_i kk ek
      obtain ⟨a, xs, vs, hu1, hρa, _, hH, hc, hk1, hrk, hvs, hrw, hd⟩ := nd_dict I3 r3 e0 (show Mz.SlR ⟨X.K, cl⟩ ρ2 G2 (.l st.l.length) (.ref s.heap.objs.size) from ⟨_, hρ2, rfl⟩)
      obtain rfl : s.heap.objs.size = a := by cases hu1; rfl
      have hxs : xs = [] := by
        cases xs with
        | nil => rfl
        | cons x xs => unfold nksOf at hk1; cases hk1
      subst hxs
      obtain ⟨b, w', e, rfl, rfl, hkw, hkr, hkey⟩ := nkey I3 r3 sx2 rk ek
      obtain rfl := Sl.v.inj e
      refine ⟨[(kk, b, vu)], ⟨rfl, rfl, hkey, trivial⟩, hd, fun h' tk hd' hs => ?_⟩
      obtain ⟨hR, r'⟩ := nd_put (kw := kw) (w := w) r3 e0 hρa hc hk1 hrk hvs hrw hkw hkey.2 hkr sy rv (by decide) hd'
      have J := I3.write (t' := tk) (x := s.heap.objs.size) (e := s.heap.objs.size) (o := NdO s.heap.objs.size (storedH [] kk b vu)) (by rw [hH]; exact True.intro) (.inl rfl) (fun c o' hb ho' => (hs.2 c hb).trans ho') (by obtain ⟨o', _, _, h1, _⟩ := hR X.prog X.w; exact ⟨o', h1⟩) (nd_ok hR)
      have e2 : nPut [] [] kw kk w = ([kw], [w]) := rfl
      rw [e2] at r'
      exact wpAny_pure ⟨.ref s.heap.objs.size, _, J, rfl, p2 _ _ _ _ (Fr.refl _ _) r' ⟨_, hρ2, rfl⟩⟩
    · exact p2.elim
  · exact p2.elim
end
end Mz

set_option Elab.async false
set_option linter.all false
set_option maxRecDepth 100000
set_option maxHeartbeats 4000000
namespace Mz
open PySem PySem.Spec PySem.Calls PyProof.Rows L2
theorem u9 {k : Nat} {A : Around} (r : Room k A) : A.units + 9 < cLine := by have := r.un; omega
theorem u65 {k : Nat} {A : Around} (r : Room k A) : A.units + 65 < cLine := by have := r.un; omega
def ldata (st : Store) (y : Sl) : Option (List PyData) := (litems st y).bind toDs
def opInD (neg : Bool) : Op2 := fun x y st => match datum st x, ldata st y with
  | some d, some ds => if SeqAt.shaped d = true ∧ SeqAt.shaped (.list ds) = true then .ok (.v (.bl (if neg then !ds.any fun z => PyData.eqv z d else ds.any fun z => PyData.eqv z d))) st else .bad
  | _, _ => .bad
theorem ldata_at {T : Tx} {ρ : Mp} {G H : Hp} {st : Store} {y : Sl} {v : V} {ds : List PyData} (r : Rel T ρ G H st) (hy : Mz.SlR T ρ G y v) (h : ldata st y = some ds) : ∃ a, v = .ref a ∧ Dp T.K H v (.list ds) := by
  unfold ldata at h
  obtain ⟨xs, h1, h2⟩ := Option.bind_eq_some_iff.mp h
  obtain ⟨a, vs, rfl, hq, hr⟩ := litems_at r hy h1
  exact ⟨a, rfl, .lst hq (toDs_dp r.ext xs vs ds h2 hr)⟩
theorem s_notInD {T : Tx} : OpS T (rNotInD T.K) (opInD true) := fun ρ G H st x y u v Q E r hx hy p => by
  unfold opInD at p
  split at p
  · rename_i d ds e1 e2
    split at p
    · rename_i hs
      obtain ⟨_, _, hd⟩ := ldata_at r hy e2
      exact ⟨d, ds, datum_dp r hx e1, hd, hs.1, hs.2, pg p r rep_bl⟩
    · exact p.elim
  · exact p.elim
def firstD (d : PyData) : List PyData → Option Nat
  | [] => none
  | z :: zs => if PyData.eqv z d = true then some 0 else (firstD d zs).map (· + 1)
theorem firstD_at {d : PyData} : ∀ {ds : List PyData} {j : Nat}, firstD d ds = some j → (∃ z, ds[j]? = some z ∧ PyData.eqv z d = true) ∧ ∀ (m : Nat) (z' : PyData), m < j → ds[m]? = some z' → PyData.eqv z' d = false
  | [], j, h => by unfold firstD at h; cases h
  | z :: zs, j, h => by
    unfold firstD at h
    split at h
    · rename_i hz
      cases h
      exact ⟨⟨z, rfl, hz⟩, fun m z' hm => absurd hm (Nat.not_lt_zero _)⟩
    · rename_i hz
      obtain ⟨i, hi, rfl⟩ := Option.map_eq_some_iff.mp h
      obtain ⟨h1, h2⟩ := firstD_at hi
      refine ⟨h1, fun m z' hm e => ?_⟩
      cases m with
      | zero => cases e; simpa using hz
      | succ m => exact h2 m z' (by omega) e
section
variable {X : Cx} {cl : Nat → Addr} {Wx : WX} {o e : Expr} {es : List Expr} {mo me : ME} {ma : MA} {apos cpos : Pos}
end
def sidxOf (a : Str) (ys : List Sl) (st : Store) : Res Sl := match ys with
  | [.v (.str b)] => match Builtin.Str.occurrences a b 0 a.length 1 with
    | i :: _ => .ok (.v (.int (i : Nat))) st
    | [] => .bad
  | _ => .bad
def sidx1 (a : MA) (env : Mz.Env) (x : Sl) (st : Store) : Res Sl := match x with
  | .v (.str z) => (a env st).bind fun ys st2 => sidxOf z ys st2
  | _ => .bad
def mSidx (o : ME) (a : MA) : ME := fun env st => (o env st).bind fun x st1 => sidx1 a env x st1
section
variable {X : Cx} {cl : Nat → Addr} {Wx : WX} {o e : Expr} {es : List Expr} {mo me : ME} {ma : MA} {apos cpos : Pos}
theorem ie_sidx (ho : IE X cl Wx o mo) (ha : IA X cl Wx (e :: es) ma)
    (hbase : attributeBase o "index" X.env (eval o X.env) = eval o X.env := by rfl)
    (hfew : ((backTo cpos (starEach (e :: es) X.env)).all (fun x => !x.1) && (backToKw cpos (keywordEach [] X.env)).all (fun x => x.1.isSome)
      && decide ((e :: es).length + ([] : List Keyword).length + (if ([] : List Keyword).isEmpty then 0 else 1) < 30)) = true := by rfl)
    (hline : (apos.endLine == cpos.line) = true := by rfl) (he : starEach (e :: es) X.env = (false, eval e X.env) :: starEach es X.env := by rfl) (hplain : (backTo cpos (starEach es X.env)).any (·.1) = false := by rfl) :
    IE X cl Wx (.Call (.Attribute o "index" apos) (e :: es) [] cpos) (mSidx mo ma) :=
  pe_weak (pe_bm PySem.F.plainAttrs_str PySem.F.slot_str_index PySem.F.type_str_index mt_sindex ho ha hbase hfew hline he hplain) fun σ H Q ⟨env, ρ, G, st, rel, er, p⟩ => ⟨env, ρ, G, st, rel, er, PostR.bind (R1 := Mz.SlR ⟨X.K, cl⟩) p fun x st1 ρ1 G1 H1 u f1 r1 s1 p1 => by
    unfold sidx1 at p1
    split at p1
    · rename_i z
      unfold Mz.SlR Rep at s1
      subst s1
      refine ⟨rfl, env, ρ1, G1, st1, r1, er.mono f1, PostR.bind (R1 := SlRs ⟨X.K, cl⟩) p1 fun ys st2 ρ2 G2 H2 us f2 r2 s2 p2 => ?_⟩
      unfold sidxOf at p2
      split at p2
      · rename_i b
        split at p2
        · rename_i i rest ho
          obtain ⟨u1, rfl, hu⟩ := slrs1 s2
          unfold Mz.SlR Rep at hu; subst hu
          exact ⟨z, b, i, rest, rfl, rfl, ho, pg p2 r2 rep_int⟩
        · exact p2.elim
      · exact p2.elim
    · exact p1.elim⟩
end
section
variable {env : Mz.Env} {st : Store} {a ak : MA} {o mk mv : ME} {x : Sl} {xs ys zs : List Sl} {ws : List W} {n m : Nat} {pre post : List Int} {F : MF} {c : Nat} {mm : Str}
def kSidx (a : MA) (env : Mz.Env) (r : Res Sl) : Res Sl := r.bind fun x st1 => sidx1 a env x st1
def kSidx2 (z : Str) (r : Res (List Sl)) : Res Sl := r.bind fun ys st2 => sidxOf z ys st2
theorem e_sidx : mSidx o a env st = kSidx a env (o env st) := rfl
theorem k_sidx {z : Str} : kSidx a env (.ok (.v (.str z)) st) = kSidx2 z (a env st) := rfl
theorem k_sidx2 {z b : Str} {i : Nat} {rest : List Nat} (h : Builtin.Str.occurrences z b 0 z.length 1 = i :: rest) : kSidx2 z (.ok [.v (.str b)] st) = .ok (.v (.int (i : Nat))) st := by
  show sidxOf z [.v (.str b)] st = _
  unfold sidxOf
  dsimp only
  rw [h]
noncomputable def kMakeW (c : Nat) (F : MF) (n m : Nat) (pre post : List Int) (ak : MA) (env : Mz.Env) (r : Res (List Sl)) : Res Sl := r.bind fun xs st1 => (ak env st1).bind fun zs st2 => if xs.length = n ∧ zs.length = m then keepR st2 (F (gS pre post (.o st2.o.length :: xs) zs) (st2.pusho ⟨c, [], []⟩)) else .bad
noncomputable def kMakeW2 (c : Nat) (F : MF) (n m : Nat) (pre post : List Int) (xs : List Sl) (r : Res (List Sl)) : Res Sl := r.bind fun zs st2 => if xs.length = n ∧ zs.length = m then keepR st2 (F (gS pre post (.o st2.o.length :: xs) zs) (st2.pusho ⟨c, [], []⟩)) else .bad
theorem e_makeW : mMakeW c F n m pre post a ak env st = kMakeW c F n m pre post ak env (a env st) := rfl
theorem k_makeW : kMakeW c F n m pre post ak env (.ok xs st) = kMakeW2 c F n m pre post xs (ak env st) := rfl
end
end Mz

set_option Elab.async false
set_option linter.all false
set_option maxRecDepth 100000
set_option maxHeartbeats 4000000
namespace Mz
open PySem PySem.Spec PySem.Calls PyProof.Rows L2
section
variable {env : Mz.Env} {st : Store} {o i e mk mv : ME} {x y k : Sl} {n : Nat}
def kSetN1 (o i : ME) (env : Mz.Env) (r : Res Sl) : SR := ofR env r fun y st1 => ofR env (o env st1) fun x st2 => ofR env (i env st2) fun k st3 => setN env x k y st3
def kSetN2 (y : Sl) (i : ME) (env : Mz.Env) (r : Res Sl) : SR := ofR env r fun x st2 => ofR env (i env st2) fun k st3 => setN env x k y st3
def kSetN3 (y x : Sl) (env : Mz.Env) (r : Res Sl) : SR := ofR env r fun k st3 => setN env x k y st3
theorem e_setN : mSetN o i e env st = kSetN1 o i env (e env st) := rfl
theorem k_setN1 : kSetN1 o i env (.ok y st) = kSetN2 y i env (o env st) := rfl
theorem k_setN2 : kSetN2 y i env (.ok x st) = kSetN3 y x env (i env st) := rfl
theorem k_setN3 : kSetN3 y x env (.ok k st) = setN env x k y st := rfl
def kDispN1 (n : Nat) (mv : ME) (env : Mz.Env) (r : Res Sl) : Res Sl := r.bind fun x st1 => (mv env st1).bind fun y st2 => dispN n x y st2
def kDispN2 (n : Nat) (x : Sl) (r : Res Sl) : Res Sl := r.bind fun y st2 => dispN n x y st2
theorem e_dispN : mDispN mk mv env st = kDispN1 st.l.length mv env (mk env (st.push (.dn [] []))) := rfl
theorem k_dispN1 : kDispN1 n mv env (.ok x st) = kDispN2 n x (mv env st) := rfl
theorem k_dispN2 : kDispN2 n x (.ok y st) = dispN n x y st := rfl
end
end Mz

set_option Elab.async false
set_option linter.all false
set_option maxRecDepth 100000
set_option maxHeartbeats 4000000
namespace Mz
open PySem PySem.Spec PySem.Calls PyProof.Rows L2
section
variable {P : Program} {K : PySem.W.Frag}
theorem SFun.binds {D : Addr} {x qual : Str} {st : Stmt} {f : Addr} {fd : FuncData} {ps : List Str} (F : SFun P K D x qual st f fd)
    (h : ∀ (kV doc pm : Value) (an : Option Addr) (cda cc : Addr) (ct : Value) (us : List Value), us.length = ps.length → bindArgs (PySem.W.fnX x qual (defArgs st) (defBody st) (defScope st) [("__class__", cc)] .none kV doc pm an (.ref cda) ct) ⟨us, []⟩ = pure (ps.zip us)) : Binds K fd ps [] := by
  obtain ⟨oc, od, kV, doc, pm, an, cda, cc, ct, osl, ccl, cdd, vs', ccs, file, tf, cl', cld, csl, rfl, _⟩ := F.ex
  exact .all (h kV doc pm an cda cc ct)
end
section
variable {F : MF} {pre post : List Int} {x a b c d e : Sl} {st : Store} {k : Nat}
theorem k_nW10 : kMakeW2 k F 1 0 pre post [a] (.ok [] st) = keepR st (F (gS pre post (.o st.o.length :: [a]) []) (st.pusho ⟨k, [], []⟩)) := rfl
theorem k_nW11 : kMakeW2 k F 1 1 pre post [a] (.ok [b] st) = keepR st (F (gS pre post (.o st.o.length :: [a]) [b]) (st.pusho ⟨k, [], []⟩)) := rfl
theorem k_nW12 : kMakeW2 k F 1 2 pre post [a] (.ok [b, c] st) = keepR st (F (gS pre post (.o st.o.length :: [a]) [b, c]) (st.pusho ⟨k, [], []⟩)) := rfl
theorem k_nW20 : kMakeW2 k F 2 0 pre post [a, b] (.ok [] st) = keepR st (F (gS pre post (.o st.o.length :: [a, b]) []) (st.pusho ⟨k, [], []⟩)) := rfl
theorem k_nW21 : kMakeW2 k F 2 1 pre post [a, b] (.ok [c] st) = keepR st (F (gS pre post (.o st.o.length :: [a, b]) [c]) (st.pusho ⟨k, [], []⟩)) := rfl
theorem k_nW22 : kMakeW2 k F 2 2 pre post [a, b] (.ok [c, d] st) = keepR st (F (gS pre post (.o st.o.length :: [a, b]) [c, d]) (st.pusho ⟨k, [], []⟩)) := rfl
theorem k_nW30 : kMakeW2 k F 3 0 pre post [a, b, c] (.ok [] st) = keepR st (F (gS pre post (.o st.o.length :: [a, b, c]) []) (st.pusho ⟨k, [], []⟩)) := rfl
theorem k_nW31 : kMakeW2 k F 3 1 pre post [a, b, c] (.ok [d] st) = keepR st (F (gS pre post (.o st.o.length :: [a, b, c]) [d]) (st.pusho ⟨k, [], []⟩)) := rfl
theorem k_nW32 : kMakeW2 k F 3 2 pre post [a, b, c] (.ok [d, e] st) = keepR st (F (gS pre post (.o st.o.length :: [a, b, c]) [d, e]) (st.pusho ⟨k, [], []⟩)) := rfl
end
end Mz

set_option Elab.async false
set_option linter.all false
set_option maxRecDepth 100000
set_option maxHeartbeats 4000000
namespace Mz
open PySem PySem.Spec PyProof.Rows L2
end Mz

set_option Elab.async false
set_option linter.all false
set_option maxRecDepth 100000
set_option maxHeartbeats 4000000
namespace Mz
open PySem PySem.Spec PySem.Calls PyProof.Rows L2
section
variable {X : Cx} {cl : Nat → Addr} {Wx : WX} {tg : Expr}
end
end Mz

set_option Elab.async false
set_option linter.all false
set_option maxRecDepth 100000
set_option maxHeartbeats 4000000
namespace Mz
open PySem PySem.Spec PySem.Calls PySem.W PyProof.Rows L2 Builtin Builtin.Str Builtin.Int Builtin.Float
def spW (W : Nat) (al : Nat) : FormatSpec := { align := al, width := some W }
structure SpOk (sp : PySem.Str) (W : Nat) : Prop where
  ps : parseFormatSpec sp.cps.toList "str" 60 = .ok (spW W 62)
  pi : parseFormatSpec sp.cps.toList "int" 62 = .ok (spW W 62)
  ne : (sp.length == 0) = false
  asc : ((sp.cps.toList.drop 1).any (· ≥ 128) || (sp.cps.getD 0 0 ≥ 128 && !([60, 62, 61, 94] : List Nat).contains (sp.cps.getD 1 0))) = false
  bk : (sp.cps.back? == some 0) = false
  sz : sp.length ≤ sizeLine
  w : W ≤ 1000
section
variable {sp x : PySem.Str} {W : Nat} {t u : Tok} {a : Int}
end
section
variable {X : Cx} {sp : PySem.Str} {W : Nat}
end
section
variable {X : Cx} {cl : Nat → Addr} {Wx : WX} {sp : PySem.Str} {W : Nat}
end
section
variable {X : Cx} {cl : Nat → Addr} {Wx : WX} {o e : Expr} {es : List Expr} {mo : ME} {ma : MA} {apos cpos : Pos}
end
section
variable {o : ME} {a : MA} {env : Mz.Env} {st : Store} {W : Nat} {z y : PySem.Str} {n i : Int}
end
end Mz

set_option Elab.async false
set_option linter.all false
set_option maxRecDepth 100000
set_option maxHeartbeats 4000000
namespace Mz
open PySem PySem.Spec PySem.Calls PySem.W PyProof.Rows L2 GenW
abbrev MG := Env → Store → List W → SR × List W
def PostG (T : Tx) (ρ : Mp) (G : Hp) (r : SR × List W) (D : GEnds) (Wx : WX) : Prop := match r.1 with
  | .nx env st' => ∀ ρ' G' H' σ' ys, Fr ρ ρ' G G' → Rel T ρ' G' H' st' → EnvR T ρ' G' env σ' → Reps T G' r.2 ys → D.nx ys σ' H'
  | .rt s st' => ∀ ρ' G' H' u ys, Fr ρ ρ' G G' → Rel T ρ' G' H' st' → Mz.SlR T ρ' G' s u → Reps T G' r.2 ys → D.rt ys u H'
  | .bk env st' => ∀ ρ' G' H' σ' ys, Fr ρ ρ' G G' → Rel T ρ' G' H' st' → EnvR T ρ' G' env σ' → Reps T G' r.2 ys → D.bk ys σ' H'
  | .ct env st' => ∀ ρ' G' H' σ' ys, Fr ρ ρ' G G' → Rel T ρ' G' H' st' → EnvR T ρ' G' env σ' → Reps T G' r.2 ys → D.ct ys σ' H'
  | .ex c ns ws env st' => ∀ ρ' G' H' σ' d, Fr ρ ρ' G G' → Rel T ρ' G' H' st' → EnvR T ρ' G' env σ' → ExR T G' ns ws d → Wx (.ref (T.cl c)) d σ' H'
  | .bad => False
theorem PostG.mono {T : Tx} {ρ ρ' : Mp} {G G' : Hp} {r : SR × List W} {D : GEnds} {Wx : WX} (f : Fr ρ ρ' G G') (h : PostG T ρ G r D Wx) : PostG T ρ' G' r D Wx := by
  obtain ⟨r, ws⟩ := r
  cases r with
  | nx env st => exact fun ρ1 G1 H1 u ys f1 => h ρ1 G1 H1 u ys (f.trans f1)
  | rt s st => exact fun ρ1 G1 H1 u ys f1 => h ρ1 G1 H1 u ys (f.trans f1)
  | bk env st => exact fun ρ1 G1 H1 u ys f1 => h ρ1 G1 H1 u ys (f.trans f1)
  | ct env st => exact fun ρ1 G1 H1 u ys f1 => h ρ1 G1 H1 u ys (f.trans f1)
  | ex c ns ws env st => exact fun ρ1 G1 H1 σ' d f1 => h ρ1 G1 H1 σ' d (f.trans f1)
  | bad => exact h
section
variable {X : Cx} {cl : Nat → Addr} {Wx : WX} {st : Stmt} {rest : List Stmt} {c : Expr} {mt : MT} {pos : Pos}
def gNil : MG := fun env st ws => (.nx env st, ws)
end
section
variable {P : Program} {w : World} {K : PySem.W.Frag} {mg : Str → Option Value} {base : Heap} {cl : Nat → Addr}
end
section
variable {X : Cx} {cl : Nat → Addr} {Wx : WX}
end
end Mz

set_option Elab.async false
set_option linter.all false
set_option maxRecDepth 100000
set_option maxHeartbeats 4000000
namespace Mz
open PySem PySem.Spec PySem.Calls PyProof.Rows L2
section
variable {X : Cx} {cl : Nat → Addr} {Wx : WX} {pos : Pos}
end
theorem k_ixz0 {a b : W} {n : Nat} {st : Store} : kIx none (.z [a, b] n) 0 st = .ok (.v a) st := rfl
theorem k_ixz1 {a b : W} {n : Nat} {st : Store} : kIx none (.z [a, b] n) 1 st = .ok (.v b) st := rfl
theorem k_ixz2 {a b : W} {n : Nat} {st : Store} : kIx none (.z [a, b] n) 2 st = .ok (.l n) st := rfl
theorem k_lenz {a b : W} {n : Nat} {st : Store} : kLen none (.z [a, b] n) st = .ok (.v (.int 3)) st := rfl
theorem i_z {ws : List W} {n : Nat} {st : Store} : items st (.z ws n) = none := rfl
theorem ty_z {ws : List W} {n : Nat} {st : Store} : tyName st (.z ws n) = some "list" := rfl
theorem o_notNl {st : Store} {n : Nat} : opIsN true (.l n) (.v .non) st = .ok (.v (.bl true)) st := rfl
end Mz

set_option Elab.async false
set_option linter.all false
set_option maxRecDepth 100000
set_option maxHeartbeats 4000000
namespace Mz
open PySem PySem.Spec PySem.Calls PyProof.Rows L2
section
variable {prog : Program} {w : World} {A : Around} {E : Value → Shared → Prop} {d : Addr}
end
section
variable {P : Program} {w : World} {K : PySem.W.Frag} {mg : Str → Option Value} {base : Heap} {A : Around} {outer : List PySem.Env} {s : Shared} {H : Hp}
end

def kk (ks : List Str) : List Key := ks.map Sum.inr
section
variable {P : Program} {w : World} {K : PySem.W.Frag} {mg : Str → Option Value} {base : Heap} {cl : Nat → Addr}
end
section
variable {X : Cx} {cl : Nat → Addr} {Wx : WX} {pos p : Pos} {x : Str} {e1 : Expr} {es : List Expr} {kws : List Keyword} {ra rk : MA}
end

section
variable {T : Tx} {ρ : Mp} {G H H' : Hp} {st : Store}
end
section
variable {X : Cx} {cl : Nat → Addr} {Wx : WX} {e : Expr} {me : ME} {p apos cpos pos : Pos}
end
end Mz

set_option Elab.async false
set_option linter.all false
set_option maxRecDepth 100000
set_option maxHeartbeats 4000000
namespace Mz
open PySem PySem.Spec PySem.Calls PyProof.Rows L2
def nGet (x y : Sl) (dv : W) (st : Store) : Res Sl := match ndOf st x, nkS y with
  | some (ks, ws), some k => .ok (.v ((nLook ks ws k).getD dv)) st
  | _, _ => .bad
def mGetN1 (o i : ME) : ME := fun env st => (o env st).bind fun x st1 => if (ndOf st1 x).isSome = true then (i env st1).bind fun y st2 => nGet x y .non st2 else .bad
def mGetN2 (o i e : ME) : ME := fun env st => (o env st).bind fun x st1 => if (ndOf st1 x).isSome = true then (i env st1).bind fun y st2 => (e env st2).bind fun z st3 => match z with
  | .v w => nGet x y w st3
  | _ => .bad else .bad
section
variable {X : Cx} {cl : Nat → Addr} {Wx : WX} {pins : List (Addr × Obj)} {σ : L2.St} {ρ : Mp} {G H : Hp} {s : Shared} {st : Store} {o e f : Expr} {mo me mf : ME} {apos cpos : Pos}
theorem nd_type (I : Inv X pins σ H s) (r : Rel ⟨X.K, cl⟩ ρ G H st) {x : Sl} {v : V} {u : Value} (hx : Mz.SlR ⟨X.K, cl⟩ ρ G x v) (rv : RelV v u) (h : (ndOf st x).isSome = true) : ∃ a, v = .ref a ∧ u = .ref a ∧ s.TypeIs (.ref a) "dict" ∧ (∀ b, Value.ref a = .ref b → ∃ ob, s.heap.get? b = some ob ∧ ob.dict = none) := by
  obtain ⟨⟨ks, ws⟩, e⟩ := Option.isSome_iff_exists.mp h
  obtain ⟨n, rfl, hn⟩ := ndOf_at e
  obtain ⟨a, xs, vs, rfl, _, _, _, hc, hk, _, hv, hrw, hd⟩ := nd_dict I r hn hx
  obtain rfl : u = Value.ref a := rv
  exact ⟨a, rfl, rfl, hd.typeIs, dictOfH_noDict hd⟩
theorem ie_getN1 (hu : X.A.units + 9 < cLine) (ho : IE X cl Wx o mo) (he : IE X cl Wx e me) (m : M1 X o "get" apos e cpos) : IE X cl Wx (.Call (.Attribute o "get" apos) [e] [] cpos) (mGetN1 mo me) := by
  refine ⟨fun pins s σ H Q I h => ?_⟩
  obtain ⟨env, ρ, G, st, rel, er, q⟩ := h
  have h1 : tM ⟨X.K, cl⟩ Wx mo σ H (fun u H1 => ∃ ρ1 G1 st1 x, Rel ⟨X.K, cl⟩ ρ1 G1 H1 st1 ∧ EnvR ⟨X.K, cl⟩ ρ1 G1 env σ ∧ Mz.SlR ⟨X.K, cl⟩ ρ1 G1 x u ∧ (ndOf st1 x).isSome = true ∧ PostR ⟨X.K, cl⟩ ρ1 G1 (Mz.SlR ⟨X.K, cl⟩) ((me env st1).bind fun y st2 => nGet x y .non st2) Q (fun c d H' => Wx c d σ H')) :=
    ⟨env, ρ, G, st, rel, er, PostR.bind (R1 := Mz.SlR ⟨X.K, cl⟩) q fun x st1 ρ1 G1 H1 u f1 r1 s1 p1 => by
      split at p1
      · rename_i hi
        exact ⟨ρ1, G1, st1, x, r1, er.mono f1, s1, hi, p1⟩
      · exact p1.elim⟩
  refine wpAny_Call_method m.base m.few m.line PySem.F.plainAttrs_dict PySem.F.slot_dict_get PySem.F.type_dict_get (thn (ho.run pins s σ H _ I h1) ?_)
  rintro u s1 ⟨v, H1, I1, rx, ρ1, G1, st1, x, r1, er1, sx, hi, p1⟩
  obtain ⟨a, rfl, rfl, t1, t2⟩ := nd_type I1 r1 sx rx hi
  refine ⟨t1, t2, ?_⟩
  rw [m.trees]
  have h2 : tM ⟨X.K, cl⟩ Wx me σ H1 (fun w H2 => ∃ ρ2 G2 st2 y, Rel ⟨X.K, cl⟩ ρ2 G2 H2 st2 ∧ Mz.SlR ⟨X.K, cl⟩ ρ2 G2 x (.ref a) ∧ Mz.SlR ⟨X.K, cl⟩ ρ2 G2 y w ∧ PostR ⟨X.K, cl⟩ ρ2 G2 (Mz.SlR ⟨X.K, cl⟩) (nGet x y .non st2) Q (fun c d H' => Wx c d σ H')) :=
    ⟨env, ρ1, G1, st1, r1, er1, PostR.bind (R1 := Mz.SlR ⟨X.K, cl⟩) p1 fun y st2 ρ2 G2 H2 w f2 r2 s2 p2 => ⟨ρ2, G2, st2, y, r2, sx.mono f2, s2, p2⟩⟩
  refine Calls.callWith_builtin rfl (Calls.evalArgs_plain (Calls.spliced_cons (thn (he.run pins s1 σ H1 _ I1 h2) fun iv s2 hh => Calls.spliced_nil ?_)))
  obtain ⟨w, H2, I2, ry, ρ2, G2, st2, y, r2, sx2, sy, p2⟩ := hh
  unfold nGet at p2
  split at p2
  · rename_i ks ws k e1 e2
    obtain ⟨n, rfl, hn⟩ := ndOf_at e1
    obtain ⟨a', xs, vs, ea, _, _, _, hc, hk, _, hv, hrw, hd⟩ := nd_dict I2 r2 hn sx2
    cases ea
    obtain ⟨b, w', rfl, rfl, rfl, _, _, hkey⟩ := nkey I2 r2 sy ry e2
    obtain ⟨l1, l2⟩ := nlook_at (k := k) hk hv hrw
    refine call_meetsIn PySem.F.slot_dict_get hd.typeIs PySem.F.entry_dict_get (PySem.F.args_dict_get_2 _ _) (meetsH_dict_get (nestedKind X.prog X.w) a b hc.sys) ⟨by show X.A.in1.units + 8 < cLine; rw [Around.in1_units]; omega, k, xs, hkey, hd, ?_⟩
    cases hl : nLook ks ws k with
    | none =>
      rw [l1 hl]
      rw [hl] at p2
      exact ⟨.non, H2, I2.tok _, rfl, p2 ρ2 G2 H2 _ (Fr.refl _ _) r2 (by unfold Mz.SlR Rep; rfl)⟩
    | some w0 =>
      obtain ⟨a2, u2, v2, h3, h4, h5⟩ := l2 w0 hl
      rw [h3]
      rw [hl] at p2
      exact ⟨v2, H2, I2.tok _, h4, p2 ρ2 G2 H2 _ (Fr.refl _ _) r2 h5⟩
  · exact p2.elim
theorem ie_getN2 (hu : X.A.units + 9 < cLine) (ho : IE X cl Wx o mo) (he : IE X cl Wx e me) (hf : IE X cl Wx f mf) (m : M2 X o "get" apos e f cpos) : IE X cl Wx (.Call (.Attribute o "get" apos) [e, f] [] cpos) (mGetN2 mo me mf) := by
  refine ⟨fun pins s σ H Q I h => ?_⟩
  obtain ⟨env, ρ, G, st, rel, er, q⟩ := h
  have h1 : tM ⟨X.K, cl⟩ Wx mo σ H (fun u H1 => ∃ ρ1 G1 st1 x, Rel ⟨X.K, cl⟩ ρ1 G1 H1 st1 ∧ EnvR ⟨X.K, cl⟩ ρ1 G1 env σ ∧ Mz.SlR ⟨X.K, cl⟩ ρ1 G1 x u ∧ (ndOf st1 x).isSome = true ∧ PostR ⟨X.K, cl⟩ ρ1 G1 (Mz.SlR ⟨X.K, cl⟩) ((me env st1).bind fun y st2 => (mf env st2).bind fun z st3 => match z with
      | .v w => nGet x y w st3
      | _ => .bad) Q (fun c d H' => Wx c d σ H')) :=
    ⟨env, ρ, G, st, rel, er, PostR.bind (R1 := Mz.SlR ⟨X.K, cl⟩) q fun x st1 ρ1 G1 H1 u f1 r1 s1 p1 => by
      split at p1
      · rename_i hi
        exact ⟨ρ1, G1, st1, x, r1, er.mono f1, s1, hi, p1⟩
      · exact p1.elim⟩
  refine wpAny_Call_method m.base m.few m.line PySem.F.plainAttrs_dict PySem.F.slot_dict_get PySem.F.type_dict_get (thn (ho.run pins s σ H _ I h1) ?_)
  rintro u s1 ⟨v, H1, I1, rx, ρ1, G1, st1, x, r1, er1, sx, hi, p1⟩
  obtain ⟨a, rfl, rfl, t1, t2⟩ := nd_type I1 r1 sx rx hi
  refine ⟨t1, t2, ?_⟩
  rw [m.trees]
  have h2 : tM ⟨X.K, cl⟩ Wx me σ H1 (fun w H2 => ∃ ρ2 G2 st2 y, Rel ⟨X.K, cl⟩ ρ2 G2 H2 st2 ∧ EnvR ⟨X.K, cl⟩ ρ2 G2 env σ ∧ Mz.SlR ⟨X.K, cl⟩ ρ2 G2 x (.ref a) ∧ Mz.SlR ⟨X.K, cl⟩ ρ2 G2 y w ∧ PostR ⟨X.K, cl⟩ ρ2 G2 (Mz.SlR ⟨X.K, cl⟩) ((mf env st2).bind fun z st3 => match z with
      | .v w => nGet x y w st3
      | _ => .bad) Q (fun c d H' => Wx c d σ H')) :=
    ⟨env, ρ1, G1, st1, r1, er1, PostR.bind (R1 := Mz.SlR ⟨X.K, cl⟩) p1 fun y st2 ρ2 G2 H2 w f2 r2 s2 p2 => ⟨ρ2, G2, st2, y, r2, er1.mono f2, sx.mono f2, s2, p2⟩⟩
  refine Calls.callWith_builtin rfl (Calls.evalArgs_plain (Calls.spliced_cons (thn (he.run pins s1 σ H1 _ I1 h2) ?_)))
  rintro iv s2 ⟨w, H2, I2, ry, ρ2, G2, st2, y, r2, er2, sx2, sy, p2⟩
  have h3 : tM ⟨X.K, cl⟩ Wx mf σ H2 (fun w3 H3 => ∃ ρ3 G3 st3 dv, Rel ⟨X.K, cl⟩ ρ3 G3 H3 st3 ∧ Mz.SlR ⟨X.K, cl⟩ ρ3 G3 x (.ref a) ∧ Mz.SlR ⟨X.K, cl⟩ ρ3 G3 y w ∧ Mz.SlR ⟨X.K, cl⟩ ρ3 G3 (.v dv) w3 ∧ PostR ⟨X.K, cl⟩ ρ3 G3 (Mz.SlR ⟨X.K, cl⟩) (nGet x y dv st3) Q (fun c d H' => Wx c d σ H')) :=
    ⟨env, ρ2, G2, st2, r2, er2, PostR.bind (R1 := Mz.SlR ⟨X.K, cl⟩) p2 fun z st3 ρ3 G3 H3 w3 f3 r3 s3 p3 => by
      split at p3
      · rename_i dv
        exact ⟨ρ3, G3, st3, dv, r3, sx2.mono f3, sy.mono f3, s3, p3⟩
      · exact p3.elim⟩
  refine Calls.spliced_cons (thn (hf.run pins s2 σ H2 _ I2 h3) fun fv s3 hh => Calls.spliced_nil ?_)
  obtain ⟨w3, H3, I3, rz, ρ3, G3, st3, dv, r3, sx3, sy3, sz3, p3⟩ := hh
  unfold nGet at p3
  split at p3
  · rename_i ks ws k e1 e2
    obtain ⟨n, rfl, hn⟩ := ndOf_at e1
    obtain ⟨a', xs, vs, ea, _, _, _, hc, hk, _, hv, hrw, hd⟩ := nd_dict I3 r3 hn sx3
    cases ea
    obtain ⟨b, w', rfl, rfl, rfl, _, _, hkey⟩ := nkey I3 r3 sy3 ry e2
    obtain ⟨l1, l2⟩ := nlook_at (k := k) hk hv hrw
    refine call_meetsIn PySem.F.slot_dict_get hd.typeIs PySem.F.entry_dict_get (PySem.F.args_dict_get_3 _ _ _) (meetsH_dict_get_default (nestedKind X.prog X.w) a b hc.sys fv) ⟨by show X.A.in1.units + 8 < cLine; rw [Around.in1_units]; omega, k, xs, hkey, hd, ?_⟩
    cases hl : nLook ks ws k with
    | none =>
      rw [l1 hl]
      rw [hl] at p3
      exact ⟨w3, H3, I3.tok _, rz, p3 ρ3 G3 H3 _ (Fr.refl _ _) r3 sz3⟩
    | some w0 =>
      obtain ⟨a2, u2, v2, h3, h4, h5⟩ := l2 w0 hl
      rw [h3]
      rw [hl] at p3
      exact ⟨v2, H3, I3.tok _, h4, p3 ρ3 G3 H3 _ (Fr.refl _ _) r3 h5⟩
  · exact p3.elim
end
def kGetN2 (x y : Sl) (r : Res Sl) : Res Sl := r.bind fun z st3 => match z with
  | .v w => nGet x y w st3
  | _ => .bad
theorem e_getN1 {o i : ME} {env : Env} {st : Store} : mGetN1 o i env st = (o env st).bind fun x st1 => if (ndOf st1 x).isSome = true then (i env st1).bind fun y st2 => nGet x y .non st2 else .bad := rfl
theorem e_getN2 {o i e : ME} {env : Env} {st : Store} : mGetN2 o i e env st = (o env st).bind fun x st1 => if (ndOf st1 x).isSome = true then (i env st1).bind fun y st2 => kGetN2 x y (e env st2) else .bad := rfl
theorem k_getN2 {x y : Sl} {w : W} {st : Store} : kGetN2 x y (.ok (.v w) st) = nGet x y w st := rfl
end Mz

set_option Elab.async false
set_option linter.all false
set_option maxRecDepth 100000
set_option maxHeartbeats 4000000
namespace Mz
open PySem PySem.Spec PySem.Calls PyProof.Rows L2
open Classical in
noncomputable def lcO {β : Type} (gd : Store → Prop) (pt : Pat) (mt : MT) (mi1 : MI) (pt1 : Pat) (mt1 : MT) (me : ME) (vs1 : List Nat) (env : Env) (n : Nat) (fin : Store → Res β) : List W → Store → Res β
  | [], st => if gd st then fin st else .bad
  | x :: xs, st => if gd st then (match bindP pt x env with
    | some env1 => (mt env1 st).then fun c st1 => if c = true then (mi1 env1 st1).then fun s st2 => lcL s.gd pt1 mt1 me (wipeE env1 vs1) n (fun st3 => lcO gd pt mt mi1 pt1 mt1 me vs1 env n fin xs st3) s.xs st2
      else lcO gd pt mt mi1 pt1 mt1 me vs1 env n fin xs st1
    | none => .bad) else .bad
noncomputable def mLc2 (mi : MI) (pt : Pat) (mt : MT) (mi1 : MI) (pt1 : Pat) (mt1 : MT) (me : ME) (vs vs1 : List Nat) : ME := fun env st => (mi env st).bind fun s st1 =>
  lcO s.gd pt mt mi1 pt1 mt1 me vs1 (wipeE env vs) st1.l.length (freezeF st1.l.length st1.o) s.xs (st1.push (.lst []))
section
variable {T : Tx} {ρ ρ' : Mp} {G G' H : Hp} {st : Store}
theorem lcO_gd {β γ : Type} {R : Mp → Hp → β → γ → Prop} {gd : Store → Prop} {pt pt1 : Pat} {mt mt1 : MT} {mi1 : MI} {me : ME} {vs1 : List Nat} {env : Env} {n : Nat} {fin : Store → Res β} {xs : List W} {Q : γ → Hp → Prop} {E : XK} (h : PostR T ρ G R (lcO gd pt mt mi1 pt1 mt1 me vs1 env n fin xs st) Q E) : gd st := by
  by_cases g : gd st
  · exact g
  · cases xs with
    | nil => unfold lcO at h; rw [if_neg g] at h; exact h.elim
    | cons x xs => unfold lcO at h; rw [if_neg g] at h; exact h.elim
end
section
variable {X : Cx} {cl : Nat → Addr} {Wx : WX} {tg iter tg1 iter1 elt : Expr} {ifs ifs1 : List Expr} {mi mi1 : MI} {me : ME} {mt mt1 : MT} {g g1 : TG} {pt pt1 : Pat} {pos : Pos} {scope : Scope} {own : List (Str × Nat)} {vs vs1 : List Nat}
theorem tM_lc2 {fin : Nat → List In → Store → Res Sl} (hgs : GoS ⟨X.K, cl⟩ g pt) (hgs1 : GoS ⟨X.K, cl⟩ g1 pt1) (hv : ∀ i ∈ pt.slots, i ∈ vs) (hv1 : ∀ i ∈ pt1.slots, i ∈ vs1)
    (hfin : ∀ (ρ : Mp) G H st D n o Q E ρ0 G0 H0 l0, Rel ⟨X.K, cl⟩ ρ G H st → ρ.l[n]? = some D → Fr ρ0 ρ G0 G → Rel ⟨X.K, cl⟩ ρ0 G0 H0 ⟨l0, o⟩ → l0.length = n → PostR ⟨X.K, cl⟩ ρ0 G0 (Mz.SlR ⟨X.K, cl⟩) (fin n o st) Q E → Q (.ref D) H) :
    ∀ σ H Q, tM ⟨X.K, cl⟩ Wx (fun env st => (mi env st).bind fun s st1 => lcO s.gd pt mt mi1 pt1 mt1 me vs1 (wipeE env vs) st1.l.length (fin st1.l.length st1.o) s.xs (st1.push (.lst []))) σ H Q →
      tLc2 (tI ⟨X.K, cl⟩ Wx mi) g (tB ⟨X.K, cl⟩ WF mt) (tI ⟨X.K, cl⟩ WF mi1) g1 (tB ⟨X.K, cl⟩ WF mt1) (tM ⟨X.K, cl⟩ WF me) vs vs1 σ H Q := fun σ H Q ⟨env, ρ, G, st, rel, er, p⟩ => by
  refine ⟨env, ρ, G, st, rel, er, PostR.bind (R1 := ItS ⟨X.K, cl⟩) p fun s st1 ρ1 G1 H1 J f1 r1 its p1 => fun D hD => ?_⟩
  obtain ⟨f2, r2⟩ := r1.newL (o := .lst []) (x := .lst []) hD ⟨[], rfl, Reps.nil⟩
  have hD2 : ((ρ1.l ++ [D])[st1.l.length]? : Option Addr) = some D := by rw [← r1.ll]; simp
  refine ⟨fun i m H' => ∃ ρ' G' st', m = s.xs.length - i ∧ i ≤ s.xs.length ∧ Fr ⟨ρ1.l ++ [D], ρ1.o⟩ ρ' G1 G' ∧ Rel ⟨X.K, cl⟩ ρ' G' H' st' ∧ PostR ⟨X.K, cl⟩ ρ1 G1 (Mz.SlR ⟨X.K, cl⟩) (lcO s.gd pt mt mi1 pt1 mt1 me vs1 (wipeE env vs) st1.l.length (fin st1.l.length st1.o) (s.xs.drop i) st') Q fun c d H' => Wx c d σ H',
    ⟨s.xs.length, _, G1, _, by simp, Nat.zero_le _, Fr.refl _ _, r2, p1⟩, ?_⟩
  rintro i m H' ⟨ρ', G', st', rfl, hi, f, r, q⟩
  have g' := lcO_gd q
  have ff := f2.trans f
  by_cases hlt : i < s.xs.length
  · obtain ⟨h1, h2⟩ := its.go i s.xs[i] H' st' ρ' G' ff r g' (List.getElem?_eq_getElem hlt)
    refine .inr ⟨h1, fun H2 => ∃ ρ' G' st', Fr ⟨ρ1.l ++ [D], ρ1.o⟩ ρ' G1 G' ∧ Rel ⟨X.K, cl⟩ ρ' G' H2 st' ∧ PostR ⟨X.K, cl⟩ ρ1 G1 (Mz.SlR ⟨X.K, cl⟩) (lcO s.gd pt mt mi1 pt1 mt1 me vs1 (wipeE env vs) st1.l.length (fin st1.l.length st1.o) (s.xs.drop (i + 1)) st') Q fun c d H' => Wx c d σ H',
      fun H2 ⟨ρ2, G2, st2, f2, r2, q2⟩ => ⟨s.xs.length - (i + 1), by omega, ρ2, G2, st2, rfl, hlt, f2, r2, q2⟩, fun x H2 hy => ?_⟩
    obtain ⟨G2, fy, ry, hx⟩ := h2 x H2 hy
    rw [drop_at hlt] at q
    unfold lcO at q
    rw [if_pos g'] at q
    split at q
    · rename_i env1 e1
      have er2 := ((er.mono f1).mono (ff.trans fy)).wipe vs
      refine hgs ρ' G2 H2 st' s.xs[i] x (wipeE env vs) env1 (L2.wipe σ vs) _ ry hx er2 e1 fun σ1 er1 only => ⟨?_, ?_⟩
      · rw [Only.wipe only hv]
        exact wipe_eq (wipe_length σ vs) fun j hj => by rw [wipe_at, if_neg (fun z => hj z.1)]
      · refine ⟨env1, ρ', G2, st', ry, er1, PostR.then (R1 := fun _ _ a b => a = b) q fun c st3 ρ3 G3 H3 b f3 r3 hb q3 => ?_⟩
        subst hb
        cases c with
        | false => exact ⟨ρ3, G3, st3, f.trans (fy.trans f3), r3, q3⟩
        | true =>
          show tI _ _ _ _ _ _
          refine ⟨env1, ρ3, G3, st3, r3, er1.mono f3, PostR.then (R1 := ItS ⟨X.K, cl⟩) q3 fun s5 st5 ρ5 G5 H5 J5 f5 r5 its5 q5 => ?_⟩
          have f05 := f.trans (fy.trans (f3.trans f5))
          refine ⟨fun j k H' => ∃ ρ' G' st', k = s5.xs.length - j ∧ j ≤ s5.xs.length ∧ Fr ρ5 ρ' G5 G' ∧ Rel ⟨X.K, cl⟩ ρ' G' H' st' ∧ PostR ⟨X.K, cl⟩ ρ1 G1 (Mz.SlR ⟨X.K, cl⟩) (lcL s5.gd pt1 mt1 me (wipeE env1 vs1) st1.l.length (fun st3 => lcO s.gd pt mt mi1 pt1 mt1 me vs1 (wipeE env vs) st1.l.length (fin st1.l.length st1.o) (s.xs.drop (i + 1)) st3) (s5.xs.drop j) st') Q fun c d H' => Wx c d σ H',
            ⟨s5.xs.length, ρ5, G5, st5, by simp, Nat.zero_le _, Fr.refl _ _, r5, q5⟩, ?_⟩
          rintro j k H6 ⟨ρ6, G6, st6, rfl, hj, f6, r6, q6⟩
          have g6 := lc_gd q6
          by_cases hlt6 : j < s5.xs.length
          · obtain ⟨h6, h7⟩ := its5.go j s5.xs[j] H6 st6 ρ6 G6 f6 r6 g6 (List.getElem?_eq_getElem hlt6)
            refine .inr ⟨h6, fun H2 => ∃ ρ' G' st', Fr ρ5 ρ' G5 G' ∧ Rel ⟨X.K, cl⟩ ρ' G' H2 st' ∧ PostR ⟨X.K, cl⟩ ρ1 G1 (Mz.SlR ⟨X.K, cl⟩) (lcL s5.gd pt1 mt1 me (wipeE env1 vs1) st1.l.length (fun st3 => lcO s.gd pt mt mi1 pt1 mt1 me vs1 (wipeE env vs) st1.l.length (fin st1.l.length st1.o) (s.xs.drop (i + 1)) st3) (s5.xs.drop (j + 1)) st') Q fun c d H' => Wx c d σ H',
              fun H2 ⟨ρ2, G2, st2, f2, r2, q2⟩ => ⟨s5.xs.length - (j + 1), by omega, ρ2, G2, st2, rfl, hlt6, f2, r2, q2⟩, fun x7 H7 hy7 => ?_⟩
            obtain ⟨G7, f7, r7, hx7⟩ := h7 x7 H7 hy7
            rw [drop_at hlt6] at q6
            unfold lcL at q6
            rw [if_pos g6] at q6
            split at q6
            · rename_i env8 e8
              have er8 := (((er1.mono f3).mono (f5.trans (f6.trans f7))).wipe vs1)
              refine hgs1 ρ6 G7 H7 st6 s5.xs[j] x7 (wipeE env1 vs1) env8 (L2.wipe σ1 vs1) _ r7 hx7 er8 e8 fun σ8 er9 only8 => ⟨?_, ?_⟩
              · rw [Only.wipe only8 hv1]
                exact wipe_eq (wipe_length σ1 vs1) fun j hj => by rw [wipe_at, if_neg (fun z => hj z.1)]
              · refine ⟨env8, ρ6, G7, st6, r7, er9, PostR.then (R1 := fun _ _ a b => a = b) q6 fun c st9 ρ9 G9 H9 b f9 r9 hb q9 => ?_⟩
                subst hb
                cases c with
                | false => exact ⟨ρ9, G9, st9, f6.trans (f7.trans f9), r9, q9⟩
                | true =>
                  show tM _ _ _ _ _ _
                  refine ⟨env8, ρ9, G9, st9, r9, er9.mono f9, PostR.then (R1 := Mz.SlR ⟨X.K, cl⟩) q9 fun y st4 ρ4 G4 H4 u f4 r4 hu q4 => ?_⟩
                  split at q4
                  · rename_i w acc hacc
                    split at q4
                    · rename_i hz
                      have hD4 : ρ4.l[st1.l.length]? = some D := (f05.trans (f6.trans (f7.trans (f9.trans f4)))).le.1 _ _ hD2
                      obtain ⟨_, o, ho, vs', rfl, hr⟩ := r4.la _ D _ hD4 (Store.lget_of hacc)
                      have hlo : LoR ⟨X.K, cl⟩ G4 (.lst (acc ++ [w])) (.lst (vs' ++ [u])) := ⟨_, rfl, hr.append (Reps.cons hu Reps.nil)⟩
                      refine ⟨vs', ho, by rw [big_line, ← hr.length]; exact hz, ρ4, G4, _, f6.trans (f7.trans (f9.trans f4)), r4.setl hD4 hlo (Store.lget_of hacc) (fun z => by cases z), q4⟩
                    · exact q4.elim
                  · exact q4.elim
            · exact q6.elim
          · have hj' : j = s5.xs.length := by omega
            subst hj'
            rw [List.drop_length] at q6
            unfold lcL at q6
            rw [if_pos g6] at q6
            exact .inl ⟨its5.stop _ H6 st6 ρ6 G6 f6 r6 g6 (Nat.le_refl _), ρ6, G6, st6, f05.trans f6, r6, q6⟩
    · exact q.elim
  · have hi' : i = s.xs.length := by omega
    subst hi'
    rw [List.drop_length] at q
    unfold lcO at q
    rw [if_pos g'] at q
    exact .inl ⟨its.stop _ H' st' ρ' G' ff r g' (Nat.le_refl _), hfin ρ' G' H' st' D _ _ Q _ ρ1 G1 H1 st1.l r (f.le.1 _ _ hD2) ff r1 rfl q⟩
theorem is_setLc2 {i : Nat} {y : Str} {py spos : Pos} (hc : X.calm = true) (hN : X.N.Nodup) (hy : X.N[i]? = some y) (hyl : X.env.scope.names.lookup y = some .local)
    (hsw : swapsWith (.ListComp elt [⟨tg, iter, ifs, 0⟩, ⟨tg1, iter1, ifs1, 0⟩] scope pos) (some (.Name y py)) spos.line X.env = pure true) (hi : II X cl Wx tg iter mi) (ok : BlkOk X.N X.env.scope scope own) (hvo : ∀ i ∈ vs1, i ∈ own.map (·.2))
    (hg : ∀ s H C cs fp, PG (blkCx X scope s H C cs fp) tg g) (hgs : GoS ⟨X.K, cl⟩ g pt) (ht : ∀ s H C cs fp, ITs (blkCx X scope s H C cs fp) cl WF ifs mt)
    (hi1 : ∀ s H C cs fp, II (blkCx X scope s H C cs fp) cl WF tg1 iter1 mi1)
    (hg1 : ∀ s H C cs fp, PG (blkCx X scope s H C cs fp) tg1 g1) (hgs1 : GoS ⟨X.K, cl⟩ g1 pt1) (ht1 : ∀ s H C cs fp, ITs (blkCx X scope s H C cs fp) cl WF ifs1 mt1)
    (he : ∀ s H C cs fp, IE (blkCx X scope s H C cs fp) cl WF elt me)
    (hv : ∀ i ∈ pt.slots, i ∈ own.map (·.2)) (hv1 : ∀ i ∈ pt1.slots, i ∈ vs1) (hs : ∀ x, foldedSetIterable iter X.env x = pure x := by intro _; rfl) (hs1 : ∀ env x, foldedSetIterable iter1 env x = pure x := by intro _ _; rfl) :
    IS X cl Wx (.Assign [.Name y py] (.ListComp elt [⟨tg, iter, ifs, 0⟩, ⟨tg1, iter1, ifs1, 0⟩] scope pos) spos) (mAsg i (mLc2 mi pt mt mi1 pt1 mt1 me (own.map (·.2)) vs1)) :=
  ps_weak (ps_setLc2 hc hN hy hyl hsw hi ok hvo hg ht hi1 hg1 ht1 he hs hs1) (tS_asg (tM_lc2 hgs hgs1 hv hv1 fin_freeze))
end
noncomputable def kLc2 (pt : Pat) (mt : MT) (mi1 : MI) (pt1 : Pat) (mt1 : MT) (me : ME) (vs vs1 : List Nat) (env : Env) (r : Res Src) : Res Sl := r.bind fun s st1 => lcO s.gd pt mt mi1 pt1 mt1 me vs1 (wipeE env vs) st1.l.length (freezeF st1.l.length st1.o) s.xs (st1.push (.lst []))
theorem e_lc2 {mi mi1 : MI} {pt pt1 : Pat} {mt mt1 : MT} {me : ME} {vs vs1 : List Nat} {env : Env} {st : Store} : mLc2 mi pt mt mi1 pt1 mt1 me vs vs1 env st = kLc2 pt mt mi1 pt1 mt1 me vs vs1 env (mi env st) := rfl
theorem k_lc2 {mi1 : MI} {pt pt1 : Pat} {mt mt1 : MT} {me : ME} {vs vs1 : List Nat} {env : Env} {s : Src} {st : Store} : kLc2 pt mt mi1 pt1 mt1 me vs vs1 env (.ok s st) = lcO s.gd pt mt mi1 pt1 mt1 me vs1 (wipeE env vs) st.l.length (freezeF st.l.length st.o) s.xs (st.push (.lst [])) := rfl
end Mz

set_option Elab.async false
set_option linter.all false
set_option maxRecDepth 100000
set_option maxHeartbeats 4000000
namespace Mz
open PySem PySem.Spec PySem.Calls PyProof.Rows L2
open Classical in
noncomputable def dcL {β : Type} (gd : Store → Prop) (pt : Pat) (mt : MT) (mk mv : ME) (env : Env) (n : Nat) (fin : Store → Res β) : List W → Store → Res β
  | [], st => if gd st then fin st else .bad
  | x :: xs, st => if gd st then (match bindP pt x env with
    | some env1 => (mt env1 st).then fun c st1 => if c = true then (mk env1 st1).then fun k st2 => (mv env1 st2).then fun y st3 => match k, y, st3.l[n]? with
        | .v kw, .v w, some (.dn ks ws) => match nkS (.v kw) with
          | some q => if ks.length < 1000000 then dcL gd pt mt mk mv env n fin xs (st3.setl n (.dn (nPut ks ws kw q w).1 (nPut ks ws kw q w).2)) else .bad
          | none => .bad
        | _, _, _ => .bad
      else dcL gd pt mt mk mv env n fin xs st1
    | none => .bad) else .bad
open Classical in
noncomputable def mDcN (mi : MI) (pt : Pat) (mt : MT) (mk mv : ME) (vs : List Nat) : ME := fun env st => (mi env st).bind fun s st1 =>
  dcL s.gd pt mt mk mv (wipeE env vs) st1.l.length (fun st2 => .ok (.l st1.l.length) st2) s.xs (st1.push (.dn [] []))
section
variable {T : Tx} {ρ ρ' : Mp} {G G' H : Hp} {st : Store}
open Classical in
theorem dc_gd {β γ : Type} {R : Mp → Hp → β → γ → Prop} {gd : Store → Prop} {pt : Pat} {mt : MT} {mk mv : ME} {env : Env} {n : Nat} {fin : Store → Res β} {xs : List W} {Q : γ → Hp → Prop} {E : XK} (h : PostR T ρ G R (dcL gd pt mt mk mv env n fin xs st) Q E) : gd st := by
  by_cases g : gd st
  · exact g
  · cases xs with
    | nil => unfold dcL at h; rw [if_neg g] at h; exact h.elim
    | cons x xs => unfold dcL at h; rw [if_neg g] at h; exact h.elim
end
section
variable {X : Cx} {cl : Nat → Addr} {Wx : WX}
theorem n_dictSet {pins : List (Addr × Obj)} {σ : L2.St} {H : Hp} {s : Shared} {E : Value → Shared → Prop} {o i v : V} {D : Addr} {iv u : Value} {Qh : Hp → Prop} {Q : Unit → Shared → Prop} (hu : X.A.units + 9 < cLine) (I : Inv X pins σ H s) (ro : RelV o (.ref D)) (ri : RelV i iv) (rv : RelV v u)
    (h : tSetN X cl o i v H Qh) (hQ : ∀ s' H', Inv X pins σ H' s' → Qh H' → Q () s') : wpAny (model X.prog X.w) X.A (dictSet D iv u) Q E s := by
  obtain ⟨ρ, G, st, n, ks, ws, kw, w, q, r, ho, hi, hv, hx, hq, hl, p⟩ := h
  obtain ⟨a, xs, vs, rfl, ha, _, hH, hc, hk, hrk, hvs, hrw, hd⟩ := nd_dict I r hx ho
  obtain ⟨b, w', e, rfl, rfl, hkw, hkr, hkey⟩ := nkey I r hi ri hq
  obtain rfl := Sl.v.inj e
  obtain rfl : D = a := by
    have z : Value.ref D = Value.ref a := ro
    cases z; rfl
  have hz : xs.length < 1000000 := by have := nks_len hk; rw [List.length_map] at this; omega
  refine wpAny_dictSet_heap (knd := nestedKind X.prog X.w) (hsz := by rw [sizeLine_eq]; omega) (by show X.A.units + 8 < cLine; omega) hkey hd (fun h' hm' hs => ?_)
  obtain ⟨hR, r'⟩ := nd_put (kw := kw) (w := w) r hx ha hc hk hrk hvs hrw hkw hkey.2 hkr hv rv hz hm'
  have J := I.write (t' := s.toks + (nestedKind X.prog X.w).draws q) (x := D) (e := D) (o := NdO D (storedH xs q b u)) (by rw [hH]; exact True.intro) (.inl rfl) (fun c o' hb ho' => (hs.2 c hb).trans ho') (by obtain ⟨o', _, _, h1, _⟩ := hR X.prog X.w; exact ⟨o', h1⟩) (nd_ok hR)
  exact hQ _ _ J (p _ r')
def tDcN (X : Cx) (cl : Nat → Addr) (wi : TI) (g : TG) (tt : TT) (tk tv : TE) (vs : List Nat) : TE := fun σ H Q => wi σ H fun J H1 => ∀ D, H1 D = none → NdC D [] → ∃ W : Nat → Nat → Hp → Prop, (∃ m, W 0 m (upd H1 D (NdO D []))) ∧ ∀ i m H, W i m H →
  (J.stop i H ∧ Q (.ref D) H) ∨ (J.go i H ∧ ∃ Nx : Hp → Prop, (∀ H', Nx H' → ∃ m', m' < m ∧ W (i + 1) m' H') ∧ ∀ x H', J.yld i H x H' → g x (L2.wipe σ vs) H' fun σ2 H2 => L2.wipe σ2 vs = L2.wipe σ vs ∧ tt σ2 H2 fun b H3 =>
    if b = true then tk σ2 H3 fun y H4 => tv σ2 H4 fun z H5 => tSetN X cl (.ref D) y z H5 Nx else Nx H3)
theorem dcN_core {pins : List (Addr × Obj)} {s : Shared} {σ : L2.St} {H : Hp} {Q : VK} {kx vx tg iter : Expr} {ifs : List Expr} {scope : Scope} {own : List (Str × Nat)} {pos pos' : Pos} {wi : TI} {g : TG} {tt : TT} {tk tv : TE} {use : Option (Value → Sem Unit)} {Qf : Value → Shared → Prop}
    (hu : X.A.units + 9 < cLine) (hc : X.calm = true) (hN : X.N.Nodup) (I : Inv X pins σ H s) (hi : PI X tg iter wi) (ok : BlkOk X.N X.env.scope scope own)
    (hg : ∀ (s : Shared) (H : Hp) (C : Addr) (cl : List (Str × Addr)) (fp : List Addr), PG (X.blk s H scope (compEnvC scope cl C X.env) fp) tg g) (ht : ∀ (s : Shared) (H : Hp) (C : Addr) (cl : List (Str × Addr)) (fp : List Addr), PTs (X.blk s H scope (compEnvC scope cl C X.env) fp) ifs tt)
    (hk : ∀ (s : Shared) (H : Hp) (C : Addr) (cl : List (Str × Addr)) (fp : List Addr), PE (X.blk s H scope (compEnvC scope cl C X.env) fp) kx tk)
    (he : ∀ (s : Shared) (H : Hp) (C : Addr) (cl : List (Str × Addr)) (fp : List Addr), PE (X.blk s H scope (compEnvC scope cl C X.env) fp) vx tv) (hs : ∀ x, foldedSetIterable iter X.env x = pure x)
    (h : tDcN X cl wi g tt tk tv (own.map (·.2)) σ H Q)
    (hRR : ∀ D C s' m H', Inv X pins σ H' s' → Q (.ref D) H' → s'.heap.Ns C m → FpOk X pins H' C → compPost (model X.prog X.w) X.A X.xe use Qf (.ref D) C (.ok .next) s') :
    wpAny (model X.prog X.w) X.A (comprehension (.DictComp kx vx [⟨tg, iter, ifs, 0⟩] scope pos) scope X.env pos' newDict false (eval iter X.env) use) Qf X.xe s := by
  have hfree : ∀ y ∈ scope.names, y.2 = .free → ∃ c, X.env.cells.lookup y.1 = some c := fun y hy e => by
    rcases ok.free y hy e with k | k
    · exact I.ok.has _ (.inl k)
    · exact I.ok.has _ (.inr k)
  refine wpAny_comprehension_free (use := use) rfl hs (closure_ok hfree) ok.kind (fun y hy e => by rw [ok.uniq y hy, e])
    (thn (hi.run pins s σ H _ I h) fun xv s1 hx => thn hx fun itv s2 h2 => ?_)
  obtain ⟨it, fp, tn, J, H2, e, I2, T, st2, f2, q⟩ := h2
  subst e
  refine wpAny_newObj_type (newEnv_comp ?_)
  generalize hD : s2.heap.objs.size = D
  have hDn : H2 D = none := I2.hok.fresh (Nat.le_of_eq hD)
  have hsys : (D == sysModules) = false := by
    have z := L2.Inv.big I2
    have : D ≠ sysModules := by rw [← hD]; exact Nat.ne_of_gt z
    simpa using this
  -- the new dict
  generalize hs3 : ({ s2 with heap := s2.heap.push { cls := .type "dict", data := .dict #[] } } : Shared) = s3
  have hNd : NdR D [] s3.heap := by rw [← hs3, ← hD]; exact ndR_nil (Heap.get?_push_size s2.heap rfl)
  have hNC : NdC D [] := ⟨fun x hx => absurd hx (List.not_mem_nil), Nat.zero_le _, hsys, ndR_code X.prog X.w hNd⟩
  obtain ⟨W, ⟨m0, w0⟩, turn⟩ := q D hDn hNC
  have I3 : Inv X pins σ (upd H2 D (NdO D [])) s3 := by
    rw [← hs3]
    refine I2.laid (t' := s2.toks) (fun b o e => Heap.get?_push_of_some _ e) (Nat.le_of_eq hD) ?_
    rw [← hs3] at hNd
    exact nd_ok hNd
  have h3 : s3.heap = s2.heap.push { cls := .type "dict", data := .dict #[] } := by rw [← hs3]
  have sz : ∀ b ∈ fp, b < s2.heap.objs.size := fun b hb => by
    obtain ⟨o, e, _⟩ := T.obj _ _ st2 b hb
    exact Heap.lt_size e
  have f3 : ∀ b ∈ fp, FpOk X pins (upd H2 D (NdO D [])) b ∧ b < s3.heap.objs.size := fun b hb => by
    have hlt := sz b hb
    refine ⟨⟨?_, (f2 b hb).2⟩, by rw [h3, Heap.size_push]; exact Nat.lt_succ_of_lt hlt⟩
    rw [upd_ne (by rw [← hD]; exact Nat.ne_of_lt hlt)]
    exact (f2 b hb).1
  have st3 : tn 0 s3.heap := T.keep _ _ _ st2 fun b _ o e => by rw [h3]; exact Heap.get?_push_of_some _ e
  have I4 := block_start I3 ok hN f3
  have pg := hg s3 (upd H2 D (NdO D [])) s3.heap.objs.size (cellsFrom (s3.heap.objs.size + 1) scope.names (cloFrom X.env.cells scope.names [])) fp
  have pt := ht s3 (upd H2 D (NdO D [])) s3.heap.objs.size (cellsFrom (s3.heap.objs.size + 1) scope.names (cloFrom X.env.cells scope.names [])) fp
  have pk := hk s3 (upd H2 D (NdO D [])) s3.heap.objs.size (cellsFrom (s3.heap.objs.size + 1) scope.names (cloFrom X.env.cells scope.names [])) fp
  have pe := he s3 (upd H2 D (NdO D [])) s3.heap.objs.size (cellsFrom (s3.heap.objs.size + 1) scope.names (cloFrom X.env.cells scope.names [])) fp
  show codeAny _ _ (.compStart (.DictComp kx vx [⟨tg, iter, ifs, 0⟩] scope pos) 0 (.ref it) (.ref D) (compEnvC scope (cellsFrom (s3.heap.objs.size + 1) scope.names (cloFrom X.env.cells scope.names [])) s3.heap.objs.size X.env)) (compPost (model X.prog X.w) X.A X.xe use Qf (.ref D) s3.heap.objs.size) { s3 with heap := pushCells (s3.heap.push { cls := .type "dict", data := .dict #[] }) scope.names }
  have nfp : ∀ b ∈ fp, (upd H2 D (NdO D [])) b = none := fun b hb => (f3 b hb).1.1
  generalize hce : compEnvC scope (cellsFrom (s3.heap.objs.size + 1) scope.names (cloFrom X.env.cells scope.names [])) s3.heap.objs.size X.env = ce at I4 pg pt pk pe ⊢
  have cL : ce.locals = s3.heap.objs.size := by subst hce; rfl
  generalize hH3 : upd H2 D (NdO D []) = H3 at I3 I4 pg pt pk pe w0 nfp f3
  generalize hs4 : ({ s3 with heap := pushCells (s3.heap.push { cls := .type "dict", data := .dict #[] }) scope.names } : Shared) = s4 at I4 ⊢
  have st4 : tn 0 s4.heap := T.keep _ _ _ st3 fun b _ o e => by rw [← hs4]; exact pushCells_keeps _ _ _ _ (Heap.get?_push_of_some _ e)
  have stat : ∀ {σ' : L2.St} {H' : Hp} {s' : Shared}, Inv (X.blk s3 H3 scope ce fp) [] σ' H' s' → (∀ b ∈ fp, H' b = none) → ∀ b ∈ fp, FpOk (X.blk s3 H3 scope ce fp) [] H' b := fun {σ' H' s'} I' hn b hb =>
    ⟨hn b hb, (I'.ok.exf b hb).1, I'.ok.exfs b hb, .inl hb, fun x c e => (I'.ok.exf b hb).2 x c e, fun p hp => absurd (show p ∈ ([] : List (Addr × Obj)) ++ [] from hp) (by simp)⟩
  have loop : codeAny (model X.prog X.w) X.A (.compLoop (.DictComp kx vx [⟨tg, iter, ifs, 0⟩] scope pos) 0 (.ref it) (.ref D) ce) (compPost (model X.prog X.w) X.A X.xe use Qf (.ref D) s3.heap.objs.size) s4 := by
    refine compLoop_anyD (fun n s' => ∃ i H', Inv (X.blk s3 H3 scope ce fp) [] (L2.wipe σ (own.map (·.2))) H' s' ∧ tn i s'.heap ∧ (∀ b ∈ fp, H' b = none) ∧ W i n H') ?_ m0 ⟨0, H3, I4, st4, nfp, w0⟩
    rintro n s5 ⟨i, H5, I5, st5, n5, w5⟩
    rcases turn i n H5 w5 with ⟨stop, qq⟩ | ⟨go, Nx, hNx, step⟩
    · have td := T.done (X.blk s3 H3 scope ce fp) rfl rfl rfl hc i [] s5 _ H5 (fun _ _ => False) I5 (stat I5 n5) st5 stop
      refine thnF td fun r s6 ⟨hr, I6⟩ => ?_
      subst hr
      -- back in the def's context
      have I7 : Inv X pins σ H5 s6 := I3.call' (ch := fp) I6.os I6.base I6.hok I6.bare fun b hb => ⟨(f3 b hb).1.2.2.2.1, (f3 b hb).1.2.1, (f3 b hb).1.2.2.2.2.1, (f3 b hb).1.2.2.2.2.2⟩
      have nC : H5 s3.heap.objs.size = none := by
        have z : H5 ce.locals = none := I6.free
        rw [cL] at z
        exact z
      obtain ⟨m, hn, _⟩ := I6.loc
      have hn : s6.heap.Ns ce.locals m := hn
      rw [cL] at hn
      exact hRR D s3.heap.objs.size s6 m H5 I7 qq hn (I3.fpOk (Nat.le_refl _) nC)
    · have ti := T.item (X.blk s3 H3 scope ce fp) rfl rfl rfl hc i [] s5 _ H5 (fun _ _ => False) I5 (stat I5 n5) st5 go
      refine thnF ti fun r s6 ⟨u, hr, h6⟩ => ?_
      subst hr
      refine thnF h6 fun _ s7 ⟨x, H7, I7, r7, y7, st7, n7⟩ => ?_
      have I7' := I7.pinned (stat I7 n7) (T.obj _ _ st7)
      refine thnF (pg.run _ s7 _ H7 x u _ I7' r7 (step x H7 y7)) fun _ s8 ⟨σ8, H8, I8, hw8, q8⟩ => ?_
      refine thnF (pt.run _ s8 σ8 H8 _ I8 q8) fun b s9 ⟨H9, I9, q9⟩ => ?_
      -- the turn's end
      have fin : ∀ {s' : Shared} {H' : Hp}, Inv (X.blk s3 H3 scope ce fp) ([] ++ pinsAt fp s7.heap) σ8 H' s' → Nx H' → ∃ m, m < n ∧ ∃ i H', Inv (X.blk s3 H3 scope ce fp) [] (L2.wipe σ (own.map (·.2))) H' s' ∧ tn i s'.heap ∧ (∀ b ∈ fp, H' b = none) ∧ W i m H' := fun {s' H'} I' nx => by
        obtain ⟨m', hm, w'⟩ := hNx H' nx
        have pin' : ∀ b ∈ fp, ∀ o, s7.heap.get? b = some o → s'.heap.get? b = some o ∧ H' b = none := fun b hb o e =>
          let z := I'.pin (b, o) (List.mem_append_right _ (List.mem_append_right _ (mem_pinsAt hb e)))
          ⟨z.1, z.2.1⟩
        have hl : (L2.wipe σ (own.map (·.2))).length = σ8.length := by rw [← hw8, wipe_length]
        refine ⟨m', hm, i + 1, H', (I'.unpinned (pins := [])).weak hl (fun j v e => ?_), T.keep _ _ _ st7 fun b hb o e => (pin' b hb o e).1, fun b hb => ?_, w'⟩
        · rw [← hw8] at e
          exact (wipe_some e).1
        · obtain ⟨o, e, _⟩ := T.obj _ _ st7 b hb
          exact (pin' b hb o e).2
      cases b with
      | false =>
        simp only [Bool.false_eq_true, if_false] at q9 ⊢
        exact fin I9 q9
      | true =>
        simp only [if_true] at q9 ⊢
        refine thnF (pk.run _ s9 σ8 H9 _ I9 q9) fun z s10 ⟨yk, H10, I10, r10, q10⟩ => ?_
        refine thnF (pe.run _ s10 σ8 H10 _ I10 q10) fun z2 s11 ⟨yv, H11, I11, r11, q11⟩ => ?_
        exact n_dictSet (X := X.blk s3 H3 scope ce fp) (o := .ref D) hu I11 rfl r10 r11 q11 fun s12 H12 I12 nx => fin I12 nx
  exact codeAny_compStart_dict loop (T.self X.A 0 _ _ _ st4 loop)
end
section
variable {X : Cx} {cl : Nat → Addr} {Wx : WX} {tg iter kx vx : Expr} {ifs : List Expr} {mi : MI} {mk mv : ME} {mt : MT} {g : TG} {pt : Pat} {pos : Pos} {scope : Scope} {own : List (Str × Nat)} {vs : List Nat}
open Classical in
theorem tM_dcN (hgs : GoS ⟨X.K, cl⟩ g pt) (hv : ∀ i ∈ pt.slots, i ∈ vs) :
    ∀ σ H Q, tM ⟨X.K, cl⟩ Wx (mDcN mi pt mt mk mv vs) σ H Q →
      tDcN X cl (tI ⟨X.K, cl⟩ Wx mi) g (tB ⟨X.K, cl⟩ WF mt) (tM ⟨X.K, cl⟩ WF mk) (tM ⟨X.K, cl⟩ WF mv) vs σ H Q := fun σ H Q ⟨env, ρ, G, st, rel, er, p⟩ => by
  refine ⟨env, ρ, G, st, rel, er, PostR.bind (R1 := ItS ⟨X.K, cl⟩) p fun s st1 ρ1 G1 H1 J f1 r1 its p1 => fun D hD hNC => ?_⟩
  obtain ⟨f2, r2⟩ := r1.newL (o := NdO D []) (x := .dn [] []) hD ⟨_, [], [], rfl, hNC, rfl, Reps.nil, .nil, Reps.nil⟩
  have hD2 : ((ρ1.l ++ [D])[st1.l.length]? : Option Addr) = some D := by rw [← r1.ll]; simp
  refine ⟨fun i m H' => ∃ ρ' G' st', m = s.xs.length - i ∧ i ≤ s.xs.length ∧ Fr ⟨ρ1.l ++ [D], ρ1.o⟩ ρ' G1 G' ∧ Rel ⟨X.K, cl⟩ ρ' G' H' st' ∧ PostR ⟨X.K, cl⟩ ρ1 G1 (Mz.SlR ⟨X.K, cl⟩) (dcL s.gd pt mt mk mv (wipeE env vs) st1.l.length (fun st2 => .ok (.l st1.l.length) st2) (s.xs.drop i) st') Q fun c d H' => Wx c d σ H',
    ⟨s.xs.length, _, G1, _, by simp, Nat.zero_le _, Fr.refl _ _, r2, p1⟩, ?_⟩
  rintro i m H' ⟨ρ', G', st', rfl, hi, f, r, q⟩
  have g' := dc_gd q
  have ff := f2.trans f
  by_cases hlt : i < s.xs.length
  · obtain ⟨h1, h2⟩ := its.go i s.xs[i] H' st' ρ' G' ff r g' (List.getElem?_eq_getElem hlt)
    refine .inr ⟨h1, fun H2 => ∃ ρ' G' st', Fr ⟨ρ1.l ++ [D], ρ1.o⟩ ρ' G1 G' ∧ Rel ⟨X.K, cl⟩ ρ' G' H2 st' ∧ PostR ⟨X.K, cl⟩ ρ1 G1 (Mz.SlR ⟨X.K, cl⟩) (dcL s.gd pt mt mk mv (wipeE env vs) st1.l.length (fun st2 => .ok (.l st1.l.length) st2) (s.xs.drop (i + 1)) st') Q fun c d H' => Wx c d σ H',
      fun H2 ⟨ρ2, G2, st2, f2, r2, q2⟩ => ⟨s.xs.length - (i + 1), by omega, ρ2, G2, st2, rfl, hlt, f2, r2, q2⟩, fun x H2 hy => ?_⟩
    obtain ⟨G2, fy, ry, hx⟩ := h2 x H2 hy
    rw [drop_at hlt] at q
    unfold dcL at q
    rw [if_pos g'] at q
    split at q
    · rename_i env1 e1
      have er2 := ((er.mono f1).mono (ff.trans fy)).wipe vs
      refine hgs ρ' G2 H2 st' s.xs[i] x (wipeE env vs) env1 (L2.wipe σ vs) _ ry hx er2 e1 fun σ1 er1 only => ⟨?_, ?_⟩
      · rw [Only.wipe only hv]
        exact wipe_eq (wipe_length σ vs) fun j hj => by rw [wipe_at, if_neg (fun z => hj z.1)]
      · refine ⟨env1, ρ', G2, st', ry, er1, PostR.then (R1 := fun _ _ a b => a = b) q fun c st3 ρ3 G3 H3 b f3 r3 hb q3 => ?_⟩
        subst hb
        cases c with
        | false => exact ⟨ρ3, G3, st3, f.trans (fy.trans f3), r3, q3⟩
        | true =>
          show tM _ _ _ _ _ _
          refine ⟨env1, ρ3, G3, st3, r3, er1.mono f3, PostR.then (R1 := Mz.SlR ⟨X.K, cl⟩) q3 fun k st4 ρ4 G4 H4 u f4 r4 hu q4 => ?_⟩
          refine ⟨env1, ρ4, G4, st4, r4, (er1.mono f3).mono f4, PostR.then (R1 := Mz.SlR ⟨X.K, cl⟩) q4 fun y st5 ρ5 G5 H5 z f5 r5 hz q5 => ?_⟩
          split at q5
          · rename_i kw w ks ws e5
            split at q5
            · rename_i qk eq
              split at q5
              · rename_i hlen
                have hD5 : ρ5.l[st1.l.length]? = some D := (f.trans (fy.trans (f3.trans (f4.trans f5)))).le.1 _ _ hD2
                exact ⟨ρ5, G5, st5, st1.l.length, ks, ws, kw, w, qk, r5, ⟨D, hD5, rfl⟩, hu.mono f5, hz, e5, eq, hlen, fun H' r' => ⟨ρ5, G5, _, f.trans (fy.trans (f3.trans (f4.trans f5))), r', q5⟩⟩
              · exact q5.elim
            · exact q5.elim
          · exact q5.elim
    · exact q.elim
  · have hi' : i = s.xs.length := by omega
    subst hi'
    rw [List.drop_length] at q
    unfold dcL at q
    rw [if_pos g'] at q
    exact .inl ⟨its.stop _ H' st' ρ' G' ff r g' (Nat.le_refl _), q ρ' G' H' _ ff r ⟨D, f.le.1 _ _ hD2, rfl⟩⟩
end
section
variable {X : Cx} {cl : Nat → Addr} {Wx : WX}
theorem sw_trueD {kx vx : Expr} {gs : List Comprehension} {scope : Scope} {pos py : Pos} {y : Str} {l : Nat} {env : PySem.Env} (hk : env.scope.kind = .function) (hy : env.scope.names.lookup y = some .local) (hl : (py.line == pos.line) = true)
    (ha : (scope.names.any fun (n, k) => n == y && (k == .local || k == .cell)) = false) : swapsWith (.DictComp kx vx gs scope pos) (some (.Name y py)) l env = pure true := by
  have hb : env.blockKind = .function := by unfold Env.blockKind; rw [hk]; rfl
  have ky : env.kindOf y = some .local := hy
  unfold swapsWith
  simp only [hb, ky, ha, Expr.pos, hl]
  rfl
theorem ps_setDcN {i : Nat} {y : Str} {py : Pos} {kx vx tg iter : Expr} {ifs : List Expr} {scope : Scope} {own : List (Str × Nat)} {pos spos : Pos} {wi : TI} {g : TG} {tt : TT} {tk tv : TE} (hu : X.A.units + 9 < cLine) (hc : X.calm = true) (hN : X.N.Nodup) (hy : X.N[i]? = some y) (hyl : X.env.scope.names.lookup y = some .local)
    (hsw : swapsWith (.DictComp kx vx [⟨tg, iter, ifs, 0⟩] scope pos) (some (.Name y py)) spos.line X.env = pure true) (hi : PI X tg iter wi) (ok : BlkOk X.N X.env.scope scope own)
    (hg : ∀ (s : Shared) (H : Hp) (C : Addr) (cl : List (Str × Addr)) (fp : List Addr), PG (X.blk s H scope (compEnvC scope cl C X.env) fp) tg g) (ht : ∀ (s : Shared) (H : Hp) (C : Addr) (cl : List (Str × Addr)) (fp : List Addr), PTs (X.blk s H scope (compEnvC scope cl C X.env) fp) ifs tt)
    (hk : ∀ (s : Shared) (H : Hp) (C : Addr) (cl : List (Str × Addr)) (fp : List Addr), PE (X.blk s H scope (compEnvC scope cl C X.env) fp) kx tk)
    (he : ∀ (s : Shared) (H : Hp) (C : Addr) (cl : List (Str × Addr)) (fp : List Addr), PE (X.blk s H scope (compEnvC scope cl C X.env) fp) vx tv) (hs : ∀ x, foldedSetIterable iter X.env x = pure x := by intro _; rfl) :
    PS X (.Assign [.Name y py] (.DictComp kx vx [⟨tg, iter, ifs, 0⟩] scope pos) spos) (tAsg (tDcN X cl wi g tt tk tv (own.map (·.2))) (gName i)) := by
  refine ⟨fun pins s σ H D I h => ?_⟩
  rw [exec_Assign_Name_used _ _ _ _ hsw]
  refine wpAny_bind (wpAny_standAt (wpAny_bind ?_))
  show wpAny _ X.A (do let _ ← comprehension (.DictComp kx vx [⟨tg, iter, ifs, 0⟩] scope pos) scope X.env (firstIterPos [⟨tg, iter, ifs, 0⟩] pos) newDict false (eval iter X.env) (some (assign (.Name y py) X.env))) _ _ s
  have h' : tDcN X cl wi g tt tk tv (own.map (·.2)) σ H (fun x H1 => gName i x σ H1 D.nx) := h
  refine wpAny_bind (thn (dcN_core (Qf := fun _ s' => SP X pins D .next s') hu hc hN I hi ok hg ht hk he hs h' fun L C s' m H' I' q hn f => ?_) fun _ s' hq => wpAny_pure (wpAny_pure hq))
  show wpAny _ _ (assign (.Name y py) X.env (.ref L)) _ _ _
  obtain ⟨f0, f1, f2, f3, f4, f5⟩ := f
  refine wpAny_assign_Name (store_ok2 (v := V.ref L) I' hN hy (.inl hyl) rfl (fun s2 I2 ⟨a, sb, ha⟩ => ?_) (.inr hyl))
  have hCa : C ≠ a := by
    rcases ha with z | z
    · rw [z]; exact f1
    · exact fun e => f4 y a z e.symm
  exact ⟨m, hn.sameBut sb hCa, fun h3 sb3 => ⟨_, H', I2.turned (t' := s2.toks) (fun b o hb e => (sb3.2 b hb).trans e) f0 f1 f3 f4 f5, q⟩⟩
theorem is_setDcN {i : Nat} {y : Str} {py spos : Pos} {tg iter kx vx : Expr} {ifs : List Expr} {mi : MI} {mk mv : ME} {mt : MT} {g : TG} {pt : Pat} {pos : Pos} {scope : Scope} {own : List (Str × Nat)} (hu : X.A.units + 9 < cLine) (hc : X.calm = true) (hN : X.N.Nodup) (hy : X.N[i]? = some y) (hyl : X.env.scope.names.lookup y = some .local)
    (hsw : swapsWith (.DictComp kx vx [⟨tg, iter, ifs, 0⟩] scope pos) (some (.Name y py)) spos.line X.env = pure true) (hi : II X cl Wx tg iter mi) (ok : BlkOk X.N X.env.scope scope own)
    (hg : ∀ s H C cs fp, PG (blkCx X scope s H C cs fp) tg g) (hgs : GoS ⟨X.K, cl⟩ g pt) (ht : ∀ s H C cs fp, ITs (blkCx X scope s H C cs fp) cl WF ifs mt) (hk : ∀ s H C cs fp, IE (blkCx X scope s H C cs fp) cl WF kx mk) (he : ∀ s H C cs fp, IE (blkCx X scope s H C cs fp) cl WF vx mv)
    (hv : ∀ i ∈ pt.slots, i ∈ own.map (·.2)) (hs : ∀ x, foldedSetIterable iter X.env x = pure x := by intro _; rfl) :
    IS X cl Wx (.Assign [.Name y py] (.DictComp kx vx [⟨tg, iter, ifs, 0⟩] scope pos) spos) (mAsg i (mDcN mi pt mt mk mv (own.map (·.2)))) :=
  ps_weak (ps_setDcN (cl := cl) hu hc hN hy hyl hsw hi ok hg ht hk he hs) (tS_asg (tM_dcN hgs hv))
end
def fListDn : MF
  | [x], st => match ndOf st x with
    | some (ks, _) => .ok (.v (.lst ks)) st
    | none => .bad
  | _, _ => .bad
section
variable {X : Cx} {cl : Nat → Addr} {Wx : WX}
theorem vals_refs : ∀ {as : List Addr}, Vals (as.map V.ref) (as.map Value.ref)
  | [] => .nil
  | a :: as => .cons rfl vals_refs
def rListDn (T : Tx) : List V → Hp → VK → Prop := fun vs H Q => ∃ (ρ : Mp) (G : Hp) (st : Store) (x : Sl) (u : V) (ks ws : List W) (E : XK), vs = [u] ∧ Rel T ρ G H st ∧ Mz.SlR T ρ G x u ∧ ndOf st x = some (ks, ws) ∧ PostR T ρ G (Mz.SlR T) (.ok (.v (.lst ks)) st) Q E
theorem call_listDn (hcalm : X.calm = true) : CallR X (.type "list") (rListDn ⟨X.K, cl⟩) := by
  intro pins s σ H vs us Q I r ⟨ρ, G, st, x, u, ks, ws, E, hvs, rel, hx, hn, p⟩
  subst hvs
  obtain ⟨u0, eu, rx⟩ := vals1 r
  subst eu
  obtain ⟨n, rfl, hst⟩ := ndOf_at hn
  obtain ⟨a, xs, vs, rfl, ha, _, hH, hc, hk, hrk, hv, hrw, hd⟩ := nd_dict I rel hst hx
  obtain rfl : u0 = Value.ref a := rx
  obtain ⟨o, es, ep, h1, h2, h3, h4, _, _⟩ := hd
  have hat : s.heap.DictRaw a es ep := ⟨o, h1, h2, h3⟩
  have hes : es.toList = xs.map (entryOfKey (nestedKind X.prog X.w)) := h4
  have hsz : es.size = xs.length := by have := congrArg List.length hes; rw [Array.length_toList, List.length_map] at this; exact this
  refine PySem.W.kdl_call (KdlSrc.rawDict (es := es) (ep := ep) hc.sys) (I.ok.hd hcalm) hat (by rw [hsz]; exact hc.size) fun h' tk acc c' hkp hD hacc => ?_
  have hl : acc.toList.length = xs.length := by rw [Array.length_toList, hacc.1, hsz]
  have hacc' : acc.toList = xs.map fun x => Value.ref x.2.1 := by
    apply List.ext_getElem?
    intro j
    by_cases hj : j < xs.length
    · have hj2 : j < acc.toList.length := by omega
      obtain ⟨hi, e⟩ := hacc.2 j acc.toList[j] (by rw [← Array.getElem?_toList]; exact List.getElem?_eq_getElem hj2)
      rw [List.getElem?_eq_getElem hj2, List.getElem?_map, List.getElem?_eq_getElem hj, e]
      have e2 : es.toList[j]? = some (entryOfKey (nestedKind X.prog X.w) xs[j]) := by rw [hes, List.getElem?_map, List.getElem?_eq_getElem hj]; rfl
      rw [Array.getElem?_toList, Array.getElem?_eq_getElem hi] at e2
      rw [Option.some.inj e2]
      rfl
    · rw [List.getElem?_eq_none (by omega), List.getElem?_eq_none (by rw [List.length_map]; omega)]
  have hD' : h'.get? s.heap.objs.size = some { cls := .type "list", dict := none, data := .seq (xs.map fun x => Value.ref x.2.1).toArray c', slots := #[] } := by
    rw [hD, ← hacc', Array.toArray_toList]
  have hvals : Vals (xs.map fun x => V.ref x.2.1) (xs.map fun x => Value.ref x.2.1) := by
    have z := vals_refs (as := xs.map fun x => x.2.1)
    rw [List.map_map, List.map_map] at z
    exact z
  have hp : H s.heap.objs.size = none := I.hok.fresh (Nat.le_refl _)
  obtain ⟨f2, r2⟩ := rel.newG (o := .lst (xs.map fun x => V.ref x.2.1)) hp
  refine ⟨.ref s.heap.objs.size, upd H s.heap.objs.size (.lst (xs.map fun x => V.ref x.2.1)), I.laid (t' := tk) hkp (Nat.le_refl _)
    (show ObjOk X.prog X.w _ _ _ (.lst _) from ⟨by rw [List.length_map]; exact hc.size, _, c', hvals, hD'⟩), rfl, ?_⟩
  exact p _ _ _ _ f2 r2 (by unfold Mz.SlR Rep; exact ⟨_, _, rfl, upd_same, Reps.mono f2.ex _ _ hrk⟩)
theorem s_listDn {T : Tx} : CaS T (rListDn T) fListDn := fun ρ G H st xs us Q E r hs p => by
  unfold fListDn at p
  split at p
  · obtain ⟨u, rfl, hx⟩ := slrs1 hs
    split at p
    · rename_i ks ws e
      exact ⟨ρ, G, st, _, u, ks, ws, E, rfl, r, hx, e, p⟩
    · exact p.elim
  · exact p.elim
end
open Classical in
noncomputable def kDcN (pt : Pat) (mt : MT) (mk mv : ME) (vs : List Nat) (env : Env) (r : Res Src) : Res Sl := r.bind fun s st1 => dcL s.gd pt mt mk mv (wipeE env vs) st1.l.length (fun st2 => .ok (.l st1.l.length) st2) s.xs (st1.push (.dn [] []))
open Classical in
theorem e_dcN {mi : MI} {pt : Pat} {mt : MT} {mk mv : ME} {vs : List Nat} {env : Env} {st : Store} : mDcN mi pt mt mk mv vs env st = kDcN pt mt mk mv vs env (mi env st) := rfl
open Classical in
theorem k_dcN {pt : Pat} {mt : MT} {mk mv : ME} {vs : List Nat} {env : Env} {s : Src} {st : Store} : kDcN pt mt mk mv vs env (.ok s st) = dcL s.gd pt mt mk mv (wipeE env vs) st.l.length (fun st2 => .ok (.l st.l.length) st2) s.xs (st.push (.dn [] [])) := rfl
end Mz

set_option Elab.async false
set_option linter.all false
set_option maxRecDepth 100000
set_option maxHeartbeats 4000000
namespace Mz
open PySem PySem.Spec PySem.Calls PyProof.Rows L2
open PySem.W (EachIs AllAlike Sortable dataLe sorted_data)
def dOf (w : W) : PyData := (toD w).getD .none
def leW (a b : W) : Bool := dataLe false dOf a b
def sortW (xs : List W) : List W := xs.mergeSort leW
def SrtOk (xs : List W) : Prop := ∃ ds, toDs xs = some ds ∧ (xs.length ≤ 1 ∨ (AllAlike ds ∧ Sortable ds)) ∧ ∀ d ∈ ds, d.depth ≤ 8
def rSortedW (T : Tx) : List V → Hp → VK → Prop := fun vs H Q => ∃ (a : Addr) (xs : List W) (us : List V) (G : Hp), vs = [V.ref a] ∧ SqL T.K H a us ∧ (∀ a o, G a = some o → H a = some o) ∧ Reps T G xs us ∧ SrtOk xs ∧
  ∀ (us' : List V) (p : Addr), Reps T G (sortW xs) us' → H p = none → Q (.ref p) (upd H p (.lst us'))
theorem each_vals : ∀ {us : List V} {vs : List Value}, Vals us vs → EachIs (fun v (b : V) => RelV b v) vs us
  | _, _, .nil => .nil
  | _, _, .cons h t => .cons h (each_vals t)
theorem vals_each : ∀ {us : List V} {vs : List Value}, EachIs (fun v (b : V) => RelV b v) vs us → Vals us vs
  | _, _, .nil => .nil
  | _, _, .cons h t => .cons h (vals_each t)
theorem each_mapv {α β γ : Type} {R : α → γ → Prop} (f : β → γ) : ∀ {as : List α} {bs : List β}, EachIs (fun a b => R a (f b)) as bs → EachIs R as (bs.map f)
  | _, _, .nil => .nil
  | _, _, .cons h t => .cons h (each_mapv f t)
theorem zip_fst {α β : Type} : ∀ {xs : List α} {ys : List β}, xs.length = ys.length → (xs.zip ys).map (·.1) = xs
  | [], [], _ => rfl
  | x :: xs, y :: ys, h => by rw [List.zip_cons_cons, List.map_cons, zip_fst (by simpa using h)]
theorem zip_snd {α β : Type} : ∀ {xs : List α} {ys : List β}, xs.length = ys.length → (xs.zip ys).map (·.2) = ys
  | [], [], _ => rfl
  | x :: xs, y :: ys, h => by rw [List.zip_cons_cons, List.map_cons, zip_snd (by simpa using h)]
theorem reps_all {T : Tx} {G : Hp} : ∀ {xs : List W} {us : List V}, Reps T G xs us → ∀ p ∈ us.zip xs, Rep T G p.2 p.1
  | [], us, h, p, hp => by unfold Reps at h; subst h; cases hp
  | x :: xs, us, h, p, hp => by
    unfold Reps at h
    obtain ⟨v, r, rfl, h1, h2⟩ := h
    rw [List.zip_cons_cons] at hp
    rcases List.mem_cons.mp hp with rfl | hp
    · exact h1
    · exact reps_all h2 p hp
theorem all_reps {T : Tx} {G : Hp} : ∀ {bs : List (V × W)}, (∀ p ∈ bs, Rep T G p.2 p.1) → Reps T G (bs.map (·.2)) (bs.map (·.1))
  | [], _ => Reps.nil
  | b :: bs, h => Reps.cons (h b List.mem_cons_self) (all_reps fun p hp => h p (List.mem_cons_of_mem _ hp))
theorem toDs_mapD : ∀ {xs : List W} {ds : List PyData}, toDs xs = some ds → xs.map dOf = ds ∧ ∀ x ∈ xs, toD x = some (dOf x)
  | [], ds, h => by unfold toDs at h; cases h; exact ⟨rfl, fun x hx => by cases hx⟩
  | x :: xs, ds, h => by
    unfold toDs at h
    split at h
    · rename_i d ds' h1 h2
      cases h
      obtain ⟨i1, i2⟩ := toDs_mapD h2
      have e : dOf x = d := by unfold dOf; rw [h1]; rfl
      refine ⟨by rw [List.map_cons, e, i1], fun y hy => ?_⟩
      rcases List.mem_cons.mp hy with rfl | hy
      · rw [h1, e]
      · exact i2 y hy
    · cases h
theorem sortW_short {xs : List W} (h : xs.length ≤ 1) : sortW xs = xs := by
  unfold sortW
  match xs, h with
  | [], _ => exact List.mergeSort_nil
  | [x], _ => exact List.mergeSort_singleton x
theorem perm_short {α : Type} {xs ys : List α} (h : xs.Perm ys) (hl : ys.length ≤ 1) : xs = ys := by
  cases ys with
  | nil => exact List.Perm.eq_nil h
  | cons y ys =>
    cases ys with
    | nil => exact List.perm_singleton.mp h
    | cons z ys => simp at hl
section
variable {X : Cx} {cl : Nat → Addr} {Wx : WX}
theorem cr_sortedW (hu : X.A.units + 65 < cLine) : CallR X (.builtin "sorted") (rSortedW ⟨X.K, cl⟩) := by
  intro pins s σ H vs us Q I r ⟨a, xs, vls, G, hvs, hq, hext, hrep, ⟨ds, hds, hok, hdep⟩, q⟩
  subst hvs
  obtain ⟨its, rv, pl, hz⟩ := I.list hq
  rw [Vals.ref1 r]
  have hl1 : vls.length = its.length := rv.length
  have hl2 : xs.length = vls.length := hrep.length
  obtain ⟨hD, hDx⟩ := toDs_mapD hds
  -- the end
  have fin : ∀ (out : List Value) (us' : List V), Vals us' out → us'.length = vls.length → Reps ⟨X.K, cl⟩ G (sortW xs) us' → EP X pins σ Q (.ref (s.heap.objs.size + 1)) { s with heap := sortedAll s.heap its (List.toArray out) } := fun out us' hv hlen hr => by
    obtain ⟨ep, he'⟩ := PyProof.Rows.sortedAll_at s.heap its out.toArray
    exact ⟨.ref _, upd H (s.heap.objs.size + 1) (.lst us'), I.laid (t' := s.toks) (fun _ _ => PyProof.Rows.sortedAll_old) (Nat.le_succ _) (show ObjOk X.prog X.w _ _ _ (.lst us') from ⟨by rw [hlen]; exact hz, out, ep, hv, he'⟩), rfl, q us' _ hr (I.hok.fresh (Nat.le_succ _))⟩
  by_cases hs : xs.length ≤ 1
  · refine SrtO.sorted_ord (ltv := fun _ _ => false) ⟨(fun _ _ z => Bool.noConfusion z), (fun _ _ _ _ _ => rfl)⟩ pl.isList (by rw [← hl1]; exact hz) (fun h2 => by omega) fun out h1 h2 => ?_
    have e : out = its := perm_short h2.perm (by omega)
    rw [e]
    exact fin _ vls rv rfl (by rw [sortW_short hs]; exact hrep)
  · obtain ⟨hal, hsr⟩ := hok.resolve_left hs
    have hbs : (vls.zip xs).map (·.2) = xs := zip_snd hl2.symm
    have hb1 : (vls.zip xs).map (·.1) = vls := zip_fst hl2.symm
    have henc : (vls.zip xs).map (fun b => dOf b.2) = ds := by rw [← hD, ← hbs, List.map_map]; simp only [hbs]; rfl
    have hR : EachIs (fun v (b : V × W) => RelV b.1 v) its (vls.zip xs) := by
      have z := each_vals rv
      rw [← hb1] at z
      exact PySem.W.each_of_map (R := fun v (b : V) => RelV b v) (fun b : V × W => b.1) z
    have hmem : ∀ b ∈ vls.zip xs, Rep ⟨X.K, cl⟩ G b.2 b.1 ∧ toD b.2 = some (dOf b.2) := fun b hb => ⟨reps_all hrep b hb, hDx _ (by rw [← hbs]; exact List.mem_map_of_mem hb)⟩
    have her : EachIs (fun v (b : V × W) => ∃ as, Reads s.heap v (dOf b.2) as) its (vls.zip xs) := (PySem.W.each_mem hR).mono fun v b hh => by
      obtain ⟨h3, h4⟩ := hmem b hh.2
      exact Dp.reads I _ b.1 v (toD_dp hext b.2 b.1 _ h4 h3) hh.1
    have hdp : ∀ b ∈ vls.zip xs, X.A.units + 2 + (dOf b.2).depth < cLine := fun b hb => by
      have := hdep (dOf b.2) (by rw [← henc]; exact List.mem_map_of_mem (f := fun b : V × W => dOf b.2) hb)
      omega
    have hp : ((vls.zip xs).mergeSort (dataLe false fun b : V × W => dOf b.2)).Perm (vls.zip xs) := List.mergeSort_perm ..
    have hsnd : ((vls.zip xs).mergeSort (dataLe false fun b : V × W => dOf b.2)).map (·.2) = sortW xs := by
      have z := List.map_mergeSort (r := dataLe false fun b : V × W => dOf b.2) (s := leW) (f := fun b : V × W => b.2) (l := vls.zip xs) (fun a _ b _ => rfl)
      rw [hbs] at z
      exact z
    refine sorted_data (enc := fun b : V × W => dOf b.2) (R := fun v (b : V × W) => RelV b.1 v) pl.isList hR her (by rw [henc]; exact hal) (by rw [henc]; exact hsr) (by rw [List.length_zip]; omega) hdp ?_
    intro out ho he
    refine fin out (((vls.zip xs).mergeSort (dataLe false fun b : V × W => dOf b.2)).map (·.1)) (vals_each (each_mapv (R := fun v (b : V) => RelV b v) (fun b : V × W => b.1) he)) (by rw [List.length_map, hp.length_eq, List.length_zip]; omega) ?_
    rw [← hsnd]
    exact all_reps fun p hp' => reps_all hrep p (hp.mem_iff.mp hp')
end
open Classical in
noncomputable def fSortD : MF
  | [x], st => match litems st x with
    | some xs => if SrtOk xs then .ok (.v (.lst (sortW xs))) st else .bad
    | none => .bad
  | _, _ => .bad
theorem s_sortD {T : Tx} : CaS T (rSortedW T) fSortD := fun ρ G H st xs us Q E r hs p => by
  unfold fSortD at p
  split at p
  · obtain ⟨u, rfl, hx⟩ := slrs1 hs
    split at p
    · rename_i ys e
      split at p
      · rename_i hk
        obtain ⟨a, vs, rfl, hq, hr⟩ := litems_at r hx e
        refine ⟨a, ys, vs, G, rfl, hq, r.ext, hr, hk, fun us' q hrs hn => ?_⟩
        obtain ⟨f, r2⟩ := r.newG (o := .lst us') hn
        exact p _ _ _ _ f r2 (by unfold Mz.SlR Rep; exact ⟨q, _, rfl, upd_same, Reps.mono f.ex _ _ hrs⟩)
      · exact p.elim
    · exact p.elim
  · exact p.elim
end Mz

set_option Elab.async false
set_option linter.all false
set_option maxRecDepth 100000
set_option maxHeartbeats 4000000
namespace RemAt
open PySem PySem.Spec PySem.Calls PyProof.Rows PySem.MeetsSeq SeqAt
theorem loop {l : Addr} {items : Array Value} {n : Nat} {x : Value} {e : Value → Bool} {j : Nat} (hj : j < items.size) (hit : e items[j] = true) (hs1 : items.size ≤ sizeLine) (k : Nat) :
    ∀ i : Nat, j - i = k → i ≤ j → (∀ m (hm : m < items.size), i ≤ m → m < j → e items[m] = false) → Meets (Builtin.«list.remove.loop» ⟨[.ref l, x, rawInt i], []⟩)
      (fun A R s => (s.heap.get? l = some { cls := .type "list", dict := none, data := .seq items n, slots := #[] } ∧ ∀ y, y ∈ items → EqAt A.in1 s y x (e y)) ∧ R (.ok (.ret .none)) { s with heap := s.heap.update l (Obj.mapSeq fun xs => xs.eraseIdxIfInBounds j) }) := by
  induction k with
  | zero =>
    intro i hk hij hno prog w A R s ⟨⟨h1, he⟩, h2⟩
    obtain ⟨hp, g, d, tk, os⟩ := s
    obtain rfl : i = j := by omega
    wp_walk using wpAny_loadPart' h1
    rw [show items[((i : Nat) : Int).toNat]? = some items[i] by simp [hj]]
    refine wpAny_bind (he _ (Array.getElem_mem hj) prog w _ _ ?_)
    rw [hit]
    have hz' : (items.eraseIdxIfInBounds i).size ≤ sizeLine + 1 := Nat.le_trans (size_erased items _) (Nat.le_succ_of_le hs1)
    wp_walk using (wpAny_updateSeq h1 rfl (hz := hs1) (_hz' := hz')), wpAny_loadPart' h1
    simpa using h2
  | succ k ih =>
    intro i hk hij hno prog w A R s ⟨⟨h1, he⟩, h2⟩
    obtain ⟨hp, g, d, tk, os⟩ := s
    have lt : i < items.size := by omega
    wp_walk using wpAny_loadPart' h1
    rw [show items[((i : Nat) : Int).toNat]? = some items[i] by simp [lt]]
    refine wpAny_bind (he _ (Array.getElem_mem lt) prog w _ _ ?_)
    rw [hno i lt (Nat.le_refl _) (by omega)]
    wp_walk
    rw [show ((i : Int) + 1) = ((i + 1 : Nat) : Int) by push_cast; rfl]
    exact ⟨plainId_quiet plain_remove_loop _, codeAny_builtin entry_remove_loop (by
      rw [Around.under_plainId plain_remove_loop _]
      exact ih (i + 1) (by omega) (by omega) (fun m hm a b => hno m hm (by omega) b) prog w A R _ ⟨⟨h1, he⟩, h2⟩)⟩
theorem removes {l : Addr} {items : Array Value} {n : Nat} {x : Value} {e : Value → Bool} {j : Nat} (hj : j < items.size) (hit : e items[j] = true) (hno : ∀ m (hm : m < items.size), m < j → e items[m] = false) (hs1 : items.size ≤ sizeLine) :
    Meets (Builtin.«list.remove» ⟨[.ref l, x], []⟩)
      (fun A R s => (s.heap.get? l = some { cls := .type "list", dict := none, data := .seq items n, slots := #[] } ∧ ∀ y, y ∈ items → EqAt A.in1 s y x (e y)) ∧ R (.ok (.ret .none)) { s with heap := s.heap.update l (Obj.mapSeq fun xs => xs.eraseIdxIfInBounds j) }) := by
  intro prog w A R s ⟨⟨h1, he⟩, h2⟩
  obtain ⟨hp, g, d, tk, os⟩ := s
  wp_walk using wpAny_loadPart' h1
  exact ⟨plainId_quiet plain_remove_loop _, codeAny_builtin entry_remove_loop (by
    rw [Around.under_plainId plain_remove_loop _]
    exact loop hj hit hs1 _ 0 rfl (Nat.zero_le _) (fun m hm _ b => hno m hm b) prog w A R _ ⟨⟨h1, he⟩, h2⟩)⟩
end RemAt
namespace Mz
open PySem PySem.Spec PySem.Calls PyProof.Rows L2
def rRemD (K : PySem.W.Frag) : V → List V → Hp → VK → Prop := fun x xs H Q => ∃ (a : Addr) (vs : List V) (y : V) (d : PyData) (ds : List PyData) (j : Nat) (z : PyData), x = V.ref a ∧ xs = [y] ∧ H a = some (.lst vs) ∧ DpAll K H vs ds ∧ Dp K H y d ∧
  SeqAt.shaped (.list ds) = true ∧ SeqAt.shaped d = true ∧ ds[j]? = some z ∧ PyData.eqv z d = true ∧ (∀ (m : Nat) (z' : PyData), m < j → ds[m]? = some z' → PyData.eqv z' d = false) ∧ Q .non (upd H a (.lst (vs.eraseIdx j)))
theorem mt_removeD {X : Cx} (hu : X.A.units + 65 < cLine) : MtR X "list.remove" (rRemD X.K) := by
  intro pins s σ H x xs v us Q I rx rxs h
  obtain ⟨a, vs, y, d, ds, j, z, rfl, rfl, hH, ha, hy, sl, sd, hz, hzj, hno, q⟩ := h
  cases rx
  obtain ⟨uy, rfl, ry⟩ := rxs.one
  obtain ⟨bs, r1⟩ := Dp.reads I d y uy hy ry
  have hxs : PyData.canLayAll0 ds = true := SeqAt.canLay_of_shaped sl
  have hroom : X.A.units + 1 + min (PyData.depthAll ds) d.depth < cLine := room_in_shaped sd hu
  obtain ⟨zl, its, n, rv, hl, e⟩ := I.lstM hH
  obtain ⟨as, h4⟩ := Dp.readsAll I ds _ its ha rv
  have hn : its.length = ds.length := SeqAt.ReadsAll.length ds its as h4
  have hmap : its.map (SeqAt.readOf s.heap) = ds := SeqAt.readsAll_map ds its as hxs h4
  obtain ⟨hjd, _⟩ := List.getElem?_eq_some_iff.mp hz
  have hj : j < its.toArray.size := by rw [List.size_toArray]; omega
  have at_ : ∀ (m : Nat) (hm : m < its.toArray.size) (z' : PyData), ds[m]? = some z' → SeqAt.readOf s.heap its.toArray[m] = z' := fun m hm z' hz' => by
    have hml : m < its.length := by simpa using hm
    have w := congrArg (fun l : List PyData => l[m]?) hmap
    rw [List.getElem?_map, List.getElem?_eq_getElem hml, hz'] at w
    simpa using w
  refine call_meets PySem.F.slot_list_remove ⟨_, e, rfl⟩ PySem.F.entry_list_remove (PySem.F.args_list_remove_2 _ _)
    (RemAt.removes (l := a) (n := n) (x := uy) (e := fun u => PyData.eqv (SeqAt.readOf s.heap u) d) hj (by rw [at_ j hj z hz]; exact hzj) (fun m hm hmj => ?_) (by rw [List.size_toArray]; omega)) ⟨⟨e, SeqAt.items_eqAt (vs := its.toArray) (show ReadsAll s.heap its.toArray.toList ds as from h4) r1 hxs (SeqAt.canLay_of_shaped sd) hroom⟩, ?_⟩
  · have hmd : m < ds.length := by omega
    rw [at_ m hm _ (List.getElem?_eq_getElem hmd)]
    exact hno m _ hmj (List.getElem?_eq_getElem hmd)
  · refine ⟨.non, _, I.lset (its' := its.eraseIdx j) (t' := s.toks) hH e ?_ (rv.eraseIdx j) ?_, rfl, q⟩
    · show its.toArray.eraseIdxIfInBounds j = (its.eraseIdx j).toArray
      rw [List.eraseIdxIfInBounds_toArray]
    · have := List.length_eraseIdx_le vs j
      omega
def remOf (n : Nat) (ys : List Sl) (st : Store) : Res Sl := match ys, st.lget n with
  | [.v w], some xs => match toD w, toDs xs with
    | some d, some ds => if SeqAt.shaped d = true ∧ SeqAt.shaped (.list ds) = true then (match firstD d ds with
      | some j => .ok (.v .non) (st.setl n (.lst (xs.eraseIdx j)))
      | none => .bad) else .bad
    | _, _ => .bad
  | _, _ => .bad
def rem1 (a : MA) (env : Mz.Env) (x : Sl) (st : Store) : Res Sl := match x with
  | .l n => match st.lget n with
    | some _ => (a env st).bind fun ys st2 => remOf n ys st2
    | none => .bad
  | _ => .bad
def mRem (o : ME) (a : MA) : ME := fun env st => (o env st).bind fun x st1 => rem1 a env x st1
section
variable {X : Cx} {cl : Nat → Addr} {Wx : WX} {o e : Expr} {es : List Expr} {mo me : ME} {ma : MA} {apos cpos : Pos}
theorem ie_rem (hu : X.A.units + 65 < cLine) (ho : IE X cl Wx o mo) (ha : IA X cl Wx (e :: es) ma)
    (hbase : attributeBase o "remove" X.env (eval o X.env) = eval o X.env := by rfl)
    (hfew : ((backTo cpos (starEach (e :: es) X.env)).all (fun x => !x.1) && (backToKw cpos (keywordEach [] X.env)).all (fun x => x.1.isSome)
      && decide ((e :: es).length + ([] : List Keyword).length + (if ([] : List Keyword).isEmpty then 0 else 1) < 30)) = true := by rfl)
    (hline : (apos.endLine == cpos.line) = true := by rfl) (he : starEach (e :: es) X.env = (false, eval e X.env) :: starEach es X.env := by rfl) (hplain : (backTo cpos (starEach es X.env)).any (·.1) = false := by rfl) :
    IE X cl Wx (.Call (.Attribute o "remove" apos) (e :: es) [] cpos) (mRem mo ma) :=
  pe_weak (pe_bm PySem.F.plainAttrs_list PySem.F.slot_list_remove PySem.F.type_list_remove (mt_removeD hu) ho ha hbase hfew hline he hplain) fun σ H Q ⟨env, ρ, G, st, rel, er, p⟩ => ⟨env, ρ, G, st, rel, er, PostR.bind (R1 := Mz.SlR ⟨X.K, cl⟩) p fun x st1 ρ1 G1 H1 u f1 r1 s1 p1 => by
    unfold rem1 at p1
    split at p1
    · rename_i n
      split at p1
      · rename_i xs0 e0
        obtain ⟨a, vs, ha1, rfl, hH, _⟩ := lst_at r1 s1 e0
        refine ⟨.inl ⟨rfl, vs, SqL.of hH⟩, env, ρ1, G1, st1, r1, er.mono f1, PostR.bind (R1 := SlRs ⟨X.K, cl⟩) p1 fun ys st2 ρ2 G2 H2 us f2 r2 s2 p2 => ?_⟩
        unfold remOf at p2
        split at p2
        · rename_i w xs e1
          split at p2
          · rename_i d ds ed eds
            split at p2
            · rename_i hs
              split at p2
              · rename_i j hj
                obtain ⟨u1, rfl, hu1⟩ := slrs1 s2
                obtain ⟨a', vs2, ha2, e2, hH2, hr2⟩ := lst_at r2 (SlR.mono f2 (show Mz.SlR ⟨X.K, cl⟩ ρ1 G1 (.l n) (.ref a) from ⟨a, ha1, rfl⟩)) e1
                cases e2
                obtain ⟨⟨z, hz1, hz2⟩, hno⟩ := firstD_at hj
                exact ⟨a, vs2, u1, d, ds, j, z, rfl, rfl, hH2, toDs_dp r2.ext xs vs2 ds eds hr2, toD_dp r2.ext w u1 d ed hu1, hs.2, hs.1, hz1, hz2, hno,
                  p2 ρ2 G2 _ .non (Fr.refl _ _) (r2.setl ha2 ⟨_, rfl, hr2.eraseIdx j⟩ (Store.lget_of e1) (fun z => by cases z)) (by unfold Mz.SlR Rep; rfl)⟩
              · exact p2.elim
            · exact p2.elim
          · exact p2.elim
        · exact p2.elim
      · exact p1.elim
    · exact p1.elim⟩
end
section
variable {env : Mz.Env} {st : Store} {o : ME} {a : MA} {x : Sl} {n : Nat} {xs : List W} {ys : List Sl}
def kRem1 (a : MA) (env : Mz.Env) (r : Res Sl) : Res Sl := r.bind fun x st1 => rem1 a env x st1
theorem e_rem : mRem o a env st = kRem1 a env (o env st) := rfl
end
end Mz

set_option Elab.async false
set_option linter.all false
set_option maxRecDepth 100000
set_option maxHeartbeats 4000000
namespace Mz
open PySem PySem.Spec PySem.Calls PyProof.Rows L2
def mDNewN : ME := fun _ st => .ok (.l st.l.length) (st.push (.dn [] []))
section
variable {X : Cx} {cl : Nat → Addr} {Wx : WX} {pos : Pos}
theorem ie_dnewN : IE X cl Wx (.Dict [] [] pos) mDNewN := by
  refine ⟨fun pins s σ H Q I ⟨env, ρ, G, st, rel, er, p⟩ => wpAny_Dict_empty ?_⟩
  have hp : H s.heap.objs.size = none := I.hok.fresh (Nat.le_refl _)
  have hsys : (s.heap.objs.size == sysModules) = false := by
    have : s.heap.objs.size ≠ sysModules := Nat.ne_of_gt (L2.Inv.big I)
    simpa using this
  have hN : NdR s.heap.objs.size [] (s.heap.push { cls := .type "dict", data := .dict #[] }) := ndR_nil (Heap.get?_push_size s.heap rfl)
  obtain ⟨f1, r1⟩ := rel.newL (o := NdO s.heap.objs.size []) (x := .dn [] []) hp ⟨_, [], [], rfl, ⟨fun x hx => absurd hx (List.not_mem_nil), Nat.zero_le _, hsys, ndR_code X.prog X.w hN⟩, rfl, Reps.nil, .nil, Reps.nil⟩
  refine ⟨.ref s.heap.objs.size, _, I.laid (t' := s.toks) (o := NdO s.heap.objs.size []) (fun b u e => Heap.get?_push_of_some _ e) (Nat.le_refl _) (nd_ok hN), rfl, p _ _ _ _ f1 r1 ⟨_, ?_, rfl⟩⟩
  show (ρ.l ++ [s.heap.objs.size])[st.l.length]? = some s.heap.objs.size
  rw [← rel.ll]; simp
end
theorem e_dnewN {env : Mz.Env} {st : Store} : mDNewN env st = .ok (.l st.l.length) (st.push (.dn [] [])) := rfl
end Mz

set_option Elab.async false
set_option linter.all false
set_option maxRecDepth 100000
set_option maxHeartbeats 4000000
namespace Mz
open PySem PySem.Spec PySem.Calls PyProof.Rows L2
section
variable {X : Cx} {cl : Nat → Addr} {Wx : WX} {cs : List (Nat × Bool)} {i : Nat} {a : Addr} {oe : Obj} {cls : Value} {d : Option Addr} {pn : List (Addr × Obj)} {e : Expr} {ss : List Stmt} {pos : Pos} {m : XE1} {mss : XS1}
end
end Mz

set_option Elab.async false
set_option linter.all false
set_option maxRecDepth 100000
set_option maxHeartbeats 4000000
namespace K77
open PySem Mz

abbrev N_Claimsu_initu : List Str := ["self", "table", "number"]
noncomputable def ce_Claimsu_initu_1 : ME :=
    (mOp opGe (mVar 2) (mC (.int 0)))
noncomputable def b_Claimsu_initu : MS :=
    (mSeq (mSetA [1] "table" (mVar 0) (mCall fTuple (mCons (mVar 1) mNil)))
    (mIfS (mOr (mTest (mOp (opIn true) (mCall fLen (mCons (mAttr [1] "table" (mVar 0)) mNil)) (mTup (mCons (mC (.int 2)) (mCons (mC (.int 4)) (mCons (mC (.int 8)) (mCons (mC (.int 16)) mNil))))))) (mNot (mTest (mCall (fAll fun bs => bs.all id) (mCons (mLc (mItS (mAttr [1] "table" (mVar 0))) (.nm 2) mYes ce_Claimsu_initu_1 [2]) mNil)))))
    (fun _ _ => .bad)
    mPass))
noncomputable def m_Claimsu_initu : MF := mFn 2 3 .ini b_Claimsu_initu
abbrev N_Claims_none : List Str := ["cls", "span", "_"]
noncomputable def ce_Claims_none_1 : ME :=
    (mC (.int 0))
noncomputable def b_Claims_none : MS :=
    (mRet (mMakeL 0 1 m_Claimsu_initu (mCons (mLc (mItR1 (mCons (mOp opShl (mC (.int 1)) (mVar 1)) mNil)) (.nm 2) mYes ce_Claims_none_1 [2]) mNil)))
noncomputable def m_Claims_none : MF := mFn 2 3 .tr b_Claims_none
abbrev N_Kind_car : List Str := ["self"]
noncomputable def b_Kind_car : MS :=
    (mRet (mTup (mCons (mAttr [5] "stay" (mVar 0)) (mCons (mAttr [5] "need" (mVar 0)) (mCons (mAttr [5] "stay" (mVar 0)) (mCons (mAttr [5] "need" (mVar 0)) mNil))))))
noncomputable def m_Kind_car : MF := mFn 1 1 .tr b_Kind_car
abbrev N_Yard_kind : List Str := ["self", "name", "kind"]
noncomputable def lb_Yard_kind_1 : MS :=
    (mIfS (mTest (mOp (opEq false) (mAttr [5] "name" (mVar 2)) (mVar 1)))
    (mRet (mVar 2))
    mPass)
noncomputable def b_Yard_kind : MS :=
    (mSeq (mFor (mItS (mAttr [6] "kinds" (mVar 0))) (.nm 2) lb_Yard_kind_1)
    (fun _ _ => .bad))
noncomputable def m_Yard_kind : MF := mFn 2 3 .tr b_Yard_kind
abbrev N_Yard_letter_count : List Str := ["self"]
noncomputable def b_Yard_letter_count : MS :=
    (mRet (mOp opAdd (mCall fLen (mCons (mAttr [6] "menu" (mVar 0)) mNil)) (mC (.int 1))))
noncomputable def m_Yard_letter_count : MF := mFn 1 1 .tr b_Yard_letter_count
abbrev N_Yard_batch : List Str := ["self", "letter", "name"]
noncomputable def ce_Yard_batch_1 : ME :=
    (mMeth 5 "car" m_Kind_car (mMeth 6 "kind" m_Yard_kind (mVar 0) (mCons (mVar 2) mNil)) mNil)
noncomputable def b_Yard_batch : MS :=
    (mSeq (mIfS (mNot (mTest (mChain opLe opLt (mC (.int 0)) (mVar 1) (mProp 6 m_Yard_letter_count (mVar 0)))))
    (fun _ _ => .bad)
    mPass)
    (mSeq (mIfS (mTest (mOp (opEq false) (mVar 1) (mC (.int 0))))
    (mRet (mLst mNil))
    mPass)
    (mRet (mLc (mItS (mOp opIx (mOp opIx (mAttr [6] "menu" (mVar 0)) (mOp opSub (mVar 1) (mC (.int 1)))) (mC (.int 1)))) (.nm 2) mYes ce_Yard_batch_1 [2]))))
noncomputable def m_Yard_batch : MF := mFn 2 3 .tr b_Yard_batch
abbrev N_after_answer : List Str := ["pairs", "answer", "others", "after", "left", "want", "pair"]
noncomputable def lb_after_answer_1 : MS :=
    (mSeq (mDrop (mRem (mVar 2) (mCons (mTup (mCons (mVar 4) (mCons (mVar 5) mNil))) mNil)))
    (mDrop (mLm lmAppend (mVar 3) (mCons (mTup (mCons (mOp opSub (mVar 4) (mC (.int 1))) (mCons (mOp opSub (mVar 5) (mC (.int 1))) mNil))) mNil))))
noncomputable def ce_after_answer_1 : ME :=
    (mTup (mCons (mOp opSub (mVar 4) (mC (.int 1))) (mCons (mVar 5) mNil)))
noncomputable def lb_after_answer_2 : MS :=
    (mIfS (mTest (mOp opGt (mVar 5) (mVar 4)))
    (mRet (mC .non))
    mPass)
noncomputable def ct_after_answer_1 : MT :=
    (mTest (mOp opGt (mOp opIx (mVar 6) (mC (.int 1))) (mC (.int 0))))
noncomputable def ce_after_answer_2 : ME :=
    (mVar 6)
noncomputable def b_after_answer : MS :=
    (mSeq (mAsg 2 (mCall fListM (mCons (mVar 0) mNil)))
    (mSeq (mAsg 3 (mLstM mNil))
    (mSeq (mFor (mItS (mVar 1)) (.tp [(.nm 4), (.nm 5)]) lb_after_answer_1)
    (mSeq (mAugL 3 (mLc (mItS (mVar 2)) (.tp [(.nm 4), (.nm 5)]) mYes ce_after_answer_1 [4, 5]))
    (mSeq (mFor (mItS (mVar 3)) (.tp [(.nm 4), (.nm 5)]) lb_after_answer_2)
    (mRet (mCall fTuple (mCons (mCall fSortD (mCons (mLc (mItS (mVar 3)) (.nm 6) ct_after_answer_1 ce_after_answer_2 [6]) mNil)) mNil))))))))
noncomputable def m_after_answer : MF := mFn 2 7 .tr b_after_answer
abbrev N_all_answers : List Str := ["pairs", "width", "found", "_", "different", "answer", "begin", "index"]
noncomputable def ce_all_answers_1 : ME :=
    (mTup (mCons (mOp opAdd (mVar 7) (mC (.int 1))) (mCons (mOp opAdd (mVar 5) (mTup (mCons (mOp opIx (mVar 0) (mVar 7)) mNil))) mNil)))
noncomputable def ci_all_answers_1 : MI :=
    (mItR2 (mCons (mVar 6) (mCons (mCall fLen (mCons (mVar 0) mNil)) mNil)))
noncomputable def lb_all_answers_1 : MS :=
    (mAsg 2 (mLc2 (mItS (mVar 2)) (.tp [(.nm 6), (.nm 5)]) mYes ci_all_answers_1 (.nm 7) mYes ce_all_answers_1 [6, 5, 7] [7]))
noncomputable def ce_all_answers_2 : ME :=
    (mC (.bl true))
noncomputable def ck_all_answers_1 : ME :=
    (mVar 5)
noncomputable def b_all_answers : MS :=
    (mSeq (mAsg 2 (mLst (mCons (mTup (mCons (mC (.int 0)) (mCons (mTup mNil) mNil))) mNil)))
    (mSeq (mFor (mItR1 (mCons (mCall fMin2 (mCons (mVar 1) (mCons (mCall fLen (mCons (mVar 0) mNil)) mNil))) mNil)) (.nm 3) lb_all_answers_1)
    (mSeq (mAsg 4 (mDcN (mItS (mVar 2)) (.tp [(.nm 3), (.nm 5)]) mYes ck_all_answers_1 ce_all_answers_2 [3, 5]))
    (mRet (mCall fSortD (mCons (mCall fListDn (mCons (mVar 4) mNil)) mNil))))))
noncomputable def m_all_answers : MF := mFn 2 8 .tr b_all_answers
abbrev N_Claimsu_addu : List Str := ["self", "other", "one", "two"]
noncomputable def ce_Claimsu_addu_1 : ME :=
    (mOp opAdd (mVar 2) (mVar 3))
noncomputable def b_Claimsu_addu : MS :=
    (mSeq (mIfS (mNot (mTest (mIsCl [(1, true)] ["NoneType", "int"] (mVar 1))))
    (fun _ _ => .bad)
    mPass)
    (mSeq (mIfS (mTest (mOp (opEq true) (mCall fLen (mCons (mAttr [1] "table" (mVar 0)) mNil)) (mCall fLen (mCons (mAttr [1] "table" (mVar 1)) mNil))))
    (fun _ _ => .bad)
    mPass)
    (mRet (mMake 1 m_Claimsu_initu (mCons (mLc (mItZ (mCons (mAttr [1] "table" (mVar 0)) (mCons (mAttr [1] "table" (mVar 1)) mNil))) (.tp [(.nm 2), (.nm 3)]) mYes ce_Claimsu_addu_1 [2, 3]) mNil)))))
noncomputable def m_Claimsu_addu : MF := mFn 2 4 .tr b_Claimsu_addu
abbrev N_Claimsu_rshiftu : List Str := ["self", "width", "lows", "mask", "low"]
noncomputable def ce_Claimsu_rshiftu_1 : ME :=
    (mOp opMod (mOp opMul (mC (.int 2)) (mVar 3)) (mCall fLen (mCons (mAttr [1] "table" (mVar 0)) mNil)))
noncomputable def ce_Claimsu_rshiftu_2 : ME :=
    (mCall fMax2 (mCons (mOp opIx (mAttr [1] "table" (mVar 0)) (mVar 4)) (mCons (mOp opSub (mOp opIx (mAttr [1] "table" (mVar 0)) (mOp opAdd (mVar 4) (mC (.int 1)))) (mVar 1)) mNil)))
noncomputable def b_Claimsu_rshiftu : MS :=
    (mSeq (mIfS (mNot (mTest (mIsTy "int" (mVar 1))))
    (fun _ _ => .bad)
    mPass)
    (mSeq (mAsg 2 (mLc (mItR1 (mCons (mCall fLen (mCons (mAttr [1] "table" (mVar 0)) mNil)) mNil)) (.nm 3) mYes ce_Claimsu_rshiftu_1 [3]))
    (mRet (mMake 1 m_Claimsu_initu (mCons (mLc (mItS (mVar 2)) (.nm 4) mYes ce_Claimsu_rshiftu_2 [4]) mNil)))))
noncomputable def m_Claimsu_rshiftu : MF := mFn 2 5 .tr b_Claimsu_rshiftu
abbrev N_hours_in : List Str := ["mask", "count"]
noncomputable def wt_hours_in_1 : MT :=
    (mTest (mOp opGt (mVar 0) (mC (.int 0))))
noncomputable def wb_hours_in_1 : MS :=
    (mSeq (mAug 1 (fun i j => i + j) (mOp opMod (mVar 0) (mC (.int 2))))
    (mAsg 0 (mOp opDiv (mVar 0) (mC (.int 2)))))
noncomputable def b_hours_in : MS :=
    (mSeq (mAsg 1 (mC (.int 0)))
    (mSeq (mWhile wt_hours_in_1 wb_hours_in_1)
    (mRet (mVar 1))))
noncomputable def m_hours_in : MF := mFn 1 2 .tr b_hours_in
abbrev N_Claims_over : List Str := ["self", "width", "mask", "number"]
noncomputable def lb_Claims_over_1 : MS :=
    (mIfS (mTest (mOp opGt (mVar 3) (mOp opMul (mVar 1) (mCall m_hours_in (mCons (mVar 2) mNil)))))
    (mRet (mVar 2))
    mPass)
noncomputable def b_Claims_over : MS :=
    (mSeq (mFor (mItE (mCons (mAttr [1] "table" (mVar 0)) mNil)) (.tp [(.nm 2), (.nm 3)]) lb_Claims_over_1)
    (mRet (mC .non)))
noncomputable def m_Claims_over : MF := mFn 2 4 .tr b_Claims_over
abbrev N_Claims_fits : List Str := ["self", "width"]
noncomputable def b_Claims_fits : MS :=
    (mRet (mOp (opIsN false) (mMeth 1 "over" m_Claims_over (mVar 0) (mCons (mVar 1) mNil)) (mC .non)))
noncomputable def m_Claims_fits : MF := mFn 2 2 .tr b_Claims_fits
abbrev N_car_demand : List Str := ["car", "mask", "left", "want", "inside"]
noncomputable def b_car_demand : MS :=
    (mSeq (mPar 2 3 (mCons (mOp opIx (mVar 0) (mC (.int 2))) (mCons (mOp opIx (mVar 0) (mC (.int 3))) mNil)))
    (mSeq (mAsg 4 (mCall m_hours_in (mCons (mOp opMod (mVar 1) (mOp opShl (mC (.int 1)) (mVar 2))) mNil)))
    (mRet (mCall fMax2 (mCons (mC (.int 0)) (mCons (mOp opSub (mVar 3) (mOp opSub (mVar 2) (mVar 4))) mNil))))))
noncomputable def m_car_demand : MF := mFn 2 5 .tr b_car_demand
abbrev N_Claims_of : List Str := ["cls", "span", "cars", "mask", "car"]
noncomputable def ce_Claims_of_1 : ME :=
    (mCall m_car_demand (mCons (mVar 4) (mCons (mVar 3) mNil)))
noncomputable def ce_Claims_of_2 : ME :=
    (mCall fSum (mCons (mLc (mItS (mVar 2)) (.nm 4) mYes ce_Claims_of_1 [4]) mNil))
noncomputable def b_Claims_of : MS :=
    (mRet (mMakeL 0 1 m_Claimsu_initu (mCons (mLc (mItR1 (mCons (mOp opShl (mC (.int 1)) (mVar 1)) mNil)) (.nm 3) mYes ce_Claims_of_2 [3]) mNil)))
noncomputable def m_Claims_of : MF := mFn 3 5 .tr b_Claims_of
abbrev N_Yard_span : List Str := ["self", "kind"]
noncomputable def ce_Yard_span_1 : ME :=
    (mAttr [5] "stay" (mVar 1))
noncomputable def b_Yard_span : MS :=
    (mRet (mCall fMaxL (mCons (mLc (mItS (mAttr [6] "kinds" (mVar 0))) (.nm 1) mYes ce_Yard_span_1 [1]) mNil)))
noncomputable def m_Yard_span : MF := mFn 1 2 .tr b_Yard_span
abbrev N_next_claims : List Str := ["yard", "claims", "letter", "total"]
noncomputable def b_next_claims : MS :=
    (mSeq (mAsg 3 (mOp (opOwn 1 m_Claimsu_addu) (mVar 1) (mCMeth 1 m_Claims_of (mCons (mProp 6 m_Yard_span (mVar 0)) (mCons (mMeth 6 "batch" m_Yard_batch (mVar 0) (mCons (mVar 2) mNil)) mNil)))))
    (mSeq (mIfS (mNot (mTest (mMeth 1 "fits" m_Claims_fits (mVar 3) (mCons (mAttr [6] "width" (mVar 0)) mNil))))
    (mRet (mC .non))
    mPass)
    (mRet (mOp (opOwnT 1 "int" m_Claimsu_rshiftu) (mVar 3) (mAttr [6] "width" (mVar 0))))))
noncomputable def m_next_claims : MF := mFn 3 4 .tr b_next_claims
abbrev N_pairs_of : List Str := ["cars", "car"]
noncomputable def ce_pairs_of_1 : ME :=
    (mTup (mCons (mOp opIx (mVar 1) (mC (.int 2))) (mCons (mOp opIx (mVar 1) (mC (.int 3))) mNil)))
noncomputable def b_pairs_of : MS :=
    (mRet (mCall fTuple (mCons (mCall fSortD (mCons (mLc (mItS (mVar 0)) (.nm 1) mYes ce_pairs_of_1 [1]) mNil)) mNil)))
noncomputable def m_pairs_of : MF := mFn 1 2 .tr b_pairs_of
abbrev N_Gameuanswers_of : List Str := ["self", "state", "letter", "claims", "pairs", "answers", "answer", "after"]
noncomputable def lb_Gameuanswers_of_1 : MS :=
    (mSeq (mAsg 7 (mCall m_after_answer (mCons (mVar 4) (mCons (mVar 6) mNil))))
    (mDrop (mLm lmAppend (mVar 5) (mCons (mTup (mCons (mVar 6) (mCons (mIf (mTest (mOp (opIsN false) (mVar 7) (mC .non))) (mC .non) (mTup (mCons (mVar 7) (mCons (mAttr [1] "table" (mVar 3)) mNil)))) mNil))) mNil))))
noncomputable def b_Gameuanswers_of : MS :=
    (mSeq (mAsg 3 (mCall m_next_claims (mCons (mAttr [11] "yard" (mVar 0)) (mCons (mMake 1 m_Claimsu_initu (mCons (mOp opIx (mVar 1) (mC (.int 1))) mNil)) (mCons (mVar 2) mNil)))))
    (mSeq (mIfS (mTest (mOp (opIsN false) (mVar 3) (mC .non)))
    (mRet (mC .non))
    mPass)
    (mSeq (mAsg 4 (mCall fTuple (mCons (mCall fSortD (mCons (mOp opAdd (mCall fList (mCons (mOp opIx (mVar 1) (mC (.int 0))) mNil)) (mCall fList (mCons (mCall m_pairs_of (mCons (mMeth 6 "batch" m_Yard_batch (mAttr [11] "yard" (mVar 0)) (mCons (mVar 2) mNil)) mNil)) mNil))) mNil)) mNil)))
    (mSeq (mAsg 5 (mLstM mNil))
    (mSeq (mFor (mItS (mCall m_all_answers (mCons (mVar 4) (mCons (mAttr [6] "width" (mAttr [11] "yard" (mVar 0))) mNil)))) (.nm 6) lb_Gameuanswers_of_1)
    (mRet (mVar 5)))))))
noncomputable def m_Gameuanswers_of : MF := mFn 3 8 .tr b_Gameuanswers_of
abbrev N_Gameuexplore : List Str := ["self", "state", "most", "entry", "letter", "answers", "_", "after"]
noncomputable def lb_Gameuexplore_1 : MS :=
    (mIfS (mAnd (mTest (mOp (opIsN true) (mVar 7) (mC .non))) (mTest (mOp (opNin true) (mVar 7) (mAttr [11] "_found" (mVar 0)))))
    (mSeq (mIfS (mTest (mOp (opEq false) (mCall fLen (mCons (mAttr [11] "_states" (mVar 0)) mNil)) (mVar 2)))
    (mRaise1 31 "most" (mVar 2))
    mPass)
    (mSeq (mSetN (mAttr [11] "_found" (mVar 0)) (mVar 7) (mC (.bl true)))
    (mDrop (mLm lmAppend (mAttr [11] "_states" (mVar 0)) (mCons (mVar 7) mNil)))))
    mPass)
noncomputable def lb_Gameuexplore_2 : MS :=
    (mSeq (mAsg 5 (mMeth 11 "_answers_of" m_Gameuanswers_of (mVar 0) (mCons (mVar 1) (mCons (mVar 4) mNil))))
    (mSeq (mDrop (mLm lmAppend (mVar 3) (mCons (mVar 5) mNil)))
    (mFor (mItS (mIf (mTest (mOp (opIsN true) (mVar 5) (mC .non))) (mVar 5) (mLst mNil))) (.tp [(.nm 6), (.nm 7)]) lb_Gameuexplore_1)))
noncomputable def b_Gameuexplore : MS :=
    (mSeq (mAsg 3 (mLstM mNil))
    (mSeq (mFor (mItR1 (mCons (mProp 6 m_Yard_letter_count (mAttr [11] "yard" (mVar 0))) mNil)) (.nm 4) lb_Gameuexplore_2)
    (mRet (mVar 3))))
noncomputable def m_Gameuexplore : MF := mFn 3 8 .tr b_Gameuexplore
abbrev N_Gameuthreat_of : List Str := ["self", "state", "letter", "answers", "safe", "_", "after"]
noncomputable def ct_Gameuthreat_of_1 : MT :=
    (mAnd (mTest (mOp (opIsN true) (mVar 6) (mC .non))) (mTest (mOp (opNin true) (mVar 6) (mAttr [11] "_ranks" (mVar 0)))))
noncomputable def ce_Gameuthreat_of_1 : ME :=
    (mVar 6)
noncomputable def lb_Gameuthreat_of_1 : MS :=
    (mIfS (mTest (mOp (opIsN true) (mVar 3) (mC .non)))
    (mSeq (mAsg 4 (mLc (mItS (mVar 3)) (.tp [(.nm 5), (.nm 6)]) ct_Gameuthreat_of_1 ce_Gameuthreat_of_1 [5, 6]))
    (mIfS (mTest (mOp (opEq false) (mVar 4) (mLst mNil)))
    (mRet (mVar 2))
    mPass))
    mPass)
noncomputable def b_Gameuthreat_of : MS :=
    (mSeq (mFor (mItE (mCons (mOp opIx (mAttr [11] "_answers" (mVar 0)) (mOp opNix (mAttr [11] "_numbers" (mVar 0)) (mVar 1))) mNil)) (.tp [(.nm 2), (.nm 3)]) lb_Gameuthreat_of_1)
    (mRet (mC .non)))
noncomputable def m_Gameuthreat_of : MF := mFn 2 7 .tr b_Gameuthreat_of
abbrev N_Gameunew_threats : List Str := ["self", "threats", "state", "letter"]
noncomputable def lb_Gameunew_threats_1 : MS :=
    (mIfS (mTest (mOp (opNin true) (mVar 2) (mAttr [11] "_ranks" (mVar 0))))
    (mSeq (mAsg 3 (mMeth 11 "_threat_of" m_Gameuthreat_of (mVar 0) (mCons (mVar 2) mNil)))
    (mIfS (mTest (mOp (opIsN true) (mVar 3) (mC .non)))
    (mDrop (mLm lmAppend (mVar 1) (mCons (mTup (mCons (mVar 2) (mCons (mVar 3) mNil))) mNil)))
    mPass))
    mPass)
noncomputable def b_Gameunew_threats : MS :=
    (mSeq (mAsg 1 (mLstM mNil))
    (mSeq (mFor (mItS (mAttr [11] "_states" (mVar 0))) (.nm 2) lb_Gameunew_threats_1)
    (mRet (mVar 1))))
noncomputable def m_Gameunew_threats : MF := mFn 1 4 .tr b_Gameunew_threats
abbrev N_Gameurank_states : List Str := ["self", "rank", "threats", "state", "letter"]
noncomputable def lb_Gameurank_states_1 : MS :=
    (mSeq (mSetN (mAttr [11] "_ranks" (mVar 0)) (mVar 3) (mVar 1))
    (mSetN (mAttr [11] "_threats" (mVar 0)) (mVar 3) (mVar 4)))
noncomputable def wt_Gameurank_states_1 : MT :=
    (mTest (mOp opGt (mCall fLen (mCons (mVar 2) mNil)) (mC (.int 0))))
noncomputable def wb_Gameurank_states_1 : MS :=
    (mSeq (mFor (mItS (mVar 2)) (.tp [(.nm 3), (.nm 4)]) lb_Gameurank_states_1)
    (mSeq (mAug 1 (fun i j => i + j) (mC (.int 1)))
    (mAsg 2 (mMeth 11 "_new_threats" m_Gameunew_threats (mVar 0) mNil))))
noncomputable def b_Gameurank_states : MS :=
    (mSeq (mAsg 1 (mC (.int 1)))
    (mSeq (mAsg 2 (mMeth 11 "_new_threats" m_Gameunew_threats (mVar 0) mNil))
    (mWhile wt_Gameurank_states_1 wb_Gameurank_states_1)))
noncomputable def m_Gameurank_states : MF := mFn 1 5 .tr b_Gameurank_states
abbrev N_Gameu_initu : List Str := ["self", "yard", "most", "state"]
noncomputable def wt_Gameu_initu_1 : MT :=
    (mTest (mOp opLt (mCall fLen (mCons (mAttr [11] "_answers" (mVar 0)) mNil)) (mCall fLen (mCons (mAttr [11] "_states" (mVar 0)) mNil))))
noncomputable def wb_Gameu_initu_1 : MS :=
    (mSeq (mAsg 3 (mOp opIx (mAttr [11] "_states" (mVar 0)) (mCall fLen (mCons (mAttr [11] "_answers" (mVar 0)) mNil))))
    (mSeq (mSetN (mAttr [11] "_numbers" (mVar 0)) (mVar 3) (mCall fLen (mCons (mAttr [11] "_answers" (mVar 0)) mNil)))
    (mDrop (mLm lmAppend (mAttr [11] "_answers" (mVar 0)) (mCons (mMeth 11 "_explore" m_Gameuexplore (mVar 0) (mCons (mVar 3) (mCons (mVar 2) mNil))) mNil)))))
noncomputable def b_Gameu_initu : MS :=
    (mSeq (mSetA [11] "yard" (mVar 0) (mVar 1))
    (mSeq (mSetA [11] "_states" (mVar 0) (mLstM (mCons (mTup (mCons (mTup mNil) (mCons (mAttr [1] "table" (mCMeth 1 m_Claims_none (mCons (mProp 6 m_Yard_span (mVar 1)) mNil))) mNil))) mNil)))
    (mSeq (mSetA [11] "_found" (mVar 0) (mDispN (mOp opIx (mAttr [11] "_states" (mVar 0)) (mC (.int 0))) (mC (.bl true))))
    (mSeq (mSetA [11] "_answers" (mVar 0) (mLstM mNil))
    (mSeq (mSetA [11] "_numbers" (mVar 0) mDNewN)
    (mSeq (mWhile wt_Gameu_initu_1 wb_Gameu_initu_1)
    (mSeq (mSetA [11] "_ranks" (mVar 0) mDNewN)
    (mSeq (mSetA [11] "_threats" (mVar 0) mDNewN)
    (mDrop (mMeth 11 "_rank_states" m_Gameurank_states (mVar 0) mNil))))))))))
noncomputable def m_Gameu_initu : MF := mFn 3 4 .kp b_Gameu_initu
abbrev N_Gameu_lenu : List Str := ["self"]
noncomputable def b_Gameu_lenu : MS :=
    (mRet (mCall fLen (mCons (mAttr [11] "_states" (mVar 0)) mNil)))
noncomputable def m_Gameu_lenu : MF := mFn 1 1 .tr b_Gameu_lenu
abbrev N_Game_holds : List Str := ["self"]
noncomputable def b_Game_holds : MS :=
    (mRet (mOp (opNin true) (mOp opIx (mAttr [11] "_states" (mVar 0)) (mC (.int 0))) (mAttr [11] "_ranks" (mVar 0))))
noncomputable def m_Game_holds : MF := mFn 1 1 .tr b_Game_holds
abbrev N_law_cell : List Str := ["_law_script", "_law_at"]
noncomputable def b_law_cell : MS :=
    (mSeq (mIfS (mTest (mOp opLt (mVar 1) (mCall fLen (mCons (mVar 0) mNil))))
    (mRet (mCall fAbs (mCons (mCall fInt (mCons (mOp opIx (mVar 0) (mVar 1)) mNil)) mNil)))
    mPass)
    (mRet (mC (.int 0))))
noncomputable def m_law_cell : MF := mFn 2 2 .tr b_law_cell
abbrev N_law_take : List Str := ["_law_pool_here", "_law_many", "_law_digit", "_law_mixed"]
noncomputable def b_law_take : MS :=
    (mSeq (mSetI (mVar 0) (mC (.int 2)) (mOp opAdd (mOp opIx (mVar 0) (mC (.int 2))) (mC (.int 1))))
    (mSeq (mIfS (mTest (mOp opGt (mOp opIx (mVar 0) (mC (.int 0))) (mC (.int 0))))
    (mSeq (mAsg 2 (mOp opMod (mCall fInt (mCons (mOp opIx (mVar 0) (mC (.int 0))) mNil)) (mVar 1)))
    (mSeq (mSetI (mVar 0) (mC (.int 0)) (mOp opDiv (mOp opIx (mVar 0) (mC (.int 0))) (mVar 1)))
    (mRet (mVar 2))))
    mPass)
    (mSeq (mAsg 3 (mOp opMod (mCall fInt (mCons (mOp opMul (mOp opAdd (mOp opIx (mVar 0) (mC (.int 1))) (mOp opMul (mC (.int 7919)) (mOp opIx (mVar 0) (mC (.int 2))))) (mC (.int 48271))) mNil)) (mC (.int 2147483647))))
    (mSeq (mAsg 3 (mOp opMod (mCall fInt (mCons (mOp opAdd (mOp opMul (mVar 3) (mC (.int 69621))) (mOp opMul (mC (.int 40692)) (mOp opIx (mVar 0) (mC (.int 2))))) mNil)) (mC (.int 2147483399))))
    (mRet (mOp opMod (mCall fInt (mCons (mOp opDiv (mVar 3) (mC (.int 7))) mNil)) (mVar 1)))))))
noncomputable def m_law_take : MF := mFn 2 4 .tr b_law_take
abbrev N_law_names : List Str := ["_law_pool_here", "_law_many", "_law_letters", "_law_size", "_law_place", "_law_shift", "_law_short", "_law_k", "_law_rest", "_law_names_here", "_law_row"]
noncomputable def ce_law_names_1 : ME :=
    (mOp opIx (mVar 2) (mCall m_law_take (mCons (mVar 0) (mCons (mC (.int 26)) mNil))))
noncomputable def lb_law_names_1 : MS :=
    (mSeq (mAsg 10 (mCall fListM (mCons (mVar 8) mNil)))
    (mSeq (mSetI (mVar 10) (mVar 4) (mOp opIx (mVar 2) (mOp opMod (mCall fInt (mCons (mOp opAdd (mVar 5) (mVar 7)) mNil)) (mC (.int 26)))))
    (mSeq (mIfS (mTest (mOp (opEq false) (mVar 6) (mC (.int 1))))
    (mAsg 10 (mSl (mVar 10) mNo (mPart (mOp opAdd (mOp opAdd (mVar 4) (mC (.int 1))) (mOp opMod (mCall fInt (mCons (mVar 7) mNil)) (mOp opSub (mVar 3) (mVar 4)))))))
    mPass)
    (mDrop (mLm lmAppend (mVar 9) (mCons (mJoin (mC (.str (PySem.Str.ofString ""))) (mVar 10)) mNil))))))
noncomputable def b_law_names : MS :=
    (mSeq (mAsg 2 (mC (.str (PySem.Str.ofString "abcdefghijklmnopqrstuvwxyz"))))
    (mSeq (mAsg 3 (mOp opAdd (mC (.int 1)) (mCall m_law_take (mCons (mVar 0) (mCons (mC (.int 8)) mNil)))))
    (mSeq (mAsg 4 (mCall m_law_take (mCons (mVar 0) (mCons (mVar 3) mNil))))
    (mSeq (mAsg 5 (mCall m_law_take (mCons (mVar 0) (mCons (mC (.int 26)) mNil))))
    (mSeq (mAsg 6 (mCall m_law_take (mCons (mVar 0) (mCons (mC (.int 2)) mNil))))
    (mSeq (mAsg 8 (mLc (mItR1 (mCons (mVar 3) mNil)) (.nm 7) mYes ce_law_names_1 [7]))
    (mSeq (mAsg 9 (mLstM mNil))
    (mSeq (mFor (mItR1 (mCons (mVar 1) mNil)) (.nm 7) lb_law_names_1)
    (mRet (mVar 9))))))))))
noncomputable def m_law_names : MF := mFn 2 11 .tr b_law_names
abbrev N_law_foe : List Str := ["_law_pool_here", "_law_names_here", "_law_kinds", "_law_first", "_law_batches_here", "_law_menu", "_law_shift"]
noncomputable def b_law_foe : MS :=
    (mSeq (mAsg 1 (mCall m_law_names (mCons (mVar 0) (mCons (mC (.int 3)) mNil))))
    (mSeq (mAsg 2 (mLst (mCons (mTup (mCons (mOp opIx (mVar 1) (mC (.int 0))) (mCons (mC (.int 2)) (mCons (mC (.int 1)) mNil)))) (mCons (mTup (mCons (mOp opIx (mVar 1) (mC (.int 1))) (mCons (mC (.int 4)) (mCons (mC (.int 2)) mNil)))) (mCons (mTup (mCons (mOp opIx (mVar 1) (mC (.int 2))) (mCons (mC (.int 1)) (mCons (mC (.int 1)) mNil)))) mNil)))))
    (mSeq (mAsg 3 (mOp opIx (mLst (mCons (mLst (mCons (mOp opIx (mVar 1) (mC (.int 0))) (mCons (mOp opIx (mVar 1) (mC (.int 0))) (mCons (mOp opIx (mVar 1) (mC (.int 1))) mNil)))) (mCons (mLst (mCons (mOp opIx (mVar 1) (mC (.int 0))) (mCons (mOp opIx (mVar 1) (mC (.int 1))) (mCons (mOp opIx (mVar 1) (mC (.int 0))) mNil)))) mNil))) (mCall m_law_take (mCons (mVar 0) (mCons (mC (.int 2)) mNil)))))
    (mSeq (mAsg 4 (mCall m_law_names (mCons (mVar 0) (mCons (mC (.int 3)) mNil))))
    (mSeq (mAsg 5 (mLstM (mCons (mTup (mCons (mOp opIx (mVar 4) (mC (.int 0))) (mCons (mVar 3) mNil))) (mCons (mTup (mCons (mOp opIx (mVar 4) (mC (.int 1))) (mCons (mLst (mCons (mOp opIx (mVar 1) (mC (.int 2))) (mCons (mOp opIx (mVar 1) (mC (.int 2))) mNil))) mNil))) mNil))))
    (mSeq (mIfS (mTest (mOp (opEq false) (mCall m_law_take (mCons (mVar 0) (mCons (mC (.int 2)) mNil))) (mC (.int 1))))
    (mAsg 5 (mLstM (mCons (mOp opIx (mVar 5) (mC (.int 1))) (mCons (mOp opIx (mVar 5) (mC (.int 0))) mNil))))
    mPass)
    (mSeq (mIfS (mTest (mOp (opEq false) (mCall m_law_take (mCons (mVar 0) (mCons (mC (.int 3)) mNil))) (mC (.int 1))))
    (mDrop (mLm lmAppend (mVar 5) (mCons (mTup (mCons (mOp opIx (mVar 4) (mC (.int 2))) (mCons (mLst (mCons (mOp opIx (mVar 1) (mCall m_law_take (mCons (mVar 0) (mCons (mC (.int 3)) mNil)))) mNil)) mNil))) mNil)))
    mPass)
    (mSeq (mAsg 6 (mCall m_law_take (mCons (mVar 0) (mCons (mC (.int 3)) mNil))))
    (mRet (mLst (mCons (mC (.int 2)) (mCons (mOp opAdd (mSl (mVar 2) (mPart (mVar 6)) mNo) (mSl (mVar 2) mNo (mPart (mVar 6)))) (mCons (mFz (mVar 5)) mNil)))))))))))))
noncomputable def m_law_foe : MF := mFn 1 7 .tr b_law_foe
abbrev N_Gameucheck : List Str := ["self", "state"]
noncomputable def b_Gameucheck : MS :=
    (mIfS (mTest (mOp (opNin true) (mVar 1) (mAttr [11] "_found" (mVar 0))))
    (mRaise 30)
    mPass)
noncomputable def m_Gameucheck : MF := mFn 2 2 .tr b_Gameucheck
abbrev N_Game_threat : List Str := ["self", "state"]
noncomputable def b_Game_threat : MS :=
    (mSeq (mDrop (mMeth 11 "_check" m_Gameucheck (mVar 0) (mCons (mVar 1) mNil)))
    (mRet (mGetN1 (mAttr [11] "_threats" (mVar 0)) (mVar 1))))
noncomputable def m_Game_threat : MF := mFn 2 2 .tr b_Game_threat
abbrev N_law_falls : List Str := ["_law_ranks", "_law_rank_here", "_law_one"]
noncomputable def lb_law_falls_1 : MS :=
    (mIfS (mOr (mTest (mOp (opIsN false) (mVar 2) (mC .non))) (mOr (mTest (mOp opLt (mVar 2) (mC (.int 1)))) (mTest (mOp opGe (mVar 2) (mVar 1)))))
    (mRet (mC (.bl false)))
    mPass)
noncomputable def b_law_falls : MS :=
    (mSeq (mFor (mItS (mVar 0)) (.nm 2) lb_law_falls_1)
    (mRet (mC (.bl true))))
noncomputable def m_law_falls : MF := mFn 2 3 .tr b_law_falls
abbrev N_Gameu_containsu : List Str := ["self", "state"]
noncomputable def b_Gameu_containsu : MS :=
    (mRet (mOp (opNin false) (mVar 1) (mAttr [11] "_found" (mVar 0))))
noncomputable def m_Gameu_containsu : MF := mFn 2 2 .tr b_Gameu_containsu
abbrev N_Game_rank : List Str := ["self", "state"]
noncomputable def b_Game_rank : MS :=
    (mSeq (mDrop (mMeth 11 "_check" m_Gameucheck (mVar 0) (mCons (mVar 1) mNil)))
    (mRet (mGetN2 (mAttr [11] "_ranks" (mVar 0)) (mVar 1) (mC (.int 0)))))
noncomputable def m_Game_rank : MF := mFn 2 2 .tr b_Game_rank
abbrev N_law_rank : List Str := ["_law_told", "_law_state_here", "_law_rank_here"]
noncomputable def b_law_rank : MS :=
    (mSeq (mIfS (mTest (mOp (fun x y st => if isCl 11 st y = true then inOwn true 11 m_Gameu_containsu x y st else (opIn true) x y st) (mVar 1) (mVar 0)))
    (mRet (mC .non))
    mPass)
    (mSeq (mAsg 2 (mMeth 11 "rank" m_Game_rank (mVar 0) (mCons (mVar 1) mNil)))
    (mSeq (mIfS (mOr (mNot (mTest (mIsTy "int" (mVar 2)))) (mOr (mTest (mIsTy "bool" (mVar 2))) (mTest (mOp opLt (mVar 2) (mC (.int 0))))))
    (mRet (mC .non))
    mPass)
    (mRet (mVar 2)))))
noncomputable def m_law_rank : MF := mFn 2 3 .tr b_law_rank
abbrev N_law_state : List Str := ["_law_state_here"]
noncomputable def b_law_state : MS :=
    (mRet (mTup (mCons (mCall fTuple (mCons (mOp opIx (mVar 0) (mC (.int 0))) mNil)) (mCons (mCall fTuple (mCons (mOp opIx (mVar 0) (mC (.int 1))) mNil)) mNil))))
noncomputable def m_law_state : MF := mFn 1 1 .tr b_law_state
abbrev N_law_next_ranks : List Str := ["_law_told", "_law_rows", "_law_ranks", "_law_row"]
noncomputable def lb_law_next_ranks_1 : MS :=
    (mIfS (mTest (mOp (opIsN true) (mOp opIx (mVar 3) (mC (.int 1))) (mC .non)))
    (mDrop (mLm lmAppend (mVar 2) (mCons (mCall m_law_rank (mCons (mVar 0) (mCons (mCall m_law_state (mCons (mOp opIx (mVar 3) (mC (.int 1))) mNil)) mNil))) mNil)))
    mPass)
noncomputable def b_law_next_ranks : MS :=
    (mSeq (mAsg 2 (mLstM mNil))
    (mSeq (mFor (mItS (mVar 1)) (.nm 3) lb_law_next_ranks_1)
    (mRet (mVar 2))))
noncomputable def m_law_next_ranks : MF := mFn 2 4 .tr b_law_next_ranks
abbrev N_law_one_less : List Str := ["_law_ranks", "_law_rank_here"]
noncomputable def b_law_one_less : MS :=
    (mRet (mOrV (mOp (opEq false) (mVar 1) (mC (.int 1))) (mOp (opIn false) (mOp opSub (mVar 1) (mC (.int 1))) (mVar 0))))
noncomputable def m_law_one_less : MF := mFn 2 2 .tr b_law_one_less
abbrev N_law_same : List Str := ["_law_told", "_law_due", "_law_k"]
noncomputable def b_law_same (self : MF) : MS :=
    (mSeq (mIfS (mTest (mOp (opIsN false) (mVar 1) (mC .non)))
    (mRet (mOp (opIsN false) (mVar 0) (mC .non)))
    mPass)
    (mSeq (mIfS (mTest (mOp (opIsN false) (mVar 1) (mC (.bl true))))
    (mRet (mOp (opIsN false) (mVar 0) (mC (.bl true))))
    mPass)
    (mSeq (mIfS (mTest (mOp (opIsN false) (mVar 1) (mC (.bl false))))
    (mRet (mOp (opIsN false) (mVar 0) (mC (.bl false))))
    mPass)
    (mSeq (mIfS (mTest (mIsTy "int" (mVar 1)))
    (mRet (mAndV (mIsTy "int" (mVar 0)) (mAndV (mNotV (mIsTy "bool" (mVar 0))) (mOp (opEq false) (mVar 0) (mVar 1)))))
    mPass)
    (mSeq (mIfS (mTest (mIsTy "str" (mVar 1)))
    (mRet (mAndV (mIsTy "str" (mVar 0)) (mOp (opEq false) (mVar 0) (mVar 1))))
    mPass)
    (mSeq (mIfS (mAnd (mTest (mIsTy "tuple" (mVar 1))) (mNot (mTest (mIsTy "tuple" (mVar 0)))))
    (mRet (mC (.bl false)))
    mPass)
    (mSeq (mIfS (mAnd (mTest (mIsTy "list" (mVar 1))) (mNot (mTest (mIsTy "list" (mVar 0)))))
    (mRet (mC (.bl false)))
    mPass)
    (mSeq (mIfS (mTest (mOp (opEq true) (mCall fLen (mCons (mVar 0) mNil)) (mCall fLen (mCons (mVar 1) mNil))))
    (mRet (mC (.bl false)))
    mPass)
    (mSeq (mFor (mItR1 (mCons (mCall fLen (mCons (mVar 1) mNil)) mNil)) (.nm 2) (mIfS (mNot (mTest (mCall self (mCons (mOp opIx (mVar 0) (mVar 2)) (mCons (mOp opIx (mVar 1) (mVar 2)) mNil)))))
    (mRet (mC (.bl false)))
    mPass))
    (mRet (mC (.bl true))))))))))))
noncomputable def r_law_same : Nat → MF
  | 0 => fun _ _ => .bad
  | n + 1 => mFn 2 3 .tr (b_law_same (r_law_same n))
noncomputable abbrev m_law_same : MF := r_law_same 12
abbrev N_law_ahead : List Str := ["_law_one", "_law_two", "_law_k"]
noncomputable def lb_law_ahead_1 : MS :=
    (mIfS (mTest (mOp (opEq true) (mOp opIx (mVar 0) (mVar 2)) (mOp opIx (mVar 1) (mVar 2))))
    (mRet (mOp opLt (mOp opIx (mVar 0) (mVar 2)) (mOp opIx (mVar 1) (mVar 2))))
    mPass)
noncomputable def b_law_ahead : MS :=
    (mSeq (mFor (mItR1 (mCons (mCall fLen (mCons (mVar 0) mNil)) mNil)) (.nm 2) lb_law_ahead_1)
    (mRet (mC (.bl false))))
noncomputable def m_law_ahead : MF := mFn 2 3 .tr b_law_ahead
abbrev N_law_pairs : List Str := ["_law_cars", "_law_pairs_here", "_law_car", "_law_at"]
noncomputable def wt_law_pairs_1 : MT :=
    (mAnd (mTest (mOp opLt (mVar 3) (mCall fLen (mCons (mVar 1) mNil)))) (mNot (mTest (mCall m_law_ahead (mCons (mTup (mCons (mOp opIx (mVar 2) (mC (.int 2))) (mCons (mOp opIx (mVar 2) (mC (.int 3))) mNil))) (mCons (mOp opIx (mVar 1) (mVar 3)) mNil))))))
noncomputable def wb_law_pairs_1 : MS :=
    (mAsg 3 (mOp opAdd (mVar 3) (mC (.int 1))))
noncomputable def lb_law_pairs_1 : MS :=
    (mSeq (mAsg 3 (mC (.int 0)))
    (mSeq (mWhile wt_law_pairs_1 wb_law_pairs_1)
    (mDrop (mLm lmInsert (mVar 1) (mCons (mVar 3) (mCons (mTup (mCons (mOp opIx (mVar 2) (mC (.int 2))) (mCons (mOp opIx (mVar 2) (mC (.int 3))) mNil))) mNil))))))
noncomputable def b_law_pairs : MS :=
    (mSeq (mAsg 1 (mLstM mNil))
    (mSeq (mFor (mItS (mVar 0)) (.nm 2) lb_law_pairs_1)
    (mRet (mVar 1))))
noncomputable def m_law_pairs : MF := mFn 1 4 .tr b_law_pairs
abbrev N_law_answered : List Str := ["_law_pairs_here", "_law_answer", "_law_others", "_law_after_here", "_law_pair", "_law_car"]
noncomputable def lb_law_answered_1 : MS :=
    (mSeq (mDrop (mRem (mVar 2) (mCons (mVar 4) mNil)))
    (mIfS (mTest (mOp opGt (mOp opIx (mVar 4) (mC (.int 1))) (mC (.int 1))))
    (mDrop (mLm lmAppend (mVar 3) (mCons (mTup (mCons (mC (.int 0)) (mCons (mC (.int 0)) (mCons (mOp opSub (mOp opIx (mVar 4) (mC (.int 0))) (mC (.int 1))) (mCons (mOp opSub (mOp opIx (mVar 4) (mC (.int 1))) (mC (.int 1))) mNil))))) mNil)))
    mPass))
noncomputable def lb_law_answered_2 : MS :=
    (mDrop (mLm lmAppend (mVar 3) (mCons (mTup (mCons (mC (.int 0)) (mCons (mC (.int 0)) (mCons (mOp opSub (mOp opIx (mVar 4) (mC (.int 0))) (mC (.int 1))) (mCons (mOp opIx (mVar 4) (mC (.int 1))) mNil))))) mNil)))
noncomputable def lb_law_answered_3 : MS :=
    (mIfS (mTest (mOp opGt (mOp opIx (mVar 5) (mC (.int 3))) (mOp opIx (mVar 5) (mC (.int 2)))))
    (mRet (mC .non))
    mPass)
noncomputable def b_law_answered : MS :=
    (mSeq (mAsg 2 (mCall fListM (mCons (mVar 0) mNil)))
    (mSeq (mAsg 3 (mLstM mNil))
    (mSeq (mFor (mItS (mVar 1)) (.nm 4) lb_law_answered_1)
    (mSeq (mFor (mItS (mVar 2)) (.nm 4) lb_law_answered_2)
    (mSeq (mFor (mItS (mVar 3)) (.nm 5) lb_law_answered_3)
    (mRet (mCall m_law_pairs (mCons (mVar 3) mNil))))))))
noncomputable def m_law_answered : MF := mFn 2 6 .tr b_law_answered
abbrev N_law_answers : List Str := ["_law_pairs_here", "_law_width", "_law_many", "_law_found", "_law_k", "_law_longer", "_law_row", "_law_at", "_law_answers_here"]
noncomputable def lb_law_answers_1 : MS :=
    (mDrop (mLm lmAppend (mVar 5) (mCons (mLst (mCons (mOp opAdd (mVar 7) (mC (.int 1))) (mCons (mOp opAdd (mOp opIx (mVar 6) (mC (.int 1))) (mLst (mCons (mOp opIx (mVar 0) (mVar 7)) mNil))) mNil))) mNil)))
noncomputable def lb_law_answers_2 : MS :=
    (mFor (mItR2 (mCons (mOp opIx (mVar 6) (mC (.int 0))) (mCons (mCall fLen (mCons (mVar 0) mNil)) mNil))) (.nm 7) lb_law_answers_1)
noncomputable def lb_law_answers_3 : MS :=
    (mSeq (mAsg 5 (mLstM mNil))
    (mSeq (mFor (mItS (mCall fList (mCons (mVar 3) mNil))) (.nm 6) lb_law_answers_2)
    (mAsg 3 (mVar 5))))
noncomputable def lb_law_answers_4 : MS :=
    (mIfS (mTest (mOp (opInD true) (mOp opIx (mVar 6) (mC (.int 1))) (mVar 8)))
    (mDrop (mLm lmAppend (mVar 8) (mCons (mOp opIx (mVar 6) (mC (.int 1))) mNil)))
    mPass)
noncomputable def b_law_answers : MS :=
    (mSeq (mAsg 2 (mVar 1))
    (mSeq (mIfS (mTest (mOp opLt (mCall fLen (mCons (mVar 0) mNil)) (mVar 1)))
    (mAsg 2 (mCall fLen (mCons (mVar 0) mNil)))
    mPass)
    (mSeq (mAsg 3 (mLst (mCons (mLst (mCons (mC (.int 0)) (mCons (mLst mNil) mNil))) mNil)))
    (mSeq (mFor (mItR1 (mCons (mVar 2) mNil)) (.nm 4) lb_law_answers_3)
    (mSeq (mAsg 8 (mLstM mNil))
    (mSeq (mFor (mItS (mVar 3)) (.nm 6) lb_law_answers_4)
    (mRet (mVar 8))))))))
noncomputable def m_law_answers : MF := mFn 2 9 .tr b_law_answers
abbrev N_law_coming : List Str := ["_law_parts", "_law_letter", "_law_cars", "_law_name", "_law_kind"]
noncomputable def lb_law_coming_1 : MS :=
    (mIfS (mTest (mOp (opEq false) (mOp opIx (mVar 4) (mC (.int 0))) (mVar 3)))
    (mDrop (mLm lmAppend (mVar 2) (mCons (mTup (mCons (mOp opIx (mVar 4) (mC (.int 1))) (mCons (mOp opIx (mVar 4) (mC (.int 2))) (mCons (mOp opIx (mVar 4) (mC (.int 1))) (mCons (mOp opIx (mVar 4) (mC (.int 2))) mNil))))) mNil)))
    mPass)
noncomputable def lb_law_coming_2 : MS :=
    (mFor (mItS (mOp opIx (mVar 0) (mC (.int 1)))) (.nm 4) lb_law_coming_1)
noncomputable def b_law_coming : MS :=
    (mSeq (mAsg 2 (mLstM mNil))
    (mSeq (mIfS (mTest (mOp opGt (mVar 1) (mC (.int 0))))
    (mFor (mItS (mOp opIx (mOp opIx (mOp opIx (mVar 0) (mC (.int 2))) (mOp opSub (mVar 1) (mC (.int 1)))) (mC (.int 1)))) (.nm 3) lb_law_coming_2)
    mPass)
    (mRet (mVar 2))))
noncomputable def m_law_coming : MF := mFn 2 5 .tr b_law_coming
abbrev N_law_joined : List Str := ["_law_parts", "_law_pairs_here", "_law_letter", "_law_pair"]
noncomputable def ce_law_joined_1 : ME :=
    (mTup (mCons (mC (.int 0)) (mCons (mC (.int 0)) (mCons (mOp opIx (mVar 3) (mC (.int 0))) (mCons (mOp opIx (mVar 3) (mC (.int 1))) mNil)))))
noncomputable def b_law_joined : MS :=
    (mRet (mCall m_law_pairs (mCons (mOp opAdd (mLc (mItS (mVar 1)) (.nm 3) mYes ce_law_joined_1 [3]) (mCall m_law_coming (mCons (mVar 0) (mCons (mVar 2) mNil)))) mNil)))
noncomputable def m_law_joined : MF := mFn 3 4 .tr b_law_joined
abbrev N_law_after : List Str := ["_law_table", "_law_width", "_law_after_here", "_law_mask", "_law_low"]
noncomputable def lb_law_after_1 : MS :=
    (mSeq (mAsg 4 (mOp opMod (mCall fInt (mCons (mOp opMul (mC (.int 2)) (mVar 3)) mNil)) (mCall fLen (mCons (mVar 0) mNil))))
    (mIfS (mTest (mOp opGt (mOp opIx (mVar 0) (mVar 4)) (mOp opSub (mOp opIx (mVar 0) (mOp opAdd (mVar 4) (mC (.int 1)))) (mVar 1))))
    (mDrop (mLm lmAppend (mVar 2) (mCons (mOp opIx (mVar 0) (mVar 4)) mNil)))
    (mDrop (mLm lmAppend (mVar 2) (mCons (mOp opSub (mOp opIx (mVar 0) (mOp opAdd (mVar 4) (mC (.int 1)))) (mVar 1)) mNil)))))
noncomputable def b_law_after : MS :=
    (mSeq (mAsg 2 (mLstM mNil))
    (mSeq (mFor (mItR1 (mCons (mCall fLen (mCons (mVar 0) mNil)) mNil)) (.nm 3) lb_law_after_1)
    (mRet (mVar 2))))
noncomputable def m_law_after : MF := mFn 2 5 .tr b_law_after
abbrev N_law_ones : List Str := ["_law_mask", "_law_count", "_law_k"]
noncomputable def lb_law_ones_1 : MS :=
    (mAsg 1 (mOp opAdd (mVar 1) (mOp opMod (mCall fInt (mCons (mOp opDiv (mVar 0) (mOp opIx (mLst (mCons (mC (.int 1)) (mCons (mC (.int 2)) (mCons (mC (.int 4)) (mCons (mC (.int 8)) mNil))))) (mVar 2))) mNil)) (mC (.int 2)))))
noncomputable def b_law_ones : MS :=
    (mSeq (mAsg 1 (mC (.int 0)))
    (mSeq (mFor (mItR1 (mCons (mC (.int 4)) mNil)) (.nm 2) lb_law_ones_1)
    (mRet (mVar 1))))
noncomputable def m_law_ones : MF := mFn 1 3 .tr b_law_ones
abbrev N_law_over : List Str := ["_law_table", "_law_width", "_law_mask"]
noncomputable def lb_law_over_1 : MS :=
    (mIfS (mTest (mOp opGt (mOp opIx (mVar 0) (mVar 2)) (mOp opMul (mVar 1) (mCall m_law_ones (mCons (mVar 2) mNil)))))
    (mRet (mVar 2))
    mPass)
noncomputable def b_law_over : MS :=
    (mSeq (mFor (mItR1 (mCons (mCall fLen (mCons (mVar 0) mNil)) mNil)) (.nm 2) lb_law_over_1)
    (mRet (mC .non)))
noncomputable def m_law_over : MF := mFn 2 3 .tr b_law_over
abbrev N_law_asks : List Str := ["_law_left", "_law_want", "_law_mask", "_law_number"]
noncomputable def b_law_asks : MS :=
    (mSeq (mAsg 3 (mOp opAdd (mOp opSub (mVar 1) (mVar 0)) (mCall m_law_ones (mCons (mOp opMod (mCall fInt (mCons (mVar 2) mNil)) (mOp opIx (mLst (mCons (mC (.int 1)) (mCons (mC (.int 2)) (mCons (mC (.int 4)) (mCons (mC (.int 8)) (mCons (mC (.int 16)) mNil)))))) (mVar 0))) mNil))))
    (mSeq (mIfS (mTest (mOp opGt (mVar 3) (mC (.int 0))))
    (mRet (mVar 3))
    mPass)
    (mRet (mC (.int 0)))))
noncomputable def m_law_asks : MF := mFn 3 4 .tr b_law_asks
abbrev N_law_with : List Str := ["_law_table", "_law_cars", "_law_total", "_law_mask", "_law_number", "_law_car"]
noncomputable def lb_law_with_1 : MS :=
    (mAsg 4 (mOp opAdd (mVar 4) (mCall m_law_asks (mCons (mOp opIx (mVar 5) (mC (.int 2))) (mCons (mOp opIx (mVar 5) (mC (.int 3))) (mCons (mVar 3) mNil))))))
noncomputable def lb_law_with_2 : MS :=
    (mSeq (mAsg 4 (mOp opIx (mVar 0) (mVar 3)))
    (mSeq (mFor (mItS (mVar 1)) (.nm 5) lb_law_with_1)
    (mDrop (mLm lmAppend (mVar 2) (mCons (mVar 4) mNil)))))
noncomputable def b_law_with : MS :=
    (mSeq (mAsg 2 (mLstM mNil))
    (mSeq (mFor (mItR1 (mCons (mCall fLen (mCons (mVar 0) mNil)) mNil)) (.nm 3) lb_law_with_2)
    (mRet (mVar 2))))
noncomputable def m_law_with : MF := mFn 2 6 .tr b_law_with
abbrev N_law_next : List Str := ["_law_parts", "_law_table", "_law_letter", "_law_total"]
noncomputable def b_law_next : MS :=
    (mSeq (mAsg 3 (mCall m_law_with (mCons (mVar 1) (mCons (mCall m_law_coming (mCons (mVar 0) (mCons (mVar 2) mNil))) mNil))))
    (mSeq (mIfS (mTest (mOp (opIsN true) (mCall m_law_over (mCons (mVar 3) (mCons (mOp opIx (mVar 0) (mC (.int 0))) mNil))) (mC .non)))
    (mRet (mC .non))
    mPass)
    (mRet (mCall m_law_after (mCons (mVar 3) (mCons (mOp opIx (mVar 0) (mC (.int 0))) mNil))))))
noncomputable def m_law_next : MF := mFn 3 4 .tr b_law_next
abbrev N_law_turn : List Str := ["_law_parts", "_law_state_here", "_law_letter", "_law_after_here", "_law_pairs_here", "_law_rows", "_law_answer", "_law_rest"]
noncomputable def lb_law_turn_1 : MS :=
    (mSeq (mAsg 7 (mCall m_law_answered (mCons (mVar 4) (mCons (mVar 6) mNil))))
    (mIfS (mTest (mOp (opIsN false) (mVar 7) (mC .non)))
    (mDrop (mLm lmAppend (mVar 5) (mCons (mLst (mCons (mVar 6) (mCons (mC .non) mNil))) mNil)))
    (mDrop (mLm lmAppend (mVar 5) (mCons (mLst (mCons (mVar 6) (mCons (mLst (mCons (mVar 7) (mCons (mVar 3) mNil))) mNil))) mNil)))))
noncomputable def b_law_turn : MS :=
    (mSeq (mAsg 3 (mCall m_law_next (mCons (mVar 0) (mCons (mOp opIx (mVar 1) (mC (.int 1))) (mCons (mVar 2) mNil)))))
    (mSeq (mIfS (mTest (mOp (opIsN false) (mVar 3) (mC .non)))
    (mRet (mC .non))
    mPass)
    (mSeq (mAsg 4 (mCall m_law_joined (mCons (mVar 0) (mCons (mOp opIx (mVar 1) (mC (.int 0))) (mCons (mVar 2) mNil)))))
    (mSeq (mAsg 5 (mLstM mNil))
    (mSeq (mFor (mItS (mCall m_law_answers (mCons (mVar 4) (mCons (mOp opIx (mVar 0) (mC (.int 0))) mNil)))) (.nm 6) lb_law_turn_1)
    (mRet (mVar 5)))))))
noncomputable def m_law_turn : MF := mFn 3 8 .tr b_law_turn
abbrev N_law_judged : List Str := ["_law_told", "_law_parts", "_law_here", "_law_state_here", "_law_rank_here", "_law_threat", "_law_onward", "_law_letter", "_law_rows", "_law_ranks", "_law_row"]
noncomputable def ct_law_judged_1 : MT :=
    (mTest (mOp (opIsN true) (mOp opIx (mVar 10) (mC (.int 1))) (mC .non)))
noncomputable def ce_law_judged_1 : ME :=
    (mOp opIx (mVar 10) (mC (.int 1)))
noncomputable def ct_law_judged_2 : MT :=
    (mTest (mOp (opIsN true) (mOp opIx (mVar 10) (mC (.int 1))) (mC .non)))
noncomputable def ce_law_judged_2 : ME :=
    (mOp opIx (mVar 10) (mC (.int 1)))
noncomputable def lb_law_judged_1 : MS :=
    (mSeq (mAsg 8 (mCall m_law_turn (mCons (mVar 1) (mCons (mVar 2) (mCons (mVar 7) mNil)))))
    (mIfS (mTest (mOp (opIsN true) (mVar 8) (mC .non)))
    (mSeq (mAsg 9 (mCall m_law_next_ranks (mCons (mVar 0) (mCons (mVar 8) mNil))))
    (mSeq (mIfS (mAnd (mTest (mOp (opEq false) (mVar 4) (mC (.int 0)))) (mOr (mTest (mOp (opIsN true) (mVar 5) (mC .non))) (mOr (mTest (mOp (opIn true) (mC (.int 0)) (mVar 9))) (mTest (mOp (opIn false) (mC .non) (mVar 9))))))
    (mRet (mC .non))
    mPass)
    (mSeq (mIfS (mAnd (mTest (mOp opGt (mVar 4) (mC (.int 0)))) (mTest (mCall m_law_falls (mCons (mVar 9) (mCons (mVar 4) mNil)))))
    (mSeq (mIfS (mOr (mNot (mTest (mCall m_law_same (mCons (mVar 5) (mCons (mVar 7) mNil))))) (mNot (mTest (mCall m_law_one_less (mCons (mVar 9) (mCons (mVar 4) mNil))))))
    (mRet (mC .non))
    mPass)
    (mRet (mLc (mItS (mVar 8)) (.nm 10) ct_law_judged_1 ce_law_judged_1 [10])))
    mPass)
    (mIfS (mTest (mOp (opEq false) (mVar 4) (mC (.int 0))))
    (mAsg 6 (mOp opAdd (mVar 6) (mLc (mItS (mVar 8)) (.nm 10) ct_law_judged_2 ce_law_judged_2 [10])))
    mPass))))
    mPass))
noncomputable def b_law_judged : MS :=
    (mSeq (mAsg 3 (mCall m_law_state (mCons (mVar 2) mNil)))
    (mSeq (mAsg 4 (mCall m_law_rank (mCons (mVar 0) (mCons (mVar 3) mNil))))
    (mSeq (mIfS (mTest (mOp (opIsN false) (mVar 4) (mC .non)))
    (mRet (mC .non))
    mPass)
    (mSeq (mAsg 5 (mMeth 11 "threat" m_Game_threat (mVar 0) (mCons (mVar 3) mNil)))
    (mSeq (mAsg 6 (mLst mNil))
    (mSeq (mFor (mItR1 (mCons (mOp opAdd (mCall fLen (mCons (mOp opIx (mVar 1) (mC (.int 2))) mNil)) (mC (.int 1))) mNil)) (.nm 7) lb_law_judged_1)
    (mSeq (mIfS (mTest (mOp opGt (mVar 4) (mC (.int 0))))
    (mRet (mC .non))
    mPass)
    (mRet (mVar 6)))))))))
noncomputable def m_law_judged : MF := mFn 3 11 .tr b_law_judged
abbrev N_is_name : List Str := ["text", "char"]
noncomputable def ce_is_name_1 : ME :=
    (mOp (opInX false) (mVar 1) (mC (.str (PySem.Str.ofString "abcdefghijklmnopqrstuvwxyz"))))
noncomputable def b_is_name : MS :=
    (mRet (mAndV (mChain opLe opLe (mC (.int 1)) (mCall fLen (mCons (mVar 0) mNil)) (mC (.int 8))) (mCall (fAll fun bs => bs.all id) (mCons (mLc (mItS (mVar 0)) (.nm 1) mYes ce_is_name_1 [1]) mNil))))
noncomputable def m_is_name : MF := mFn 1 2 .tr b_is_name
abbrev N_Kindu_initu : List Str := ["self", "name", "stay", "need"]
noncomputable def b_Kindu_initu : MS :=
    (mSeq (mIfS (mNot (mTest (mCall m_is_name (mCons (mVar 1) mNil))))
    (fun _ _ => .bad)
    mPass)
    (mSeq (mIfS (mNot (mTest (mChain opLe opLe (mC (.int 1)) (mVar 2) (mC (.int 4)))))
    (fun _ _ => .bad)
    mPass)
    (mSeq (mIfS (mNot (mTest (mChain opLe opLe (mC (.int 1)) (mVar 3) (mVar 2))))
    (fun _ _ => .bad)
    mPass)
    (mSeq (mSetA [5] "name" (mVar 0) (mVar 1))
    (mSeq (mSetA [5] "stay" (mVar 0) (mVar 2))
    (mSetA [5] "need" (mVar 0) (mVar 3)))))))
noncomputable def m_Kindu_initu : MF := mFn 4 4 .ini b_Kindu_initu
abbrev N_Yarducheck_kinds : List Str := ["self", "earlier", "place", "kind"]
noncomputable def lb_Yarducheck_kinds_1 : MS :=
    (mSeq (mIfS (mOr (mTest (mOp (opEq false) (mVar 2) (mC (.int 6)))) (mTest (mOp (opIn false) (mAttr [5] "name" (mVar 3)) (mVar 1))))
    (fun _ _ => .bad)
    mPass)
    (mDrop (mLm lmAppend (mVar 1) (mCons (mAttr [5] "name" (mVar 3)) mNil))))
noncomputable def b_Yarducheck_kinds : MS :=
    (mSeq (mIfS (mTest (mOp (opEq false) (mCall fLen (mCons (mAttr [6] "kinds" (mVar 0)) mNil)) (mC (.int 0))))
    (fun _ _ => .bad)
    mPass)
    (mSeq (mAsg 1 (mLstM mNil))
    (mFor (mItE (mCons (mAttr [6] "kinds" (mVar 0)) mNil)) (.tp [(.nm 2), (.nm 3)]) lb_Yarducheck_kinds_1)))
noncomputable def m_Yarducheck_kinds : MF := mFn 1 4 .tr b_Yarducheck_kinds
abbrev N_Yarducheck_menu : List Str := ["self", "known", "earlier", "place", "name", "cars", "kind", "car"]
noncomputable def ce_Yarducheck_menu_1 : ME :=
    (mAttr [5] "name" (mVar 6))
noncomputable def ce_Yarducheck_menu_2 : ME :=
    (mOp (opIn false) (mVar 7) (mVar 1))
noncomputable def lb_Yarducheck_menu_1 : MS :=
    (mSeq (mIfS (mOr (mTest (mOp (opEq false) (mVar 3) (mC (.int 4)))) (mOr (mNot (mTest (mCall m_is_name (mCons (mVar 4) mNil)))) (mTest (mOp (opIn false) (mVar 4) (mVar 2)))))
    (fun _ _ => .bad)
    mPass)
    (mSeq (mIfS (mOr (mNot (mTest (mChain opLe opLe (mC (.int 1)) (mCall fLen (mCons (mVar 5) mNil)) (mC (.int 3))))) (mNot (mTest (mCall (fAll fun bs => bs.all id) (mCons (mLc (mItS (mVar 5)) (.nm 7) mYes ce_Yarducheck_menu_2 [7]) mNil)))))
    (fun _ _ => .bad)
    mPass)
    (mDrop (mLm lmAppend (mVar 2) (mCons (mVar 4) mNil)))))
noncomputable def b_Yarducheck_menu : MS :=
    (mSeq (mIfS (mTest (mOp (opEq false) (mCall fLen (mCons (mAttr [6] "menu" (mVar 0)) mNil)) (mC (.int 0))))
    (fun _ _ => .bad)
    mPass)
    (mSeq (mAsg 1 (mLc (mItS (mAttr [6] "kinds" (mVar 0))) (.nm 6) mYes ce_Yarducheck_menu_1 [6]))
    (mSeq (mAsg 2 (mLstM mNil))
    (mFor (mItE (mCons (mAttr [6] "menu" (mVar 0)) mNil)) (.tp [(.nm 3), (.tp [(.nm 4), (.nm 5)])]) lb_Yarducheck_menu_1))))
noncomputable def m_Yarducheck_menu : MF := mFn 1 8 .tr b_Yarducheck_menu
abbrev N_Yardu_initu : List Str := ["self", "width", "kinds", "menu", "name", "cars"]
noncomputable def ce_Yardu_initu_1 : ME :=
    (mTup (mCons (mVar 4) (mCons (mCall fTuple (mCons (mVar 5) mNil)) mNil)))
noncomputable def b_Yardu_initu : MS :=
    (mSeq (mIfS (mNot (mTest (mChain opLe opLe (mC (.int 1)) (mVar 1) (mC (.int 3)))))
    (fun _ _ => .bad)
    mPass)
    (mSeq (mSetA [6] "width" (mVar 0) (mVar 1))
    (mSeq (mSetA [6] "kinds" (mVar 0) (mCall fTuple (mCons (mVar 2) mNil)))
    (mSeq (mSetA [6] "menu" (mVar 0) (mCall fTuple (mCons (mLc (mItS (mVar 3)) (.tp [(.nm 4), (.nm 5)]) mYes ce_Yardu_initu_1 [4, 5]) mNil)))
    (mSeq (mDrop (mMeth 6 "_check_kinds" m_Yarducheck_kinds (mVar 0) mNil))
    (mDrop (mMeth 6 "_check_menu" m_Yarducheck_menu (mVar 0) mNil)))))))
noncomputable def m_Yardu_initu : MF := mFn 4 6 .ini b_Yardu_initu
abbrev N_law_made : List Str := ["_law_parts", "_law_kinds", "_law_kind", "_law_batch"]
noncomputable def ce_law_made_1 : ME :=
    (mMake 5 m_Kindu_initu (mCons (mOp opIx (mVar 2) (mC (.int 0))) (mCons (mOp opIx (mVar 2) (mC (.int 1))) (mCons (mOp opIx (mVar 2) (mC (.int 2))) mNil))))
noncomputable def ce_law_made_2 : ME :=
    (mTup (mCons (mOp opIx (mVar 3) (mC (.int 0))) (mCons (mCall fList (mCons (mOp opIx (mVar 3) (mC (.int 1))) mNil)) mNil)))
noncomputable def b_law_made : MS :=
    (mSeq (mAsg 1 (mLc (mItS (mOp opIx (mVar 0) (mC (.int 1)))) (.nm 2) mYes ce_law_made_1 [2]))
    (mRet (mMake 6 m_Yardu_initu (mCons (mOp opIx (mVar 0) (mC (.int 0))) (mCons (mVar 1) (mCons (mLc (mItS (mOp opIx (mVar 0) (mC (.int 2)))) (.nm 3) mYes ce_law_made_2 [3]) mNil))))))
noncomputable def m_law_made : MF := mFn 1 4 .tr b_law_made
abbrev N_law_span : List Str := ["_law_parts", "_law_span_here", "_law_kind"]
noncomputable def lb_law_span_1 : MS :=
    (mIfS (mTest (mOp opGt (mOp opIx (mVar 2) (mC (.int 1))) (mVar 1)))
    (mAsg 1 (mOp opIx (mVar 2) (mC (.int 1))))
    mPass)
noncomputable def b_law_span : MS :=
    (mSeq (mAsg 1 (mC (.int 1)))
    (mSeq (mFor (mItS (mOp opIx (mVar 0) (mC (.int 1)))) (.nm 2) lb_law_span_1)
    (mRet (mVar 1))))
noncomputable def m_law_span : MF := mFn 1 3 .tr b_law_span
abbrev N_law_nothing : List Str := ["_law_parts", "_law_mask"]
noncomputable def ce_law_nothing_1 : ME :=
    (mC (.int 0))
noncomputable def b_law_nothing : MS :=
    (mRet (mLc (mItR1 (mCons (mOp opIx (mLst (mCons (mC (.int 1)) (mCons (mC (.int 2)) (mCons (mC (.int 4)) (mCons (mC (.int 8)) (mCons (mC (.int 16)) mNil)))))) (mCall m_law_span (mCons (mVar 0) mNil))) mNil)) (.nm 1) mYes ce_law_nothing_1 [1]))
noncomputable def m_law_nothing : MF := mFn 1 2 .tr b_law_nothing
abbrev N_law_pool : List Str := ["_law_cell_here"]
noncomputable def b_law_pool : MS :=
    (mSeq (mIfS (mTest (mOp opGe (mVar 0) (mOp opPow (mC (.int 10)) (mC (.int 18)))))
    (mRet (mLstM (mCons (mVar 0) (mCons (mVar 0) (mCons (mC (.int 0)) mNil)))))
    mPass)
    (mRet (mLstM (mCons (mC (.int 0)) (mCons (mVar 0) (mCons (mC (.int 0)) mNil))))))
noncomputable def m_law_pool : MF := mFn 1 1 .kp b_law_pool
abbrev N_law_words : List Str := ["_law_pool_here", "_law_many", "_law_letters", "_law_words_here", "_law_k", "_law_word", "_law_first", "_law_shift", "_law_place"]
noncomputable def ce_law_words_1 : ME :=
    (mOp opIx (mVar 2) (mCall m_law_take (mCons (mVar 0) (mCons (mC (.int 26)) mNil))))
noncomputable def lb_law_words_1 : MS :=
    (mSeq (mSetI (mVar 5) (mC (.int 0)) (mOp opIx (mVar 2) (mOp opMod (mCall fInt (mCons (mOp opAdd (mVar 6) (mVar 7)) mNil)) (mC (.int 26)))))
    (mIfS (mTest (mOp (opIn true) (mJoin (mC (.str (PySem.Str.ofString ""))) (mVar 5)) (mVar 3)))
    mBrk
    mPass))
noncomputable def lb_law_words_2 : MS :=
    (mSeq (mAsg 5 (mLcM (mItR1 (mCons (mOp opAdd (mC (.int 1)) (mCall m_law_take (mCons (mVar 0) (mCons (mC (.int 8)) mNil)))) mNil)) (.nm 8) mYes ce_law_words_1 [8]))
    (mSeq (mAsg 6 (mSidx (mVar 2) (mCons (mOp opIx (mVar 5) (mC (.int 0))) mNil)))
    (mSeq (mFor (mItR1 (mCons (mC (.int 26)) mNil)) (.nm 7) lb_law_words_1)
    (mDrop (mLm lmAppend (mVar 3) (mCons (mJoin (mC (.str (PySem.Str.ofString ""))) (mVar 5)) mNil))))))
noncomputable def b_law_words : MS :=
    (mSeq (mAsg 2 (mC (.str (PySem.Str.ofString "abcdefghijklmnopqrstuvwxyz"))))
    (mSeq (mIfS (mTest (mOp (opEq false) (mCall m_law_take (mCons (mVar 0) (mCons (mC (.int 2)) mNil))) (mC (.int 0))))
    (mRet (mCall m_law_names (mCons (mVar 0) (mCons (mVar 1) mNil))))
    mPass)
    (mSeq (mAsg 3 (mLstM mNil))
    (mSeq (mFor (mItR1 (mCons (mVar 1) mNil)) (.nm 4) lb_law_words_2)
    (mRet (mVar 3))))))
noncomputable def m_law_words : MF := mFn 2 9 .tr b_law_words
abbrev N_law_batches : List Str := ["_law_pool_here", "_law_words_here", "_law_kinds", "_law_many", "_law_sizes", "_law_menu", "_law_name", "_law_size", "_law_k"]
noncomputable def ce_law_batches_1 : ME :=
    (mOp opIx (mOp opIx (mVar 2) (mCall m_law_take (mCons (mVar 0) (mCons (mCall fLen (mCons (mVar 2) mNil)) mNil)))) (mC (.int 0)))
noncomputable def lb_law_batches_1 : MS :=
    (mSeq (mAsg 7 (mOp opIx (mVar 4) (mCall m_law_take (mCons (mVar 0) (mCons (mCall fLen (mCons (mVar 4) mNil)) mNil)))))
    (mDrop (mLm lmAppend (mVar 5) (mCons (mTup (mCons (mVar 6) (mCons (mLc (mItR1 (mCons (mVar 7) mNil)) (.nm 8) mYes ce_law_batches_1 [8]) mNil))) mNil))))
noncomputable def b_law_batches : MS :=
    (mSeq (mAsg 5 (mLstM mNil))
    (mSeq (mFor (mItS (mCall m_law_words (mCons (mVar 1) (mCons (mVar 3) mNil)))) (.nm 6) lb_law_batches_1)
    (mRet (mVar 5))))
noncomputable def m_law_batches : MF := mFn 5 9 .tr b_law_batches
abbrev N_law_lot : List Str := ["_law_pool_here", "_law_words_here", "_law_many", "_law_longest", "_law_hard", "_law_kinds", "_law_name", "_law_stay", "_law_need"]
noncomputable def lb_law_lot_1 : MS :=
    (mSeq (mAsg 7 (mOp opAdd (mC (.int 1)) (mCall m_law_take (mCons (mVar 0) (mCons (mVar 3) mNil)))))
    (mSeq (mAsg 8 (mC (.int 1)))
    (mSeq (mIfS (mTest (mOp (opEq false) (mCall m_law_take (mCons (mVar 0) (mCons (mVar 4) mNil))) (mC (.int 0))))
    (mAsg 8 (mOp opAdd (mC (.int 1)) (mCall m_law_take (mCons (mVar 0) (mCons (mVar 7) mNil)))))
    mPass)
    (mDrop (mLm lmAppend (mVar 5) (mCons (mTup (mCons (mVar 6) (mCons (mVar 7) (mCons (mVar 8) mNil)))) mNil))))))
noncomputable def b_law_lot : MS :=
    (mSeq (mAsg 5 (mLstM mNil))
    (mSeq (mFor (mItS (mCall m_law_words (mCons (mVar 1) (mCons (mVar 2) mNil)))) (.nm 6) lb_law_lot_1)
    (mRet (mVar 5))))
noncomputable def m_law_lot : MF := mFn 5 9 .tr b_law_lot
abbrev N_law_lean : List Str := ["_law_pool_here", "_law_words_here", "_law_width", "_law_stays", "_law_many", "_law_longest", "_law_kinds", "_law_sizes"]
noncomputable def b_law_lean : MS :=
    (mSeq (mAsg 4 (mOp opAdd (mC (.int 2)) (mCall m_law_take (mCons (mVar 0) (mCons (mC (.int 2)) mNil)))))
    (mSeq (mAsg 5 (mOp opIx (mVar 3) (mCall m_law_take (mCons (mVar 0) (mCons (mCall fLen (mCons (mVar 3) mNil)) mNil)))))
    (mSeq (mAsg 6 (mCall m_law_lot (mCons (mVar 0) (mCons (mVar 1) (mCons (mVar 4) (mCons (mVar 5) (mCons (mC (.int 3)) mNil)))))))
    (mSeq (mAsg 7 (mLst (mCons (mVar 2) (mCons (mOp opAdd (mVar 2) (mC (.int 1))) (mCons (mOp opAdd (mVar 2) (mC (.int 1))) (mCons (mOp opAdd (mVar 2) (mC (.int 1))) mNil))))))
    (mRet (mLst (mCons (mVar 2) (mCons (mVar 6) (mCons (mCall m_law_batches (mCons (mVar 0) (mCons (mVar 1) (mCons (mVar 6) (mCons (mOp opAdd (mC (.int 1)) (mCall m_law_take (mCons (mVar 0) (mCons (mC (.int 2)) mNil)))) (mCons (mVar 7) mNil)))))) mNil)))))))))
noncomputable def m_law_lean : MF := mFn 4 8 .tr b_law_lean
abbrev N_law_wide : List Str := ["_law_pool_here", "_law_words_here", "_law_widest", "_law_longest", "_law_width", "_law_kinds"]
noncomputable def b_law_wide : MS :=
    (mSeq (mAsg 4 (mOp opAdd (mC (.int 1)) (mCall m_law_take (mCons (mVar 0) (mCons (mVar 2) mNil)))))
    (mSeq (mAsg 5 (mCall m_law_lot (mCons (mVar 0) (mCons (mVar 1) (mCons (mOp opAdd (mC (.int 1)) (mCall m_law_take (mCons (mVar 0) (mCons (mC (.int 6)) mNil)))) (mCons (mVar 3) (mCons (mC (.int 1)) mNil)))))))
    (mRet (mLst (mCons (mVar 4) (mCons (mVar 5) (mCons (mCall m_law_batches (mCons (mVar 0) (mCons (mVar 1) (mCons (mVar 5) (mCons (mOp opAdd (mC (.int 1)) (mCall m_law_take (mCons (mVar 0) (mCons (mC (.int 4)) mNil)))) (mCons (mLst (mCons (mC (.int 1)) (mCons (mC (.int 2)) (mCons (mC (.int 3)) mNil)))) mNil)))))) mNil)))))))
noncomputable def m_law_wide : MF := mFn 4 6 .tr b_law_wide
abbrev N_law_yard : List Str := ["_law_pool_here", "_law_words_here", "_law_width"]
noncomputable def b_law_yard : MS :=
    (mSeq (mIfS (mTest (mOp (opEq false) (mCall m_law_take (mCons (mVar 0) (mCons (mC (.int 6)) mNil))) (mC (.int 0))))
    (mRet (mCall m_law_wide (mCons (mVar 0) (mCons (mVar 1) (mCons (mC (.int 3)) (mCons (mC (.int 4)) mNil))))))
    mPass)
    (mSeq (mAsg 2 (mOp opAdd (mC (.int 1)) (mCall m_law_take (mCons (mVar 0) (mCons (mC (.int 2)) mNil)))))
    (mRet (mCall m_law_lean (mCons (mVar 0) (mCons (mVar 1) (mCons (mVar 2) (mCons (mLst (mCons (mC (.int 2)) (mCons (mC (.int 3)) (mCons (mC (.int 3)) (mCons (mC (.int 4)) mNil))))) mNil))))))))
noncomputable def m_law_yard : MF := mFn 2 3 .tr b_law_yard
abbrev N_law : List Str := ["_law_script", "_law_share", "_law_pool_here", "_law_parts", "_law_most", "_law_told", "_law_size", "_law_raised", "e", "_law_found", "_law_first", "_law_k", "_law_onward", "_law_state_here"]
noncomputable def tb_law_1 : MS :=
    (mSeq (mIfS (mTest (mOp (opEq false) (mVar 1) (mC (.int 1))))
    (mAsg 5 (mMakeW 11 m_Gameu_initu 1 1 [] [] (mCons (mCall m_law_made (mCons (mVar 3) mNil)) mNil) (mCons (mC (.int 100)) mNil)))
    (mAsg 5 (mMakeW 11 m_Gameu_initu 1 0 [400] [] (mCons (mCall m_law_made (mCons (mVar 3) mNil)) mNil) mNil)))
    (mAsg 6 (mCall (fun xs st => if oneIs 11 xs st = true then lenOwn 11 m_Gameu_lenu xs st else fLen xs st) (mCons (mVar 5) mNil))))
noncomputable def lb_law_1 : MS :=
    (mIfS (mTest (mOp (opInD true) (mVar 13) (mVar 9)))
    (mDrop (mLm lmAppend (mVar 9) (mCons (mVar 13) mNil)))
    mPass)
noncomputable def lb_law_2 : MS :=
    (mSeq (mIfS (mTest (mOp opGe (mVar 11) (mCall fLen (mCons (mVar 9) mNil))))
    mBrk
    mPass)
    (mSeq (mAsg 12 (mCall m_law_judged (mCons (mVar 5) (mCons (mVar 3) (mCons (mOp opIx (mVar 9) (mVar 11)) mNil)))))
    (mSeq (mIfS (mTest (mOp (opIsN false) (mVar 12) (mC .non)))
    (mRet (mC (.bl false)))
    mPass)
    (mFor (mItS (mVar 12)) (.nm 13) lb_law_1))))
noncomputable def sb_law_1 : MS :=
    (mAsg 1 (mCall m_law_take (mCons (mCall m_law_pool (mCons (mCall m_law_cell (mCons (mVar 0) (mCons (mC (.int 2)) mNil))) mNil)) (mCons (mC (.int 2)) mNil))))
noncomputable def sb_law_2 : MS :=
    (mAsg 2 (mCall m_law_pool (mCons (mCall m_law_cell (mCons (mVar 0) (mCons (mC (.int 0)) mNil))) mNil)))
noncomputable def sb_law_3 : MS :=
    (mAsg 3 (mCall m_law_foe (mCons (mVar 2) mNil)))
noncomputable def sb_law_4 : MS :=
    (mAsg 4 (mC (.int 400)))
noncomputable def sb_law_5 : MS :=
    (mIfS (mTest (mOp (opEq false) (mVar 1) (mC (.int 1))))
    (mSeq (mAsg 3 (mCall m_law_yard (mCons (mCall m_law_pool (mCons (mCall m_law_cell (mCons (mVar 0) (mCons (mC (.int 0)) mNil))) mNil)) (mCons (mCall m_law_pool (mCons (mCall m_law_cell (mCons (mVar 0) (mCons (mC (.int 1)) mNil))) mNil)) mNil))))
    (mAsg 4 (mC (.int 100))))
    mPass)
noncomputable def sb_law_6 : MS :=
    (mAsg 5 (mC .non))
noncomputable def sb_law_7 : MS :=
    (mAsg 6 (mC (.int 0)))
noncomputable def sb_law_8 : MS :=
    (mAsg 7 (mC .non))
noncomputable def sb_law_9 : MS :=
    (mTryX [(31, true)] 8 tb_law_1
    (fun c ns ws => (mAsg 7 (mXf "most" c ns ws))))
noncomputable def sb_law_10 : MS :=
    (mIfS (mTest (mOp (opIsN true) (mVar 7) (mC .non)))
    (mRet (mAndV (mCall m_law_same (mCons (mVar 7) (mCons (mVar 4) mNil))) (mOrV (mOp (opEq false) (mVar 1) (mC (.int 1))) (mOp opGt (mCall fLen (mCons (mOp opIx (mVar 3) (mC (.int 2))) mNil)) (mC (.int 2))))))
    mPass)
noncomputable def sb_law_11 : MS :=
    (mAsg 9 (mLstM (mCons (mLst (mCons (mLst mNil) (mCons (mCall m_law_nothing (mCons (mVar 3) mNil)) mNil))) mNil)))
noncomputable def sb_law_12 : MS :=
    (mAsg 10 (mCall m_law_rank (mCons (mVar 5) (mCons (mCall m_law_state (mCons (mOp opIx (mVar 9) (mC (.int 0))) mNil)) mNil))))
noncomputable def sb_law_13 : MS :=
    (mIfS (mOr (mTest (mOp (opIsN false) (mVar 10) (mC .non))) (mNot (mTest (mCall m_law_same (mCons (mProp 11 m_Game_holds (mVar 5)) (mCons (mOp (opEq false) (mVar 10) (mC (.int 0))) mNil))))))
    (mRet (mC (.bl false)))
    mPass)
noncomputable def sb_law_14 : MS :=
    (mIfS (mAnd (mTest (mOp (opEq false) (mVar 1) (mC (.int 0)))) (mOr (mTest (mOp opLt (mVar 10) (mC (.int 2)))) (mTest (mOp opGt (mVar 10) (mC (.int 4))))))
    (mRet (mC (.bl false)))
    mPass)
noncomputable def sb_law_15 : MS :=
    (mFor (mItR1 (mCons (mC (.int 60)) mNil)) (.nm 11) lb_law_2)
noncomputable def sb_law_16 : MS :=
    (mRet (mAndV (mOp opLt (mC (.int 0)) (mVar 6)) (mOp opLe (mVar 6) (mVar 4))))
noncomputable def b_law : MS :=
    (mSeq sb_law_1
    (mSeq sb_law_2
    (mSeq sb_law_3
    (mSeq sb_law_4
    (mSeq sb_law_5
    (mSeq sb_law_6
    (mSeq sb_law_7
    (mSeq sb_law_8
    (mSeq sb_law_9
    (mSeq sb_law_10
    (mSeq sb_law_11
    (mSeq sb_law_12
    (mSeq sb_law_13
    (mSeq sb_law_14
    (mSeq sb_law_15
    sb_law_16)))))))))))))))
noncomputable def m_law : MF := mFn 1 14 .tr b_law
end K77

set_option linter.all false
set_option maxRecDepth 100000
set_option maxHeartbeats 4000000
namespace K77
open PySem Mz L2
local macro_rules | `(tactic| simp! [$ls,*]) => `(tactic| simp -implicitDefEqProofs only [e_dnewN, e_lc2, k_lc2, e_dcN, k_dcN, e_rem, e_getN1, e_getN2, k_getN2, i_z, k_ixz0, k_ixz1, k_ixz2, k_lenz, ty_z, o_notNl, e_makeW, k_makeW, k_nW10, k_nW11, k_nW12, k_nW20, k_nW21, k_nW22, k_nW30, k_nW31, k_nW32, e_sidx, k_sidx, k_sidx2, e_setN, k_setN1, k_setN2, k_setN3, e_dispN, k_dispN1, k_dispN2, gS, intS, k_lm2_ex, e_seq, k_nx, k_rt, k_bk, k_ct, k_ex, e_pass, e_brk, e_asg, k_asg, k_asg_ex, e_drop, k_drop, k_drop_ex, e_ret, k_ret, k_ret_ex, e_ifS, k_ifS, e_aug, k_aug0, k_aug, e_var, k_var, e_c, e_op, k_op1, k_op1_ex, k_op2, k_op2_ex, e_test, k_test, k_test_ex, e_and, k_and, e_or, k_or, e_not, k_not, e_andV, k_andV, e_orV, k_orV, e_notV, k_notV, e_if, k_if, e_nil, e_cons, k_cons1, k_cons1_ex, k_cons2, k_cons2_ex, e_call, k_call, k_call_ex, e_tup, k_tup, k_tup2, e_lst, k_lst, k_lst2, e_lstM, k_lstM, k_lstM2, v_nil, v_cons, e_chain, k_chain1, k_chain2, k_chain3, o_add, o_sub, o_mul, o_mod, o_div, o_pow, o_shl, vals_map, e_augL, k_augL0, o_lt, o_le, o_gt, o_ge, o_eq, o_ne, o_eqs, o_nes, o_ix, k_ix, k_at, atI_0, atI_1, atI_2, atI_3, atI_4, atI_5, atI_6, atI_7, atI_8, atI_9, atI_10, atI_11, atI_12, atI_13, atI_14, atI_15, atI_16, ixN_0, ixN_1, ixN_2, ixN_3, ixN_4, ixN_5, i_lst, i_ro, i_tup, i_l, i_str, li_lst, li_ro, li_l, o_isB, o_isNl, o_isN, o_isNN, o_notN, o_notNN, f_len, k_len, f_int, f_intb, f_abs, f_max2, f_min2, f_list, k_list, f_listM, k_listM, f_tupT, f_tupV, f_tupL, k_tupL, f_sum, k_sum, k_sum2, f_all, k_all, k_all2, f_maxL, k_maxL, e_isTy, k_isTy, k_isTy2, k_isTy3, ty_non, ty_bl, ty_int, ty_str, ty_tup, ty_lst, kb1, kb2, kb3, kb4, kb5, kb6, kb7, kb8, kb9, kb10, kb11, kb12, kb13, kb14, kb15, kb16, kb17, kb18, kb19, kb20, e_lm, k_lm1, k_lm0, k_lm2, k_lm3, k_lm4, e_setI, k_set1, k_set2, k_set3, k_set4, k_set5, e_sl, k_sl1, k_sl2, k_sl3T, k_sl3L, k_sl3l, k_cutL, e_no, e_part, k_part, e_itS, k_bind, src_tup, src_lst, src_l, k_src, src_str, e_itR1, e_itR2, e_for, k_for, e_lc, k_lc, e_lcM, k_lcM, e_attr, k_attr, e_setA, k_setA1, k_setA2, e_make, k_make, e_meth, k_meth1, k_methB, k_meth2, e_isCl, k_isCl, e_itE, k_en, e_raise, e_cmeth, k_cmeth, e_makeL, e_prop, k_prop, k_noEx, e_par, k_par, e_itZ, k_zip, ic_int, ic_bl, ic_str, ic_non, ic_lst, ic_ro, ic_tup, ic_l, ic_ins, oneIs_1, lenOwn_1, lenBk_1, e_tryX, x_nx, x_rt, x_ex, x_yes, x_no, x_y, e_raise1, k_raise1, List.lookup_cons_self, fin_ex, e_join, k_join1, k_join2, e_fz, k_fzv, k_fzl, k_fz2, o_inX, inBk_1, i_int, Option.isSome_some, Option.isSome_none, e_yes, w_nil, w_cons, b_nm, b_tp, b_pnil, b_pnm, b_ptp, fn_tr, fn_up, fn_kp, fn_ini, fin_kp_rt, fin_kp_nx, fin_same, fin_setv, st_setl_len, st_setl_o, st_push_len, st_push_o, st_push_get, st_setl_setl, bl0, bl1, bl2, bl3, bl4, bl5, bl6, bl7, bl8, bl9, bl10, bl11, bl12, bl13, bl14, bl15, bl16, bl17, bl18, bl19, bl20, bl21, bl22, bl23, bl24, bl25, bl26, bl27, bl28, bl29, bl30, bl31, bl32, bl33, bl34, bl35, bl36, bl37, bl38, bl39, bl40, List.map_cons, List.map_nil, List.replicate, List.cons_append, List.nil_append, List.length_cons, List.length_nil, List.getElem?_cons_zero, List.getElem?_cons_succ, List.set_cons_zero, List.set_cons_succ, Option.map_some, Option.bind_some, reduceIte, Bool.true_eq_false, Bool.false_eq_true, Bool.not_true, Bool.not_false, decide_true, decide_false, Int.reduceEq, Int.reduceLT, Int.reduceLE, Int.reduceGT, Int.reduceGE, Int.reduceAdd, Int.reduceSub, Int.reduceMul, Int.reduceNeg, Nat.reduceAdd, Nat.reduceSub, Nat.reduceLT, Nat.reduceLeDiff, Nat.lt_add_left_iff_pos, Nat.zero_lt_succ, $ls,*])
def abc : List Nat := [97, 98, 99, 100, 101, 102, 103, 104, 105, 106, 107, 108, 109, 110, 111, 112, 113, 114, 115, 116, 117, 118, 119, 120, 121, 122]
def isName (a : List Nat) : Bool := decide (1 ≤ a.length) && (decide (a.length ≤ 8) && a.all fun c => decide (c ∈ abc))
def KOk (a : List Nat) (s n : Int) : Prop := isName a = true ∧ (1 ≤ s ∧ s ≤ 4) ∧ 1 ≤ n ∧ n ≤ s
def tW (ns : List (List Nat)) : List W := ns.map fun a => W.str (tx a)
abbrev Kd := List Nat × Int × Int
def kdW (k : Kd) : W := .tup [.str (tx k.1), .int k.2.1, .int k.2.2]
abbrev Mn := List Nat × List (List Nat)
def mnW (b : Mn) : W := .tup [.str (tx b.1), .lst (tW b.2)]
def namesK (ks : List Kd) : List (List Nat) := ks.map (·.1)
def KsOk (ks : List Kd) : Prop := (namesK ks).Nodup ∧ ∀ k ∈ ks, KOk k.1 k.2.1 k.2.2
def MnOk (ks : List Kd) (b : Mn) : Prop := isName b.1 = true ∧ 1 ≤ b.2.length ∧ b.2.length ≤ 3 ∧ ∀ a ∈ b.2, a ∈ namesK ks
def MsOk (ks : List Kd) (ms : List Mn) : Prop := (ms.map (·.1)).Nodup ∧ ∀ b ∈ ms, MnOk ks b
def partsW (w : Int) (ks : List Kd) (ms : List Mn) : W := .lst [.int w, .lst (ks.map kdW), .lst (ms.map mnW)]
def YOk (w : Int) (ks : List Kd) (ms : List Mn) : Prop := (1 ≤ w ∧ w ≤ 3) ∧ (1 ≤ ks.length ∧ ks.length ≤ 6) ∧ (1 ≤ ms.length ∧ ms.length ≤ 4) ∧ KsOk ks ∧ MsOk ks ms
def ClOk (xs : List Int) : Prop := xs.length ∈ [2, 4, 8, 16] ∧ ∀ i ∈ xs, 0 ≤ i
def onesI (k : Int) : Int := k / 1 % 2 + k / 2 % 2 + k / 4 % 2 + k / 8 % 2
abbrev C4 := Int × Int × Int × Int
def w4 (c : C4) : W := .tup [.int c.1, .int c.2.1, .int c.2.2.1, .int c.2.2.2]
def cdI (mask : Int) (c : C4) : Int := if c.2.2.2 - (c.2.2.1 - onesI (mask % (1 * 2 ^ c.2.2.1.toNat))) > 0 then c.2.2.2 - (c.2.2.1 - onesI (mask % (1 * 2 ^ c.2.2.1.toNat))) else 0
def demI (cs : List C4) (mask : Int) : Int := (cs.map (cdI mask)).sum
def pw (span : Int) : Nat := 2 ^ span.toNat
def tabI (cs : List C4) (span : Int) : List Int := (izs 0 (pw span)).map (demI cs)
theorem cdI_nn {m : Int} {c : C4} : 0 ≤ cdI m c := by unfold cdI; split <;> omega
theorem sum_nn {xs : List Int} (h : ∀ x ∈ xs, 0 ≤ x) : 0 ≤ xs.sum := by
  induction xs with
  | nil => exact Int.le_refl 0
  | cons x xs ih =>
    rw [List.sum_cons]
    have := h x (List.mem_cons_self ..)
    have := ih fun y hy => h y (List.mem_cons_of_mem _ hy)
    omega
theorem tabI_len {cs : List C4} {s : Int} : (tabI cs s).length = pw s := by unfold tabI; rw [List.length_map, len_izs]
theorem pw_in {s : Int} (h1 : 1 ≤ s) (h2 : s ≤ 4) : pw s ∈ [2, 4, 8, 16] := by
  have : s = 1 ∨ s = 2 ∨ s = 3 ∨ s = 4 := by omega
  rcases this with rfl | rfl | rfl | rfl <;> decide
theorem tab_ok {cs : List C4} {s : Int} (h1 : 1 ≤ s) (h2 : s ≤ 4) : ClOk (tabI cs s) := by
  refine ⟨by rw [tabI_len]; exact pw_in h1 h2, fun i hi => ?_⟩
  unfold tabI at hi
  obtain ⟨m, _, rfl⟩ := List.mem_map.mp hi
  exact sum_nn fun x hx => by obtain ⟨c, _, rfl⟩ := List.mem_map.mp hx; exact cdI_nn
def over (w : Int) (q : Int × Nat) : Bool := decide (w * onesI q.2 < q.1)
def lowI (n i : Int) : Int := 2 * i % n
def shN (xs : List Int) (w : Int) : List Int := ((izs 0 xs.length).map (lowI xs.length)).map fun l => if atZ xs (l + 1) - w > atZ xs l then atZ xs (l + 1) - w else atZ xs l
theorem shN_len {xs : List Int} {w : Int} : (shN xs w).length = xs.length := by unfold shN; rw [List.length_map, List.length_map, len_izs]
theorem shN_ok {xs : List Int} {w : Int} (h : ClOk xs) : ClOk (shN xs w) := by
  refine ⟨by rw [shN_len]; exact h.1, fun i hi => ?_⟩
  unfold shN at hi
  obtain ⟨l, _, rfl⟩ := List.mem_map.mp hi
  have := atZ_nn h.2 (i := l)
  split <;> omega
def sums (xs ys : List Int) : List Int := (xs.zip ys).map fun q => q.1 + q.2
theorem sums_ok {xs ys : List Int} (h : ClOk xs) (g : ClOk ys) (hl : xs.length = ys.length) : ClOk (sums xs ys) := by
  refine ⟨?_, fun i hi => ?_⟩
  · have : (sums xs ys).length = xs.length := by unfold sums; rw [List.length_map, List.length_zip]; omega
    rw [this]; exact h.1
  · obtain ⟨q, hq, rfl⟩ := List.mem_map.mp hi
    have h1 := h.2 q.1 (List.of_mem_zip hq).1
    have h2 := g.2 q.2 (List.of_mem_zip hq).2
    omega
def up (a b : Int) : Int := if b > a then b else a
def spanK (ks : List Kd) : Int := (ks.map (·.2.1)).foldl up 1
theorem foldl_up : ∀ (xs : List Int) (a : Int), a ≤ xs.foldl up a ∧ (∀ x ∈ xs, x ≤ xs.foldl up a) ∧ (xs.foldl up a = a ∨ xs.foldl up a ∈ xs)
  | [], a => ⟨Int.le_refl a, ⟨fun _ h => (by cases h), Or.inl rfl⟩⟩
  | x :: xs, a => by
    obtain ⟨h1, h2, h3⟩ := foldl_up xs (up a x)
    have ha : a ≤ up a x ∧ x ≤ up a x := by unfold up; split <;> omega
    refine ⟨by show a ≤ xs.foldl up (up a x); omega, fun y hy => ?_, ?_⟩
    · rcases List.mem_cons.mp hy with rfl | hy
      · show y ≤ xs.foldl up (up a y); omega
      · exact h2 y hy
    · show xs.foldl up (up a x) = a ∨ xs.foldl up (up a x) ∈ x :: xs
      rcases h3 with h3 | h3
      · by_cases c : x > a
        · right
          have : up a x = x := if_pos c
          rw [h3, this]; exact List.mem_cons_self
        · left
          have : up a x = a := if_neg c
          rw [h3, this]
      · exact .inr (List.mem_cons_of_mem _ h3)
theorem span_rng {ks : List Kd} (h : KsOk ks) : 1 ≤ spanK ks ∧ spanK ks ≤ 4 := by
  obtain ⟨h1, h2, h3⟩ := foldl_up (ks.map (·.2.1)) 1
  refine ⟨h1, ?_⟩
  unfold spanK
  rcases h3 with h3 | h3
  · omega
  · obtain ⟨k, hk, e⟩ := List.mem_map.mp h3
    have := (h.2 k hk).2.1.2
    omega
def carOf (k : Kd) : C4 := (k.2.1, k.2.2, k.2.1, k.2.2)
def kdOf (ks : List Kd) (a : List Nat) : Kd := (ks.find? fun k => decide (k.1 = a)).getD ([], 0, 0)
def comC (ks : List Kd) (as : List (List Nat)) : List C4 := as.map fun a => carOf (kdOf ks a)
theorem find_split {ks : List Kd} {a : List Nat} (h : a ∈ namesK ks) : ∃ p q, ks = p ++ kdOf ks a :: q ∧ (kdOf ks a).1 = a ∧ ∀ k ∈ p, k.1 ≠ a := by
  unfold kdOf
  cases e : ks.find? fun k => decide (k.1 = a) with
  | none =>
    rw [List.find?_eq_none] at e
    obtain ⟨k, hk, rfl⟩ := List.mem_map.mp h
    exact absurd (decide_eq_true rfl) (e k hk)
  | some k =>
    obtain ⟨h1, p, q, h2, h3⟩ := List.find?_eq_some_iff_append.mp e
    refine ⟨p, q, h2, of_decide_eq_true h1, fun k hk => ?_⟩
    have := h3 k hk
    simpa using this
theorem kdOf_mem {ks : List Kd} {a : List Nat} (h : a ∈ namesK ks) : kdOf ks a ∈ ks := by
  obtain ⟨p, q, e, _, _⟩ := find_split h
  generalize kdOf ks a = k at e ⊢
  rw [e]; simp
def asOf (ms : List Mn) (l : Int) : List (List Nat) := if l = 0 then [] else ((ms[(l - 1).toNat]?).getD ([], [])).2
theorem as_ok {ks : List Kd} {ms : List Mn} (h : MsOk ks ms) (l : Int) : (asOf ms l).length ≤ 3 ∧ ∀ a ∈ asOf ms l, a ∈ namesK ks := by
  unfold asOf
  split
  · exact ⟨by show 0 ≤ 3; omega, fun _ h => by cases h⟩
  · cases e : ms[(l - 1).toNat]? with
    | none => exact ⟨by show 0 ≤ 3; omega, fun _ h => by cases h⟩
    | some b =>
      obtain ⟨_, _, g3, g4⟩ := h.2 b (List.mem_of_getElem? e)
      exact ⟨g3, g4⟩
theorem sums_len {xs ys : List Int} (h : xs.length = ys.length) : (sums xs ys).length = xs.length := by unfold sums; rw [List.length_map, List.length_zip]; omega
def fitsB (xs : List Int) (w : Int) : Bool := (xs.zipIdx.find? (over w)).isNone
def totT (ks : List Kd) (ms : List Mn) (xs : List Int) (l : Int) : List Int := sums xs (tabI (comC ks (asOf ms l)) (spanK ks))
def nxT (w : Int) (ks : List Kd) (ms : List Mn) (xs : List Int) (l : Int) : Option (List Int) := if fitsB (totT ks ms xs l) w = true then some (shN (totT ks ms xs l) w) else none
def TOk (ks : List Kd) (xs : List Int) : Prop := xs.length = pw (spanK ks) ∧ ∀ i ∈ xs, 0 ≤ i
theorem t_cl {ks : List Kd} {xs : List Int} (hk : KsOk ks) (h : TOk ks xs) : ClOk xs := by
  obtain ⟨h1, h2⟩ := span_rng hk
  exact ⟨by rw [h.1]; exact pw_in h1 h2, h.2⟩
theorem tot_ok {ks : List Kd} {ms : List Mn} {xs : List Int} {l : Int} (hk : KsOk ks) (h : TOk ks xs) : TOk ks (totT ks ms xs l) := by
  obtain ⟨h1, h2⟩ := span_rng hk
  have hl : xs.length = (tabI (comC ks (asOf ms l)) (spanK ks)).length := by rw [tabI_len, h.1]
  have := sums_ok (t_cl hk h) (tab_ok (cs := comC ks (asOf ms l)) h1 h2) hl
  exact ⟨by unfold totT; rw [sums_len hl, h.1], this.2⟩
theorem sh_ok {ks : List Kd} {xs : List Int} {w : Int} (hk : KsOk ks) (h : TOk ks xs) : TOk ks (shN xs w) := ⟨by rw [shN_len, h.1], (shN_ok (t_cl hk h)).2⟩
theorem nx_ok {w : Int} {ks : List Kd} {ms : List Mn} {xs ys : List Int} {l : Int} (hk : KsOk ks) (h : TOk ks xs) (e : nxT w ks ms xs l = some ys) : TOk ks ys := by
  unfold nxT at e
  split at e
  · cases e; exact sh_ok hk (tot_ok hk h)
  · cases e
structure Gw (p : Nat) (S S' : Store) : Prop where
  len : S.l.length ≤ S'.l.length
  o : S'.o = S.o
  pl : Pl S' p
  ne : ∀ q, q < S.l.length → q ≠ p → S'.l[q]? = S.l[q]?
theorem Gw.get {p q : Nat} {S S' : Store} {xs : List W} (g : Gw p S S') (h : S.lget q = some xs) (hq : q ≠ p) : S'.lget q = some xs := (lget_eq (g.ne q (lget_lt h) hq)).trans h
theorem Gw.pool {p q : Nat} {S S' : Store} (g : Gw p S S') (h : Pl S q) (hq : q ≠ p) : Pl S' q := by
  obtain ⟨a, b, c, e⟩ := h
  exact ⟨a, b, c, g.get e hq⟩
theorem nd_len {α : Type} [DecidableEq α] : ∀ {xs ys : List α}, xs.Nodup → (∀ x ∈ xs, x ∈ ys) → xs.length ≤ ys.length
  | [], _, _, _ => Nat.zero_le _
  | x :: xs, ys, h, hs => by
    have hx := hs x List.mem_cons_self
    obtain ⟨h1, h2⟩ := List.nodup_cons.mp h
    have ih := nd_len (xs := xs) (ys := ys.erase x) h2 fun z hz => (List.mem_erase_of_ne (fun e => h1 (by rw [← e]; exact hz))).mpr (hs z (List.mem_cons_of_mem _ hz))
    have := List.length_pos_of_mem hx
    rw [List.length_erase_of_mem hx] at ih
    rw [List.length_cons]
    omega
theorem Gw.tr {p : Nat} {a b c : Store} (h : Gw p a b) (w : Pw p b c) : Gw p a c := ⟨by rw [w.len]; exact h.len, w.o.trans h.o, w.pl, fun q hq hn => (w.ne q hn).trans (h.ne q hq hn)⟩
theorem Gw.push {p : Nat} {a b : Store} {x : Lo} (h : Gw p a b) : Gw p a (b.push x) := ⟨by rw [st_push_len]; have := h.len; omega, h.o, h.pl.push, fun q hq hn => by
  show (b.l ++ [x])[q]? = _
  rw [List.getElem?_append_left (by have := h.len; omega)]
  exact h.ne q hq hn⟩
theorem Gw.set {p n : Nat} {a b : Store} {x : Lo} (h : Gw p a b) (hp : p < a.l.length) (hn : a.l.length ≤ n) : Gw p a (b.setl n x) := by
  obtain ⟨i, j, k, e⟩ := h.pl
  refine ⟨by unfold Store.setl; simp; exact h.len, h.o, ⟨i, j, k, by rw [st_setl_ne (by omega)]; exact e⟩, fun q hq hn' => ?_⟩
  unfold Store.setl
  dsimp only
  rw [List.getElem?_set_ne (by omega)]
  exact h.ne q hq hn'
theorem Gw.fin {p : Nat} {st s : Store} {xs : List W} (h : Gw p st s) (hp : p < st.l.length) (hx : s.lget st.l.length = some xs) : ∃ s', fin .tr st (.rt (.l st.l.length) s) = .ok (.v (.lst xs)) s' ∧ Pw p st s' :=
  ⟨_, fin_lst h.o (Nat.le_refl _) hx, Pw.cut hp h.len h.pl h.ne⟩
structure Pz (p q : Nat) (st st' : Store) : Prop where
  len : st'.l.length = st.l.length
  o : st'.o = st.o
  pp : Pl st' p
  pq : Pl st' q
  ne : ∀ r : Nat, r ≠ p → r ≠ q → st'.l[r]? = st.l[r]?
theorem Pz.one {p q : Nat} {a b : Store} (w : Pw p a b) (h : Pl a q) : Pz p q a b := ⟨w.len, w.o, w.pl, w.other h, fun r h1 _ => w.ne r h1⟩
theorem Pz.two {p q : Nat} {a b : Store} (w : Pw q a b) (h : Pl a p) : Pz p q a b := ⟨w.len, w.o, w.other h, w.pl, fun r _ h2 => w.ne r h2⟩
theorem Pz.trans {p q : Nat} {a b c : Store} (w : Pz p q a b) (v : Pz p q b c) : Pz p q a c := ⟨v.len.trans w.len, v.o.trans w.o, v.pp, v.pq, fun r h1 h2 => (v.ne r h1 h2).trans (w.ne r h1 h2)⟩
theorem Pz.p1 {p q : Nat} {a b c : Store} (w : Pz p q a b) (v : Pw p b c) : Pz p q a c := w.trans (Pz.one v w.pq)
theorem Pz.p2 {p q : Nat} {a b c : Store} (w : Pz p q a b) (v : Pw q b c) : Pz p q a c := w.trans (Pz.two v w.pp)
--E LT := law_lot| pool .l p; words .l q; many .v (.int m); longest .v (.int lo); hard .v (.int hd); kinds .l st.l.length
abbrev Pr := Int × Int
def prW (p : Pr) : W := .tup [.int p.1, .int p.2]
def leP (a b : Pr) : Bool := decide (a.1 < b.1 ∨ (a.1 = b.1 ∧ a.2 ≤ b.2))
theorem leP_iff {a b : Pr} : leP a b = true ↔ a.1 < b.1 ∨ (a.1 = b.1 ∧ a.2 ≤ b.2) := decide_eq_true_iff
theorem leP_total (a b : Pr) : (leP a b || leP b a) = true := by
  by_cases h : leP a b = true
  · rw [h]; rfl
  · have h2 : leP b a = true := by rw [leP_iff] at h ⊢; omega
    rw [h2]; simp
theorem leP_trans {a b c : Pr} (h1 : leP a b = true) (h2 : leP b c = true) : leP a c = true := by
  rw [leP_iff] at h1 h2 ⊢; omega
def sortP (ps : List Pr) : List Pr := ps.mergeSort leP
abbrev UpP (ps : List Pr) : Prop := ps.Pairwise fun a b => leP a b = true
theorem sortP_perm {ps : List Pr} : (sortP ps).Perm ps := List.mergeSort_perm ..
theorem sortP_up {ps : List Pr} : UpP (sortP ps) := List.pairwise_mergeSort (le := leP) (fun _ _ _ h1 h2 => leP_trans h1 h2) leP_total ps
def anW (a : List Pr) : W := .tup (a.map prW)
def uniq {α : Type} [DecidableEq α] : List α → List α
  | [] => []
  | x :: xs => x :: (uniq xs).filter fun y => decide (y ≠ x)
theorem mem_uniq {α : Type} [DecidableEq α] {x : α} : ∀ {xs : List α}, x ∈ uniq xs ↔ x ∈ xs
  | [] => Iff.rfl
  | y :: ys => by
    unfold uniq
    rw [List.mem_cons, List.mem_cons, List.mem_filter, mem_uniq]
    by_cases c : x = y
    · simp [c]
    · simp [c]
def comb : Nat → List Pr → List (List Pr)
  | 0, _ => [[]]
  | _ + 1, [] => []
  | k + 1, p :: ps => (comb k ps).map (p :: ·) ++ comb (k + 1) ps
theorem comb_sub : ∀ {k : Nat} {ps : List Pr}, ∀ a ∈ comb k ps, a.Sublist ps
  | 0, ps, a, h => by unfold comb at h; rw [List.mem_singleton.mp h]; exact List.nil_sublist _
  | k + 1, [], a, h => by unfold comb at h; cases h
  | k + 1, p :: ps, a, h => by
    unfold comb at h
    rcases List.mem_append.mp h with h | h
    · obtain ⟨b, hb, rfl⟩ := List.mem_map.mp h
      exact (comb_sub b hb).cons_cons p
    · exact (comb_sub a h).cons p
def answersP (ps : List Pr) (w : Int) : List (List Pr) := uniq (comb (min w.toNat ps.length) ps)
section
open Classical
end
def pr4 (c : C4) : Pr := (c.2.2.1, c.2.2.2)
theorem map_one {α β : Type} {f : α → β} (hf : ∀ a b, f a = f b → a = b) : ∀ {xs ys : List α}, xs.map f = ys.map f → xs = ys
  | [], [], _ => rfl
  | x :: xs, y :: ys, h => by
    rw [List.map_cons, List.map_cons] at h
    obtain ⟨h1, h2⟩ := List.cons.inj h
    rw [hf _ _ h1, map_one hf h2]
  | [], _ :: _, h => by cases h
  | _ :: _, [], h => by cases h
theorem anW_inj {a b : List Pr} (h : a.map prW = b.map prW) : a = b := map_one (f := prW) (fun p q e => by
  unfold prW at e
  simp only [W.tup.injEq, List.cons.injEq, W.int.injEq, and_true] at e
  exact Prod.ext e.1 e.2) h
def grown (st st' : Store) : Prop := st'.l.take st.l.length = st.l ∧ st'.o = st.o ∧ st.l.length ≤ st'.l.length
theorem grown_push {st st' : Store} {x : Lo} (h : grown st st') : grown st (st'.push x) := by
  obtain ⟨h1, h2, h3⟩ := h
  refine ⟨?_, h2, ?_⟩
  · show (st'.l ++ [x]).take st.l.length = st.l
    rw [List.take_append_of_le_length h3]; exact h1
  · show st.l.length ≤ (st'.l ++ [x]).length
    rw [List.length_append]; omega
theorem grown_refl {st : Store} : grown st st := ⟨List.take_length, rfl, Nat.le_refl _⟩
theorem grown_setl {st s : Store} {n : Nat} {x : Lo} (h : grown st s) (hn : st.l.length ≤ n) : grown st (s.setl n x) := by
  obtain ⟨h1, h2, h3⟩ := h
  refine ⟨?_, h2, by unfold Store.setl; simp; exact h3⟩
  unfold Store.setl
  dsimp only
  rw [List.take_set_of_le hn]
  exact h1
structure T2 (st s : Store) (A B : List W) : Prop where
  gr : grown st s
  l0 : s.lget st.l.length = some A
  l1 : s.lget (st.l.length + 1) = some B
section
variable {st s : Store} {A A' B B' : List W}
theorem T2.start (x y : List W) : T2 st ((st.push (.lst x)).push (.lst y)) x y := ⟨grown_push (grown_push grown_refl), by rw [st_push_lt (by rw [st_push_len]; omega)]; exact st_push_get, push_get (by rw [st_push_len])⟩
theorem T2.push (h : T2 st s A B) {x : Lo} : T2 st (s.push x) A B := ⟨grown_push h.gr, by rw [st_push_lt (lget_lt h.l0)]; exact h.l0, by rw [st_push_lt (lget_lt h.l1)]; exact h.l1⟩
end
def dec1 (p : Pr) : Pr := (p.1 - 1, p.2)
def dec2 (p : Pr) : Pr := (p.1 - 1, p.2 - 1)
def othersP (ps a : List Pr) : List Pr := a.foldl (fun o p => o.erase p) ps
def lostP (al : List Pr) : Bool := al.any fun p => decide (p.1 < p.2)
def allP (ps a : List Pr) : List Pr := a.map dec2 ++ (othersP ps a).map dec1
def afterP (ps a : List Pr) : Option (List Pr) := if lostP (allP ps a) = true then none else some (sortP ((allP ps a).filter fun p => decide (0 < p.2)))
abbrev Gs := List Pr × List Int
def gsW (s : Gs) : W := .tup [anW s.1, .tup (s.2.map W.int)]
def optG : Option Gs → W
  | none => .non
  | some s => gsW s
abbrev Row1 := List Pr × Option Gs
def rowW (r : Row1) : W := .tup [anW r.1, optG r.2]
def ansW : Option (List Row1) → W
  | none => .non
  | some rs => .lst (rs.map rowW)
def comP (ks : List Kd) (ms : List Mn) (l : Int) : List Pr := (comC ks (asOf ms l)).map pr4
def joinP (ks : List Kd) (ms : List Mn) (ps : List Pr) (l : Int) : List Pr := sortP (ps ++ comP ks ms l)
def turnG (w : Int) (ks : List Kd) (ms : List Mn) (s : Gs) (l : Int) : Option (List Row1) := (nxT w ks ms s.2 l).map fun t => (answersP (joinP ks ms s.1 l) w).map fun a => (a, (afterP (joinP ks ms s.1 l) a).map fun ps => (ps, t))
def PB (ps : List Pr) : Prop := UpP ps ∧ (∀ p ∈ ps, 1 ≤ p.2 ∧ p.2 ≤ p.1) ∧ ∀ k : Nat, ps.countP (fun p => decide ((k : Int) + 1 ≤ p.1)) ≤ 9 - 3 * k
def GOkS (ks : List Kd) (s : Gs) : Prop := TOk ks s.2 ∧ PB s.1
theorem comP_ok {ks : List Kd} {ms : List Mn} (hk : KsOk ks) (hm : MsOk ks ms) (l : Int) : (comP ks ms l).length ≤ 3 ∧ ∀ p ∈ comP ks ms l, 1 ≤ p.2 ∧ p.2 ≤ p.1 ∧ p.1 ≤ 4 := by
  obtain ⟨h1, h2⟩ := as_ok (ks := ks) hm l
  refine ⟨by unfold comP comC; rw [List.length_map, List.length_map]; exact h1, fun p hp => ?_⟩
  obtain ⟨c, hc, rfl⟩ := List.mem_map.mp hp
  obtain ⟨a, ha, rfl⟩ := List.mem_map.mp hc
  have := hk.2 _ (kdOf_mem (h2 a ha))
  unfold KOk at this
  unfold carOf pr4
  dsimp only
  omega
theorem allP_count {ps a : List Pr} (h : a.Sublist ps) (q : Pr → Bool) (r : Pr → Bool) (hq : ∀ p ∈ ps, (q (dec1 p) = true → r p = true) ∧ (q (dec2 p) = true → r p = true)) : (allP ps a).countP q ≤ ps.countP r := by
  have hsub : ∀ x ∈ a, x ∈ ps := fun x hx => h.subset hx
  have key : ∀ (b o : List Pr), (∀ x ∈ b, x ∈ o) → (∀ x, b.count x ≤ o.count x) → (∀ x ∈ o, x ∈ ps) → ((b.map dec2).countP q + ((othersP o b).map dec1).countP q) ≤ o.countP r := fun b => by
    induction b with
    | nil =>
      intro o _ _ ho
      show 0 + (o.map dec1).countP q ≤ _
      rw [Nat.zero_add, List.countP_map]
      exact List.countP_mono_left fun x hx hqx => (hq x (ho x hx)).1 hqx
    | cons p b ih =>
      intro o hb hc ho
      have hp : p ∈ o := hb p List.mem_cons_self
      have hc' : ∀ x, b.count x ≤ (o.erase p).count x := fun x => by
        have := hc x
        rw [List.count_cons] at this
        rw [List.count_erase]
        by_cases e : p = x
        · subst e; simp at this ⊢; omega
        · have e1 : (p == x) = false := beq_eq_false_iff_ne.mpr e
          have e2 : (x == p) = false := beq_eq_false_iff_ne.mpr fun z => e z.symm
          simp only [e1, e2] at this ⊢
          simpa using this
      have ih' := ih (o.erase p) (fun x hx => by
        have := hc' x
        have h2 : 0 < b.count x := List.count_pos_iff.mpr hx
        exact List.count_pos_iff.mp (by omega)) hc' (fun x hx => ho x (List.mem_of_mem_erase hx))
      have hperm := (List.perm_cons_erase hp).countP_eq r
      rw [List.countP_cons] at hperm
      show ((dec2 p :: b.map dec2).countP q + ((othersP (o.erase p) b).map dec1).countP q) ≤ o.countP r
      rw [List.countP_cons, hperm]
      by_cases c : q (dec2 p) = true
      · rw [if_pos c, if_pos ((hq p (ho p hp)).2 c)]; omega
      · rw [if_neg c]; omega
  have := key a ps hsub (fun x => h.count_le x) (fun x hx => hx)
  unfold allP
  rw [List.countP_append]
  exact this
theorem afterP_ok {ks : List Kd} {ms : List Mn} {ps a qs : List Pr} {l : Int} (hk : KsOk ks) (hm : MsOk ks ms) (h : PB ps) (ha : a.Sublist (joinP ks ms ps l)) (e : afterP (joinP ks ms ps l) a = some qs) : PB qs := by
  obtain ⟨c1, c2⟩ := comP_ok hk hm l
  unfold afterP at e
  split at e
  · cases e
  · rename_i hl
    cases e
    have hp := sortP_perm (ps := (allP (joinP ks ms ps l) a).filter fun p => decide (0 < p.2))
    refine ⟨sortP_up, fun p hp' => ?_, fun k => ?_⟩
    · obtain ⟨h1, h2⟩ := List.mem_filter.mp (hp.mem_iff.mp hp')
      have h3 := of_decide_eq_true h2
      refine ⟨by omega, ?_⟩
      by_cases c : p.2 ≤ p.1
      · exact c
      · refine absurd ?_ hl
        unfold lostP
        exact List.any_eq_true.mpr ⟨p, h1, decide_eq_true (by omega)⟩
    · rw [hp.countP_eq]
      refine Nat.le_trans (List.Sublist.countP_le List.filter_sublist) ?_
      have s1 := allP_count ha (fun p => decide ((k : Int) + 1 ≤ p.1)) (fun p => decide (((k + 1 : Nat) : Int) + 1 ≤ p.1)) (fun p _ => by
        unfold dec1 dec2
        simp only [decide_eq_true_eq]
        exact ⟨fun z => by omega, fun z => by omega⟩)
      refine Nat.le_trans s1 ?_
      unfold joinP
      rw [sortP_perm.countP_eq, List.countP_append]
      have h1 := h.2.2 (k + 1)
      have h2 : (comP ks ms l).countP (fun p => decide (((k + 1 : Nat) : Int) + 1 ≤ p.1)) ≤ (comP ks ms l).length := List.countP_le_length
      by_cases hk2 : k ≤ 2
      · omega
      · have h3 : (comP ks ms l).countP (fun p => decide (((k + 1 : Nat) : Int) + 1 ≤ p.1)) = 0 := List.countP_eq_zero.mpr fun p hp => by
          have := c2 p hp
          simp; omega
        omega
theorem answers_sub {ps : List Pr} {w : Int} {a : List Pr} (h : a ∈ answersP ps w) : a.Sublist ps := comb_sub a (mem_uniq.mp h)
theorem turn_ok {w : Int} {ks : List Kd} {ms : List Mn} {s : Gs} {l : Int} {rs : List Row1} (hy : YOk w ks ms) (h : GOkS ks s) (e : turnG w ks ms s l = some rs) : ∀ r ∈ rs, ∀ s', r.2 = some s' → GOkS ks s' := by
  obtain ⟨_, _, _, hk, hm⟩ := id hy
  unfold turnG at e
  obtain ⟨t, ht, rfl⟩ := Option.map_eq_some_iff.mp e
  intro r hr s' hs
  obtain ⟨a, ha, rfl⟩ := List.mem_map.mp hr
  obtain ⟨qs, hq, rfl⟩ := Option.map_eq_some_iff.mp hs
  exact ⟨nx_ok hk h.1 ht, afterP_ok hk hm h.2 (answers_sub ha) hq⟩
def anL (a : List Pr) : W := .lst (a.map prW)
def gsL (s : Gs) : W := .lst [anL s.1, .lst (s.2.map W.int)]
def optGL : Option Gs → W
  | none => .non
  | some s => gsL s
def rowL (r : Row1) : W := .lst [anL r.1, optGL r.2]
def ansL : Option (List Row1) → W
  | none => .non
  | some rs => .lst (rs.map rowL)
abbrev Ent := List (Option (List Row1))
def gxOne (lim : Nat) (S : List Gs) (o : Option Gs) : Option (List Gs) := match o with
  | none => some S
  | some s => if s ∈ S then some S else if S.length = lim then none else some (S ++ [s])
def gxRow (lim : Nat) (S : List Gs) (t : Option (List Row1)) : Option (List Gs) := match t with
  | none => some S
  | some rs => (rs.map (·.2)).foldlM (gxOne lim) S
def gxLet (f : Gs → Int → Option (List Row1)) (lim : Nat) (here : Gs) (x : List Gs × Ent) (l : Nat) : Option (List Gs × Ent) := (gxRow lim x.1 (f here (l : Int))).map fun S => (S, x.2 ++ [f here (l : Int)])
def gxL (f : Gs → Int → Option (List Row1)) (lim : Nat) (here : Gs) (ls : List Nat) (x : List Gs × Ent) : Option (List Gs × Ent) := ls.foldlM (gxLet f lim here) x
structure Gro (lim : Nat) (P : Gs → Prop) (S T : List Gs) : Prop where
  pre : ∃ z, T = S ++ z
  len : S.length ≤ lim → T.length ≤ lim
  nd : S.Nodup → T.Nodup
  all : (∀ s ∈ S, P s) → ∀ s ∈ T, P s
theorem Gro.refl {lim : Nat} {P : Gs → Prop} {S : List Gs} : Gro lim P S S := ⟨⟨[], by simp⟩, fun h => h, fun h => h, fun h => h⟩
theorem Gro.trans {lim : Nat} {P : Gs → Prop} {S T U : List Gs} (a : Gro lim P S T) (b : Gro lim P T U) : Gro lim P S U := by
  obtain ⟨z1, h1⟩ := a.pre
  obtain ⟨z2, h2⟩ := b.pre
  exact ⟨⟨z1 ++ z2, by rw [h2, h1, List.append_assoc]⟩, fun h => b.len (a.len h), fun h => b.nd (a.nd h), fun h => b.all (a.all h)⟩
theorem Gro.le {lim : Nat} {P : Gs → Prop} {S T : List Gs} (a : Gro lim P S T) : S.length ≤ T.length := by
  obtain ⟨z, h⟩ := a.pre
  rw [h, List.length_append]; omega
theorem gxOne_gro {lim : Nat} {P : Gs → Prop} {S T : List Gs} {o : Option Gs} (h : gxOne lim S o = some T) (hP : ∀ s, o = some s → P s) : Gro lim P S T := by
  unfold gxOne at h
  split at h
  · cases h; exact Gro.refl
  · rename_i s
    split at h
    · cases h; exact Gro.refl
    · rename_i hs
      split at h
      · cases h
      · rename_i hn
        cases h
        refine ⟨⟨[s], rfl⟩, fun hl => by rw [List.length_append, List.length_singleton]; omega, fun z => ?_, fun ha s' hs' => ?_⟩
        · rw [List.nodup_append]
          exact ⟨z, by simp, fun a ha b hb e2 => hs (by rw [List.mem_singleton] at hb; rw [← hb, ← e2]; exact ha)⟩
        · rcases List.mem_append.mp hs' with z | z
          · exact ha s' z
          · rw [List.mem_singleton.mp z]; exact hP s rfl
theorem foldM_gro {α : Type} {lim : Nat} {P : Gs → Prop} {g : List Gs → α → Option (List Gs)} : ∀ {os : List α} {S T : List Gs}, (∀ o ∈ os, ∀ S T, g S o = some T → Gro lim P S T) → os.foldlM g S = some T → Gro lim P S T
  | [], S, T, _, h => by cases h; exact Gro.refl
  | o :: os, S, T, hg, h => by
    rw [List.foldlM_cons] at h
    cases e : g S o with
    | none => rw [e] at h; cases h
    | some S1 =>
      rw [e] at h
      exact (hg o List.mem_cons_self S S1 e).trans (foldM_gro (fun o' ho' => hg o' (List.mem_cons_of_mem _ ho')) h)
theorem gxRow_gro {lim : Nat} {P : Gs → Prop} {S T : List Gs} {t : Option (List Row1)} (h : gxRow lim S t = some T) (hP : ∀ rs, t = some rs → ∀ r ∈ rs, ∀ s, r.2 = some s → P s) : Gro lim P S T := by
  unfold gxRow at h
  split at h
  · cases h; exact Gro.refl
  · rename_i rs
    refine foldM_gro (fun o ho S T e => gxOne_gro e fun s hs => ?_) h
    obtain ⟨r, hr, rfl⟩ := List.mem_map.mp ho
    exact hP rs rfl r hr s hs
theorem gxL_gro {f : Gs → Int → Option (List Row1)} {lim : Nat} {here : Gs} {P : Gs → Prop} : ∀ {ls : List Nat} {x y : List Gs × Ent}, gxL f lim here ls x = some y → (∀ l ∈ ls, ∀ rs, f here ((l : Nat) : Int) = some rs → ∀ r ∈ rs, ∀ s, r.2 = some s → P s) → Gro lim P x.1 y.1 ∧ y.2 = x.2 ++ ls.map fun l : Nat => f here (l : Int)
  | [], x, y, h, _ => by cases h; exact ⟨Gro.refl, by simp⟩
  | l :: ls, x, y, h, hP => by
    unfold gxL at h
    rw [List.foldlM_cons] at h
    cases e : gxLet f lim here x l with
    | none => rw [e] at h; cases h
    | some x2 =>
      rw [e] at h
      unfold gxLet at e
      obtain ⟨S, e1, rfl⟩ := Option.map_eq_some_iff.mp e
      obtain ⟨g1, g2⟩ := gxL_gro (ls := ls) (x := (S, x.2 ++ [f here (l : Int)])) h fun l' hl' => hP l' (List.mem_cons_of_mem _ hl')
      exact ⟨(gxRow_gro e1 (hP l List.mem_cons_self)).trans g1, by rw [g2, List.append_assoc]; rfl⟩
structure GX (ks : List Kd) (f : Gs → Int → Option (List Row1)) (lim m : Nat) (S : List Gs) (A : List Ent) : Prop where
  sl : S.length ≤ lim
  al : A.length ≤ S.length
  nd : S.Nodup
  ok : ∀ s ∈ S, GOkS ks s
  en : ∀ (i : Nat) (s : Gs), i < A.length → S[i]? = some s → A[i]? = some ((List.range (m + 1)).map fun l : Nat => f s (l : Int))
theorem GX.row {w : Int} {ks : List Kd} {ms : List Mn} {lim : Nat} {S : List Gs} {A : List Ent} {here : Gs} {ls : List Nat} {y : List Gs × Ent} (hy : YOk w ks ms) (h : GX ks (turnG w ks ms) lim ms.length S A) (hh : GOkS ks here) (e : gxL (turnG w ks ms) lim here ls (S, []) = some y) :
    Gro lim (GOkS ks) S y.1 ∧ y.2 = ls.map fun l : Nat => turnG w ks ms here (l : Int) := by
  obtain ⟨g1, g2⟩ := gxL_gro (P := GOkS ks) e fun l _ rs hr r hr' s hs => turn_ok hy hh hr r hr' s hs
  exact ⟨g1, by rw [g2]; rfl⟩
theorem GX.next {w : Int} {ks : List Kd} {ms : List Mn} {lim : Nat} {S : List Gs} {A : List Ent} {here : Gs} {y : List Gs × Ent} (hy : YOk w ks ms) (h : GX ks (turnG w ks ms) lim ms.length S A) (hat : S[A.length]? = some here) (e : gxL (turnG w ks ms) lim here (List.range (ms.length + 1)) (S, []) = some y) :
    GX ks (turnG w ks ms) lim ms.length y.1 (A ++ [y.2]) := by
  have hh := h.ok _ (List.mem_of_getElem? hat)
  obtain ⟨g1, g2⟩ := h.row hy hh e
  have hlt := (List.getElem?_eq_some_iff.mp hat).1
  have hle := g1.le
  obtain ⟨z, hz⟩ := g1.pre
  refine ⟨g1.len h.sl, by rw [List.length_append, List.length_singleton]; omega, g1.nd h.nd, g1.all h.ok, fun i s hi hs => ?_⟩
  rw [List.length_append, List.length_singleton] at hi
  by_cases c : i < A.length
  · rw [List.getElem?_append_left c]
    refine h.en i s c ?_
    rw [hz, List.getElem?_append_left (by omega)] at hs
    exact hs
  · obtain rfl : i = A.length := by omega
    rw [List.getElem?_append_right (Nat.le_refl _), Nat.sub_self]
    rw [hz, List.getElem?_append_left hlt, hat] at hs
    cases hs
    rw [g2]; rfl
theorem anW_injW {a b : List Pr} (h : anW a = anW b) : a = b := anW_inj (W.tup.inj h)
theorem ints_injG {a b : List Int} (h : a.map W.int = b.map W.int) : a = b := map_one (fun _ _ e => W.int.inj e) h
theorem gsW_inj {a b : Gs} (h : gsW a = gsW b) : a = b := by
  unfold gsW at h
  simp only [W.tup.injEq, List.cons.injEq, and_true] at h
  exact Prod.ext (anW_injW h.1) (ints_injG h.2)
theorem gsW_mem {s : Gs} {S : List Gs} : gsW s ∈ S.map gsW ↔ s ∈ S := ⟨fun h => by obtain ⟨a, h1, h2⟩ := List.mem_map.mp h; exact gsW_inj h2 ▸ h1, fun h => List.mem_map.mpr ⟨s, h, rfl⟩⟩
def entL (e : Ent) : W := .lst (e.map ansL)
structure GL (st s : Store) (S : List Gs) (A : List Ent) : Prop where
  gr : grown st s
  l0 : s.lget st.l.length = some (S.map gsL)
  l1 : s.lget (st.l.length + 1) = some (A.map entL)
section
variable {st s : Store} {S S' : List Gs} {A A' : List Ent}
theorem GL.push (h : GL st s S A) {x : Lo} : GL st (s.push x) S A := ⟨grown_push h.gr, by rw [st_push_lt (lget_lt h.l0)]; exact h.l0, by rw [st_push_lt (lget_lt h.l1)]; exact h.l1⟩
theorem GL.row (h : GL st s S A) {n : Nat} {x : Lo} (hn : st.l.length + 1 < n) : GL st (s.setl n x) S A := ⟨grown_setl h.gr (by omega), by rw [st_setl_ne (by omega)]; exact h.l0, by rw [st_setl_ne (by omega)]; exact h.l1⟩
theorem GL.states (h : GL st s S A) : GL st (s.setl st.l.length (.lst (S'.map gsL))) S' A := ⟨grown_setl h.gr (by omega), st_setl_get (lget_lt h.l0), by rw [st_setl_ne (by omega)]; exact h.l1⟩
end
def entW (e : Ent) : W := .lst (e.map ansW)
def numsG (n : Nat) : List W := (List.range n).map fun i => W.int ((i : Nat) : Int)
theorem numsG_succ {n : Nat} : numsG n ++ [.int (n : Int)] = numsG (n + 1) := by unfold numsG; rw [List.range_succ, List.map_append]; rfl
structure GZ (z : In) (y : W) (a : Nat) : Prop where
  c : z.c = 11
  ya : (z.ns.zip z.vs).lookup ("yard" : Str) = some (.v y)
  s0 : (z.ns.zip z.vs).lookup ("_states" : Str) = some (.l a)
  s1 : (z.ns.zip z.vs).lookup ("_found" : Str) = some (.l (a + 1))
  s2 : (z.ns.zip z.vs).lookup ("_answers" : Str) = some (.l (a + 2))
  s3 : (z.ns.zip z.vs).lookup ("_numbers" : Str) = some (.l (a + 3))
  m0 : ((z.ns.zip z.vs).lookup ("_answers_of" : Str)).isNone = true
  m1 : ((z.ns.zip z.vs).lookup ("_explore" : Str)).isNone = true
  m2 : ((z.ns.zip z.vs).lookup ("_threat_of" : Str)).isNone = true
  m3 : ((z.ns.zip z.vs).lookup ("_new_threats" : Str)).isNone = true
  m4 : ((z.ns.zip z.vs).lookup ("_rank_states" : Str)).isNone = true
  m5 : ((z.ns.zip z.vs).lookup ("_check" : Str)).isNone = true
  m6 : ((z.ns.zip z.vs).lookup ("answers" : Str)).isNone = true
  m7 : ((z.ns.zip z.vs).lookup ("choice" : Str)).isNone = true
  m8 : ((z.ns.zip z.vs).lookup ("rank" : Str)).isNone = true
  m9 : ((z.ns.zip z.vs).lookup ("threat" : Str)).isNone = true
structure GP (st s : Store) (z : In) (y : W) (S : List Gs) (A : List Ent) (n : Nat) : Prop where
  gz : GZ z y st.l.length
  o : s.o = st.o ++ [z]
  gl : s.l.take st.l.length = st.l
  l0 : s.lget st.l.length = some (S.map gsW)
  l1 : s.l[st.l.length + 1]? = some (.dn (S.map gsW) (S.map fun _ => .bl true))
  l2 : s.lget (st.l.length + 2) = some (A.map entW)
  l3 : s.l[st.l.length + 3]? = some (.dn ((S.take n).map gsW) (numsG n))
section
variable {st s : Store} {z : In} {y : W} {S S' : List Gs} {A A' : List Ent} {n n' : Nat}
theorem take_setG {s : Store} {n : Nat} {x : Lo} (h : s.l.take st.l.length = st.l) (hn : st.l.length ≤ n) : (s.setl n x).l.take st.l.length = st.l := by
  unfold Store.setl
  dsimp only
  rw [List.take_set_of_le hn]
  exact h
theorem raw_neG {s : Store} {n m : Nat} {x : Lo} (h : n ≠ m) : (s.setl n x).l[m]? = s.l[m]? := by unfold Store.setl; dsimp only; exact List.getElem?_set_ne h
theorem raw_eqG {s : Store} {n : Nat} {x : Lo} (h : n < s.l.length) : (s.setl n x).l[n]? = some x := by unfold Store.setl; dsimp only; exact List.getElem?_set_self h
theorem GP.at_ (h : GP st s z y S A n) {s' : Store} (e : s'.o = s.o) : s'.o[st.o.length]? = some z := by rw [e, h.o]; simp
theorem GP.yard (h : GP st s z y S A n) {s' : Store} (e : s'.o = s.o) : attrOf [11] "yard" (.o st.o.length) s' = .ok (.v y) s' := attr_o (h.at_ e) (List.mem_singleton.mpr h.gz.c) h.gz.ya
theorem GP.states (h : GP st s z y S A n) {s' : Store} (e : s'.o = s.o) : attrOf [11] "_states" (.o st.o.length) s' = .ok (.l st.l.length) s' := attr_o (h.at_ e) (List.mem_singleton.mpr h.gz.c) h.gz.s0
theorem GP.found (h : GP st s z y S A n) {s' : Store} (e : s'.o = s.o) : attrOf [11] "_found" (.o st.o.length) s' = .ok (.l (st.l.length + 1)) s' := attr_o (h.at_ e) (List.mem_singleton.mpr h.gz.c) h.gz.s1
theorem GP.answers (h : GP st s z y S A n) {s' : Store} (e : s'.o = s.o) : attrOf [11] "_answers" (.o st.o.length) s' = .ok (.l (st.l.length + 2)) s' := attr_o (h.at_ e) (List.mem_singleton.mpr h.gz.c) h.gz.s2
theorem GP.push (h : GP st s z y S A n) {x : Lo} : GP st (s.push x) z y S A n := by
  have q2 := lget_lt h.l2
  have q3 : st.l.length + 3 < s.l.length := get_lt h.l3
  refine ⟨h.gz, h.o, ?_, by rw [st_push_lt (by omega)]; exact h.l0, ?_, by rw [st_push_lt (by omega)]; exact h.l2, ?_⟩
  · show (s.l ++ [x]).take st.l.length = st.l
    rw [List.take_append_of_le_length (by omega)]
    exact h.gl
  · show (s.l ++ [x])[_]? = _
    rw [List.getElem?_append_left (by omega)]; exact h.l1
  · show (s.l ++ [x])[_]? = _
    rw [List.getElem?_append_left q3]; exact h.l3
theorem GP.row (h : GP st s z y S A n) {k : Nat} {x : Lo} (hk : st.l.length + 3 < k) : GP st (s.setl k x) z y S A n :=
  ⟨h.gz, h.o, take_setG h.gl (by omega), by rw [st_setl_ne (by omega)]; exact h.l0, by rw [raw_neG (by omega)]; exact h.l1, by rw [st_setl_ne (by omega)]; exact h.l2, by rw [raw_neG (by omega)]; exact h.l3⟩
theorem GP.new (h : GP st s z y S A n) {x : Gs} (hn : n ≤ S.length) : GP st ((s.setl (st.l.length + 1) (.dn (S.map gsW ++ [gsW x]) ((S.map fun _ => W.bl true) ++ [.bl true]))).setl st.l.length (.lst ((S ++ [x]).map gsW))) z y (S ++ [x]) A n := by
  have q2 := lget_lt h.l2
  refine ⟨h.gz, h.o, take_setG (take_setG h.gl (by omega)) (by omega), st_setl_get (by unfold Store.setl; simp; omega), ?_, ?_, ?_⟩
  · rw [raw_neG (by omega), raw_eqG (by omega), List.map_append, List.map_append]; rfl
  · rw [st_setl_ne (by omega), st_setl_ne (by omega)]; exact h.l2
  · rw [raw_neG (by omega), raw_neG (by omega), h.l3, List.take_append_of_le_length hn]
theorem GP.num (h : GP st s z y S A n) {x : Gs} (hx : S[n]? = some x) : GP st (s.setl (st.l.length + 3) (.dn ((S.take n).map gsW ++ [gsW x]) (numsG n ++ [.int (n : Int)]))) z y S A (n + 1) := by
  have q3 : st.l.length + 3 < s.l.length := get_lt h.l3
  refine ⟨h.gz, h.o, take_setG h.gl (by omega), by rw [st_setl_ne (by omega)]; exact h.l0, by rw [raw_neG (by omega)]; exact h.l1, by rw [st_setl_ne (by omega)]; exact h.l2, ?_⟩
  rw [raw_eqG q3, numsG_succ, List.take_succ, hx, List.map_append]; rfl
theorem GP.take (h : GP st s z y S A n) {k : Nat} (hk : st.l.length + 4 ≤ k) {o : List In} (ho : o = s.o) : GP st ⟨s.l.take k, o⟩ z y S A n := by
  subst ho
  have q : ∀ i, i < k → (s.l.take k)[i]? = s.l[i]? := fun i hi => List.getElem?_take_of_lt hi
  refine ⟨h.gz, h.o, ?_, ?_, ?_, ?_, ?_⟩
  · show (s.l.take k).take st.l.length = st.l
    rw [List.take_take, Nat.min_eq_left (by omega)]; exact h.gl
  · rw [lget_eq (st := s) (q _ (by omega))]; exact h.l0
  · show (s.l.take k)[_]? = _
    rw [q _ (by omega)]; exact h.l1
  · rw [lget_eq (st := s) (q _ (by omega))]; exact h.l2
  · show (s.l.take k)[_]? = _
    rw [q _ (by omega)]; exact h.l3
end
def lostRow (K : List Gs) : Option (List Row1) → Bool
  | none => false
  | some rs => rs.all fun r => match r.2 with
    | none => true
    | some s => decide (s ∈ K)
def threatG (K : List Gs) (e : Ent) : Option Nat := e.findIdx? (lostRow K)
def newT (S : List Gs) (A : List Ent) (K : List Gs) : List (Gs × Nat) := (S.zip A).filterMap fun q => if q.1 ∈ K then none else (threatG K q.2).map fun l => (q.1, l)
abbrev Rk := Gs × Nat × Nat
structure GQ (st s : Store) (z : In) (y : W) (S : List Gs) (A : List Ent) (R : List Rk) : Prop where
  gp : GP st s z y S A S.length
  r0 : (z.ns.zip z.vs).lookup ("_ranks" : Str) = some (.l (st.l.length + 4))
  r1 : (z.ns.zip z.vs).lookup ("_threats" : Str) = some (.l (st.l.length + 5))
  l4 : s.l[st.l.length + 4]? = some (.dn (R.map fun q => gsW q.1) (R.map fun q => .int (q.2.1 : Int)))
  l5 : s.l[st.l.length + 5]? = some (.dn (R.map fun q => gsW q.1) (R.map fun q => .int (q.2.2 : Int)))
section
variable {st s : Store} {z : In} {y : W} {S : List Gs} {A : List Ent} {R : List Rk}
theorem GQ.threats (h : GQ st s z y S A R) {s' : Store} (e : s'.o = s.o) : attrOf [11] "_threats" (.o st.o.length) s' = .ok (.l (st.l.length + 5)) s' := attr_o (h.gp.at_ e) (List.mem_singleton.mpr h.gp.gz.c) h.r1
theorem GQ.push (h : GQ st s z y S A R) {x : Lo} : GQ st (s.push x) z y S A R := by
  have q5 : st.l.length + 5 < s.l.length := get_lt h.l5
  refine ⟨h.gp.push, h.r0, h.r1, ?_, ?_⟩
  · show (s.l ++ [x])[_]? = _
    rw [List.getElem?_append_left (by omega)]; exact h.l4
  · show (s.l ++ [x])[_]? = _
    rw [List.getElem?_append_left q5]; exact h.l5
theorem GQ.row (h : GQ st s z y S A R) {k : Nat} {x : Lo} (hk : st.l.length + 5 < k) : GQ st (s.setl k x) z y S A R :=
  ⟨h.gp.row (by omega), h.r0, h.r1, by rw [raw_neG (by omega)]; exact h.l4, by rw [raw_neG (by omega)]; exact h.l5⟩
theorem GQ.mem (h : GQ st s z y S A R) {g : Gs} : gsW g ∈ (R.map fun q => gsW q.1) ↔ g ∈ R.map (·.1) := by
  have e : (R.map fun q => gsW q.1) = (R.map (·.1)).map gsW := (List.map_map (g := gsW) (f := fun q : Rk => q.1) (l := R)).symm
  rw [e]
  exact gsW_mem
end
structure RK (S : List Gs) (R : List Rk) : Prop where
  nd : (R.map (·.1)).Nodup
  sub : ∀ g ∈ R.map (·.1), g ∈ S
theorem RK.len {S : List Gs} {R : List Rk} (h : RK S R) : R.length ≤ S.length := by
  have := nd_len h.nd h.sub
  rw [List.length_map] at this
  exact this
theorem newT_mem {S : List Gs} {A : List Ent} {K : List Gs} {q : Gs × Nat} (h : q ∈ newT S A K) : q.1 ∈ S ∧ q.1 ∉ K := by
  obtain ⟨p, hp, e⟩ := List.mem_filterMap.mp h
  split at e
  · cases e
  · rename_i hk
    obtain ⟨l, _, rfl⟩ := Option.map_eq_some_iff.mp e
    exact ⟨(List.of_mem_zip (show (p.1, p.2) ∈ S.zip A from hp)).1, hk⟩
theorem newT_nd {K : List Gs} : ∀ {S : List Gs} {A : List Ent}, S.Nodup → ((newT S A K).map (·.1)).Nodup
  | [], A, _ => by unfold newT; simp
  | s :: S, [], _ => by unfold newT; simp
  | s :: S, a :: A, h => by
    rw [List.nodup_cons] at h
    have ih := newT_nd (K := K) (S := S) (A := A) h.2
    unfold newT at ih ⊢
    rw [List.zip_cons_cons, List.filterMap_cons]
    split
    · exact ih
    · rename_i b hb
      split at hb
      · cases hb
      · obtain ⟨l, _, rfl⟩ := Option.map_eq_some_iff.mp hb
        rw [List.map_cons, List.nodup_cons]
        refine ⟨fun hm => ?_, ih⟩
        obtain ⟨q, hq, e⟩ := List.mem_map.mp hm
        have := (newT_mem (S := S) (A := A) (K := K) hq).1
        rw [e] at this
        exact h.1 this
theorem RK.next {S : List Gs} {A : List Ent} {R : List Rk} {r : Nat} (h : RK S R) (hS : S.Nodup) : RK S (R ++ (newT S A (R.map (·.1))).map fun q => (q.1, r, q.2)) := by
  have e : (R ++ (newT S A (R.map (·.1))).map fun q => ((q.1, r, q.2) : Rk)).map (·.1) = R.map (·.1) ++ (newT S A (R.map (·.1))).map (·.1) := by rw [List.map_append, List.map_map]; rfl
  refine ⟨?_, fun g hg => ?_⟩
  · rw [e, List.nodup_append]
    refine ⟨h.nd, newT_nd hS, fun a ha b hb e => ?_⟩
    subst e
    obtain ⟨q, hq, rfl⟩ := List.mem_map.mp hb
    exact (newT_mem hq).2 ha
  · rw [e] at hg
    rcases List.mem_append.mp hg with hg | hg
    · exact h.sub g hg
    · obtain ⟨q, hq, rfl⟩ := List.mem_map.mp hg
      exact (newT_mem hq).1
--E RS := Gameurank_states| self .o st.o.length
abbrev g1 (y : W) : In := ⟨11, ["yard"], [.v y]⟩
abbrev g2 (y : W) (a : Nat) : In := ⟨11, ["yard", "_states"], [.v y, .l a]⟩
abbrev g3 (y : W) (a b : Nat) : In := ⟨11, ["yard", "_states", "_found"], [.v y, .l a, .l b]⟩
abbrev g4 (y : W) (a b c : Nat) : In := ⟨11, ["yard", "_states", "_found", "_answers"], [.v y, .l a, .l b, .l c]⟩
abbrev g5 (y : W) (a b c d : Nat) : In := ⟨11, ["yard", "_states", "_found", "_answers", "_numbers"], [.v y, .l a, .l b, .l c, .l d]⟩
abbrev g6 (y : W) (a b c d e : Nat) : In := ⟨11, ["yard", "_states", "_found", "_answers", "_numbers", "_ranks"], [.v y, .l a, .l b, .l c, .l d, .l e]⟩
abbrev g7 (y : W) (a b c d e f : Nat) : In := ⟨11, ["yard", "_states", "_found", "_answers", "_numbers", "_ranks", "_threats"], [.v y, .l a, .l b, .l c, .l d, .l e, .l f]⟩
section
variable {w : Int} {ks : List Kd} {ms : List Mn} {lim : Nat} {st s : Store} {z : In} {S : List Gs} {A : List Ent} {R : List Rk}
end
theorem Gro.mem {lim : Nat} {P : Gs → Prop} {S T : List Gs} (a : Gro lim P S T) {s : Gs} (h : s ∈ S) : s ∈ T := by
  obtain ⟨z, e⟩ := a.pre
  rw [e]; exact List.mem_append.mpr (.inl h)
theorem GP.pw {st s s' : Store} {z : In} {y : W} {S : List Gs} {A : List Ent} {n : Nat} (h : GP st s z y S A n) {p : Nat} (w : Pw p s s') (hp : p < st.l.length) : ∃ st', st'.l.length = st.l.length ∧ st'.o = st.o ∧ GP st' s' z y S A n := by
  have h3 := get_lt h.l3
  have hl : (s'.l.take st.l.length).length = st.l.length := by rw [List.length_take, w.len]; omega
  refine ⟨⟨s'.l.take st.l.length, st.o⟩, hl, rfl, ?_⟩
  refine ⟨?_, ?_, ?_, ?_, ?_, ?_, ?_⟩
  · show GZ z y (s'.l.take st.l.length).length
    rw [hl]; exact h.gz
  · show s'.o = st.o ++ [z]
    rw [w.o]; exact h.o
  · show s'.l.take (s'.l.take st.l.length).length = s'.l.take st.l.length
    rw [hl]
  · show s'.lget (s'.l.take st.l.length).length = _
    rw [hl, w.get (by omega)]; exact h.l0
  · show s'.l[(s'.l.take st.l.length).length + 1]? = _
    rw [hl, w.ne _ (by omega)]; exact h.l1
  · show s'.lget ((s'.l.take st.l.length).length + 2) = _
    rw [hl, w.get (by omega)]; exact h.l2
  · show s'.l[(s'.l.take st.l.length).length + 3]? = _
    rw [hl, w.ne _ (by omega)]; exact h.l3
def levR (k : Nat) (R : List Rk) : List Gs := (R.filter fun q => decide (q.2.1 < k)).map (·.1)
structure RJ (f : Gs → Ent) (S : List Gs) (r : Nat) (R : List Rk) : Prop where
  rk : RK S R
  lo : ∀ q ∈ R, 1 ≤ q.2.1 ∧ q.2.1 < r
  th : ∀ q ∈ R, threatG (levR q.2.1 R) (f q.1) = some q.2.2
  no : ∀ q ∈ R, ∀ k, 1 ≤ k → k < q.2.1 → threatG (levR k R) (f q.1) = none
  out : ∀ g ∈ S, g ∉ R.map (·.1) → ∀ k, 1 ≤ k → k < r → threatG (levR k R) (f g) = none
theorem lev_all {R : List Rk} {r : Nat} (h : ∀ q ∈ R, q.2.1 < r) : levR r R = R.map (·.1) := by
  unfold levR
  rw [List.filter_eq_self.mpr fun q hq => decide_eq_true (h q hq)]
theorem lev_app {R : List Rk} {N : List (Gs × Nat)} {r k : Nat} (h : k ≤ r) : levR k (R ++ N.map fun q => (q.1, r, q.2)) = levR k R := by
  unfold levR
  have e : (N.map fun q => ((q.1, r, q.2) : Rk)).filter (fun q => decide (q.2.1 < k)) = [] := List.filter_eq_nil_iff.mpr fun q hq => by
    obtain ⟨p, _, rfl⟩ := List.mem_map.mp hq
    have : ¬ r < k := by omega
    simp [this]
  rw [List.filter_append, e, List.append_nil]
theorem newT_iff {f : Gs → Ent} {S : List Gs} {A : List Ent} {K : List Gs} (hA : A.length = S.length) (hz : ∀ q ∈ S.zip A, q.2 = f q.1) {g : Gs} {l : Nat} : (g, l) ∈ newT S A K ↔ g ∈ S ∧ g ∉ K ∧ threatG K (f g) = some l := by
  unfold newT
  rw [List.mem_filterMap]
  constructor
  · rintro ⟨⟨g', e⟩, hp, h⟩
    have he := hz _ hp
    dsimp only at h he
    split at h
    · cases h
    · rename_i hk
      obtain ⟨l', h1, h2⟩ := Option.map_eq_some_iff.mp h
      cases h2
      subst he
      exact ⟨(List.of_mem_zip hp).1, hk, h1⟩
  · rintro ⟨h1, h2, h3⟩
    obtain ⟨i, hi⟩ := List.getElem?_of_mem h1
    have hil := (List.getElem?_eq_some_iff.mp hi).1
    obtain ⟨e, he⟩ : ∃ e, A[i]? = some e := ⟨_, List.getElem?_eq_getElem (by omega)⟩
    have hm : (g, e) ∈ S.zip A := List.mem_of_getElem? (List.getElem?_zip_eq_some.mpr ⟨hi, he⟩)
    have hf := hz _ hm
    dsimp only at hf
    subst hf
    refine ⟨_, hm, ?_⟩
    dsimp only
    rw [if_neg h2, h3]; rfl
theorem RJ.next {f : Gs → Ent} {S : List Gs} {A : List Ent} {R : List Rk} {r : Nat} (h : RJ f S r R) (h1 : 1 ≤ r) (hS : S.Nodup) (hA : A.length = S.length) (hz : ∀ q ∈ S.zip A, q.2 = f q.1) : RJ f S (r + 1) (R ++ (newT S A (R.map (·.1))).map fun q => (q.1, r, q.2)) := by
  have hall := lev_all (r := r) fun q hq => (h.lo q hq).2
  have hnew : ∀ q ∈ (newT S A (R.map (·.1))).map fun q => ((q.1, r, q.2) : Rk), q.2.1 = r ∧ q.1 ∈ S ∧ q.1 ∉ R.map (·.1) ∧ threatG (R.map (·.1)) (f q.1) = some q.2.2 := fun q hq => by
    obtain ⟨p, hp, rfl⟩ := List.mem_map.mp hq
    obtain ⟨a, b, c⟩ := (newT_iff hA hz (g := p.1) (l := p.2)).mp hp
    exact ⟨rfl, a, b, c⟩
  refine ⟨h.rk.next hS, fun q hq => ?_, fun q hq => ?_, fun q hq k hk1 hk2 => ?_, fun g hg hn k hk1 hk2 => ?_⟩
  · rcases List.mem_append.mp hq with hq | hq
    · have := h.lo q hq; omega
    · have := (hnew q hq).1; omega
  · rcases List.mem_append.mp hq with hq | hq
    · have := h.lo q hq
      rw [lev_app (by omega)]
      exact h.th q hq
    · obtain ⟨a, _, _, b⟩ := hnew q hq
      rw [a, lev_app (Nat.le_refl _), hall]
      exact b
  · rcases List.mem_append.mp hq with hq | hq
    · have := h.lo q hq
      rw [lev_app (by omega)]
      exact h.no q hq k hk1 hk2
    · obtain ⟨a, b, c, _⟩ := hnew q hq
      rw [lev_app (by omega)]
      exact h.out q.1 b c k hk1 (by omega)
  · rw [lev_app (by omega)]
    rw [List.map_append, List.mem_append, not_or] at hn
    by_cases c : k < r
    · exact h.out g hg hn.1 k hk1 c
    · obtain rfl : k = r := by omega
      rw [hall]
      cases e : threatG (R.map (·.1)) (f g) with
      | none => rfl
      | some l =>
        exact absurd (List.mem_map.mpr ⟨(g, k, l), List.mem_map.mpr ⟨(g, l), (newT_iff hA hz).mpr ⟨hg, hn.1, e⟩, rfl⟩, rfl⟩) hn.2
structure RZ (f : Gs → Ent) (S : List Gs) (R : List Rk) : Prop where
  rk : RK S R
  lo : ∀ q ∈ R, 1 ≤ q.2.1
  th : ∀ q ∈ R, threatG (levR q.2.1 R) (f q.1) = some q.2.2
  no : ∀ q ∈ R, ∀ k, 1 ≤ k → k < q.2.1 → threatG (levR k R) (f q.1) = none
  held : ∀ g ∈ S, g ∉ R.map (·.1) → threatG (R.map (·.1)) (f g) = none
section
variable {w : Int} {ks : List Kd} {ms : List Mn} {lim : Nat} {st s : Store} {z : In} {S : List Gs} {A : List Ent} {R : List Rk}
end
section
variable {w : Int} {ks : List Kd} {ms : List Mn} {lim : Nat} {st s : Store} {z : In} {S : List Gs} {A : List Ent} {R : List Rk}
end
section
variable {w : Int} {ks : List Kd} {ms : List Mn} {lim : Nat} {st s : Store} {z : In} {S : List Gs} {A : List Ent} {R : List Rk}
--E JD := law_judged| told .o st.o.length; parts .v (partsW w ks ms); here .v (gsL g); state .v (gsW g); rank .v (.int (rk : Int)); threat .v (th)
end
end K77

set_option Elab.async false
set_option linter.all false
set_option maxRecDepth 100000
set_option maxHeartbeats 4000000
namespace K77
open PySem PySem.Spec PyProof.Rows L2 Mz

def top (i : Nat) : Stmt := PySem.Challenge.pw_onecable_k77_whole_ranks_fall_whatever_i.main.body.getD i (.Pass ⟨0, 0, 0, 0⟩)
abbrev s_Claimsu_initu : Stmt := inClass (top 17) 0
abbrev s_Claims_none : Stmt := inClass (top 17) 1
abbrev s_Kind_car : Stmt := inClass (top 26) 2
abbrev s_Yard_kind : Stmt := inClass (top 28) 8
abbrev s_Yard_letter_count : Stmt := inClass (top 28) 6
abbrev s_Yard_batch : Stmt := inClass (top 28) 10
abbrev s_after_answer : Stmt := top 3
abbrev s_all_answers : Stmt := top 2
abbrev s_Claimsu_addu : Stmt := inClass (top 17) 10
abbrev s_Claimsu_rshiftu : Stmt := inClass (top 17) 11
abbrev s_hours_in : Stmt := top 15
abbrev s_Claims_over : Stmt := inClass (top 17) 4
abbrev s_Claims_fits : Stmt := inClass (top 17) 5
abbrev s_car_demand : Stmt := top 16
abbrev s_Claims_of : Stmt := inClass (top 17) 2
abbrev s_Yard_span : Stmt := inClass (top 28) 7
abbrev s_next_claims : Stmt := top 18
abbrev s_pairs_of : Stmt := top 4
abbrev s_Gameuanswers_of : Stmt := inClass (top 20) 2
abbrev s_Gameuexplore : Stmt := inClass (top 20) 1
abbrev s_Gameuthreat_of : Stmt := inClass (top 20) 3
abbrev s_Gameunew_threats : Stmt := inClass (top 20) 5
abbrev s_Gameurank_states : Stmt := inClass (top 20) 4
abbrev s_Gameu_initu : Stmt := inClass (top 20) 0
abbrev s_Gameu_lenu : Stmt := inClass (top 20) 7
abbrev s_Game_holds : Stmt := inClass (top 20) 10
abbrev s_law_cell : Stmt := top 47
abbrev s_law_take : Stmt := top 45
abbrev s_law_names : Stmt := top 48
abbrev s_law_foe : Stmt := top 49
abbrev s_Gameucheck : Stmt := inClass (top 20) 6
abbrev s_Game_threat : Stmt := inClass (top 20) 14
abbrev s_law_falls : Stmt := top 61
abbrev s_Gameu_containsu : Stmt := inClass (top 20) 9
abbrev s_Game_rank : Stmt := inClass (top 20) 11
abbrev s_law_rank : Stmt := top 59
abbrev s_law_state : Stmt := top 30
abbrev s_law_next_ranks : Stmt := top 60
abbrev s_law_one_less : Stmt := top 62
abbrev s_law_same : Stmt := top 44
abbrev s_law_ahead : Stmt := top 38
abbrev s_law_pairs : Stmt := top 39
abbrev s_law_answered : Stmt := top 42
abbrev s_law_answers : Stmt := top 41
abbrev s_law_coming : Stmt := top 34
abbrev s_law_joined : Stmt := top 40
abbrev s_law_after : Stmt := top 36
abbrev s_law_ones : Stmt := top 31
abbrev s_law_over : Stmt := top 35
abbrev s_law_asks : Stmt := top 32
abbrev s_law_with : Stmt := top 33
abbrev s_law_next : Stmt := top 37
abbrev s_law_turn : Stmt := top 43
abbrev s_law_judged : Stmt := top 63
abbrev s_is_name : Stmt := top 25
abbrev s_Kindu_initu : Stmt := inClass (top 26) 0
abbrev s_Yarducheck_kinds : Stmt := inClass (top 28) 4
abbrev s_Yarducheck_menu : Stmt := inClass (top 28) 5
abbrev s_Yardu_initu : Stmt := inClass (top 28) 3
abbrev s_law_made : Stmt := top 56
abbrev s_law_span : Stmt := top 57
abbrev s_law_nothing : Stmt := top 58
abbrev s_law_pool : Stmt := top 46
abbrev s_law_words : Stmt := top 50
abbrev s_law_batches : Stmt := top 52
abbrev s_law_lot : Stmt := top 51
abbrev s_law_lean : Stmt := top 54
abbrev s_law_wide : Stmt := top 53
abbrev s_law_yard : Stmt := top 55
abbrev s_law : Stmt := top 64
abbrev s_TooManyStatesu_initu : Stmt := inClass (top 12) 0
structure Tt (P : Program) (K : PySem.W.Frag) (mg : Str → Option Value) (cl : Nat → Addr) (base : Heap) where
  f_Claimsu_initu : Addr
  fd_Claimsu_initu : FuncData
  F_Claimsu_initu : Fun K "__init__" "Claims.__init__" s_Claimsu_initu f_Claimsu_initu fd_Claimsu_initu
  b_Claimsu_initu : Binds K fd_Claimsu_initu ["self", "table"] []
  f_Claims_none : Addr
  fd_Claims_none : FuncData
  F_Claims_none : Fun K "none" "Claims.none" s_Claims_none f_Claims_none fd_Claims_none
  b_Claims_none : Binds K fd_Claims_none ["cls", "span"] []
  f_Kind_car : Addr
  fd_Kind_car : FuncData
  F_Kind_car : Fun K "car" "Kind.car" s_Kind_car f_Kind_car fd_Kind_car
  b_Kind_car : Binds K fd_Kind_car ["self"] []
  f_Yard_kind : Addr
  fd_Yard_kind : FuncData
  F_Yard_kind : Fun K "kind" "Yard.kind" s_Yard_kind f_Yard_kind fd_Yard_kind
  b_Yard_kind : Binds K fd_Yard_kind ["self", "name"] []
  f_Yard_letter_count : Addr
  fd_Yard_letter_count : FuncData
  F_Yard_letter_count : Fun K "letter_count" "Yard.letter_count" s_Yard_letter_count f_Yard_letter_count fd_Yard_letter_count
  b_Yard_letter_count : Binds K fd_Yard_letter_count ["self"] []
  f_Yard_batch : Addr
  fd_Yard_batch : FuncData
  F_Yard_batch : Fun K "batch" "Yard.batch" s_Yard_batch f_Yard_batch fd_Yard_batch
  b_Yard_batch : Binds K fd_Yard_batch ["self", "letter"] []
  f_after_answer : Addr
  fd_after_answer : FuncData
  F_after_answer : Fun K "after_answer" "after_answer" s_after_answer f_after_answer fd_after_answer
  b_after_answer : Binds K fd_after_answer ["pairs", "answer"] []
  g_after_answer : mg "after_answer" = some (.ref f_after_answer)
  f_all_answers : Addr
  fd_all_answers : FuncData
  F_all_answers : Fun K "all_answers" "all_answers" s_all_answers f_all_answers fd_all_answers
  b_all_answers : Binds K fd_all_answers ["pairs", "width"] []
  g_all_answers : mg "all_answers" = some (.ref f_all_answers)
  f_Claimsu_addu : Addr
  fd_Claimsu_addu : FuncData
  F_Claimsu_addu : Fun K "__add__" "Claims.__add__" s_Claimsu_addu f_Claimsu_addu fd_Claimsu_addu
  b_Claimsu_addu : Binds K fd_Claimsu_addu ["self", "other"] []
  f_Claimsu_rshiftu : Addr
  fd_Claimsu_rshiftu : FuncData
  F_Claimsu_rshiftu : Fun K "__rshift__" "Claims.__rshift__" s_Claimsu_rshiftu f_Claimsu_rshiftu fd_Claimsu_rshiftu
  b_Claimsu_rshiftu : Binds K fd_Claimsu_rshiftu ["self", "width"] []
  f_hours_in : Addr
  fd_hours_in : FuncData
  F_hours_in : Fun K "hours_in" "hours_in" s_hours_in f_hours_in fd_hours_in
  b_hours_in : Binds K fd_hours_in ["mask"] []
  g_hours_in : mg "hours_in" = some (.ref f_hours_in)
  f_Claims_over : Addr
  fd_Claims_over : FuncData
  F_Claims_over : Fun K "over" "Claims.over" s_Claims_over f_Claims_over fd_Claims_over
  b_Claims_over : Binds K fd_Claims_over ["self", "width"] []
  f_Claims_fits : Addr
  fd_Claims_fits : FuncData
  F_Claims_fits : Fun K "fits" "Claims.fits" s_Claims_fits f_Claims_fits fd_Claims_fits
  b_Claims_fits : Binds K fd_Claims_fits ["self", "width"] []
  f_car_demand : Addr
  fd_car_demand : FuncData
  F_car_demand : Fun K "car_demand" "car_demand" s_car_demand f_car_demand fd_car_demand
  b_car_demand : Binds K fd_car_demand ["car", "mask"] []
  g_car_demand : mg "car_demand" = some (.ref f_car_demand)
  f_Claims_of : Addr
  fd_Claims_of : FuncData
  F_Claims_of : Fun K "of" "Claims.of" s_Claims_of f_Claims_of fd_Claims_of
  b_Claims_of : Binds K fd_Claims_of ["cls", "span", "cars"] []
  f_Yard_span : Addr
  fd_Yard_span : FuncData
  F_Yard_span : Fun K "span" "Yard.span" s_Yard_span f_Yard_span fd_Yard_span
  b_Yard_span : Binds K fd_Yard_span ["self"] []
  f_next_claims : Addr
  fd_next_claims : FuncData
  F_next_claims : Fun K "next_claims" "next_claims" s_next_claims f_next_claims fd_next_claims
  b_next_claims : Binds K fd_next_claims ["yard", "claims", "letter"] []
  g_next_claims : mg "next_claims" = some (.ref f_next_claims)
  f_pairs_of : Addr
  fd_pairs_of : FuncData
  F_pairs_of : Fun K "pairs_of" "pairs_of" s_pairs_of f_pairs_of fd_pairs_of
  b_pairs_of : Binds K fd_pairs_of ["cars"] []
  g_pairs_of : mg "pairs_of" = some (.ref f_pairs_of)
  f_Gameuanswers_of : Addr
  fd_Gameuanswers_of : FuncData
  F_Gameuanswers_of : Fun K "_answers_of" "Game._answers_of" s_Gameuanswers_of f_Gameuanswers_of fd_Gameuanswers_of
  b_Gameuanswers_of : Binds K fd_Gameuanswers_of ["self", "state", "letter"] []
  f_Gameuexplore : Addr
  fd_Gameuexplore : FuncData
  F_Gameuexplore : Fun K "_explore" "Game._explore" s_Gameuexplore f_Gameuexplore fd_Gameuexplore
  b_Gameuexplore : Binds K fd_Gameuexplore ["self", "state", "most"] []
  f_Gameuthreat_of : Addr
  fd_Gameuthreat_of : FuncData
  F_Gameuthreat_of : Fun K "_threat_of" "Game._threat_of" s_Gameuthreat_of f_Gameuthreat_of fd_Gameuthreat_of
  b_Gameuthreat_of : Binds K fd_Gameuthreat_of ["self", "state"] []
  f_Gameunew_threats : Addr
  fd_Gameunew_threats : FuncData
  F_Gameunew_threats : Fun K "_new_threats" "Game._new_threats" s_Gameunew_threats f_Gameunew_threats fd_Gameunew_threats
  b_Gameunew_threats : Binds K fd_Gameunew_threats ["self"] []
  f_Gameurank_states : Addr
  fd_Gameurank_states : FuncData
  F_Gameurank_states : Fun K "_rank_states" "Game._rank_states" s_Gameurank_states f_Gameurank_states fd_Gameurank_states
  b_Gameurank_states : Binds K fd_Gameurank_states ["self"] []
  f_Gameu_initu : Addr
  fd_Gameu_initu : FuncData
  F_Gameu_initu : Fun K "__init__" "Game.__init__" s_Gameu_initu f_Gameu_initu fd_Gameu_initu
  f_Gameu_lenu : Addr
  fd_Gameu_lenu : FuncData
  F_Gameu_lenu : Fun K "__len__" "Game.__len__" s_Gameu_lenu f_Gameu_lenu fd_Gameu_lenu
  b_Gameu_lenu : Binds K fd_Gameu_lenu ["self"] []
  f_Game_holds : Addr
  fd_Game_holds : FuncData
  F_Game_holds : Fun K "holds" "Game.holds" s_Game_holds f_Game_holds fd_Game_holds
  b_Game_holds : Binds K fd_Game_holds ["self"] []
  f_law_cell : Addr
  fd_law_cell : FuncData
  F_law_cell : Fun K "_law_cell" "_law_cell" s_law_cell f_law_cell fd_law_cell
  b_law_cell : Binds K fd_law_cell ["_law_script", "_law_at"] []
  g_law_cell : mg "_law_cell" = some (.ref f_law_cell)
  f_law_take : Addr
  fd_law_take : FuncData
  F_law_take : Fun K "_law_take" "_law_take" s_law_take f_law_take fd_law_take
  b_law_take : Binds K fd_law_take ["_law_pool_here", "_law_many"] []
  g_law_take : mg "_law_take" = some (.ref f_law_take)
  f_law_names : Addr
  fd_law_names : FuncData
  F_law_names : Fun K "_law_names" "_law_names" s_law_names f_law_names fd_law_names
  b_law_names : Binds K fd_law_names ["_law_pool_here", "_law_many"] []
  g_law_names : mg "_law_names" = some (.ref f_law_names)
  f_law_foe : Addr
  fd_law_foe : FuncData
  F_law_foe : Fun K "_law_foe" "_law_foe" s_law_foe f_law_foe fd_law_foe
  b_law_foe : Binds K fd_law_foe ["_law_pool_here"] []
  g_law_foe : mg "_law_foe" = some (.ref f_law_foe)
  f_Gameucheck : Addr
  fd_Gameucheck : FuncData
  F_Gameucheck : Fun K "_check" "Game._check" s_Gameucheck f_Gameucheck fd_Gameucheck
  b_Gameucheck : Binds K fd_Gameucheck ["self", "state"] []
  f_Game_threat : Addr
  fd_Game_threat : FuncData
  F_Game_threat : Fun K "threat" "Game.threat" s_Game_threat f_Game_threat fd_Game_threat
  b_Game_threat : Binds K fd_Game_threat ["self", "state"] []
  f_law_falls : Addr
  fd_law_falls : FuncData
  F_law_falls : Fun K "_law_falls" "_law_falls" s_law_falls f_law_falls fd_law_falls
  b_law_falls : Binds K fd_law_falls ["_law_ranks", "_law_rank_here"] []
  g_law_falls : mg "_law_falls" = some (.ref f_law_falls)
  f_Gameu_containsu : Addr
  fd_Gameu_containsu : FuncData
  F_Gameu_containsu : Fun K "__contains__" "Game.__contains__" s_Gameu_containsu f_Gameu_containsu fd_Gameu_containsu
  b_Gameu_containsu : Binds K fd_Gameu_containsu ["self", "state"] []
  f_Game_rank : Addr
  fd_Game_rank : FuncData
  F_Game_rank : Fun K "rank" "Game.rank" s_Game_rank f_Game_rank fd_Game_rank
  b_Game_rank : Binds K fd_Game_rank ["self", "state"] []
  f_law_rank : Addr
  fd_law_rank : FuncData
  F_law_rank : Fun K "_law_rank" "_law_rank" s_law_rank f_law_rank fd_law_rank
  b_law_rank : Binds K fd_law_rank ["_law_told", "_law_state_here"] []
  g_law_rank : mg "_law_rank" = some (.ref f_law_rank)
  f_law_state : Addr
  fd_law_state : FuncData
  F_law_state : Fun K "_law_state" "_law_state" s_law_state f_law_state fd_law_state
  b_law_state : Binds K fd_law_state ["_law_state_here"] []
  g_law_state : mg "_law_state" = some (.ref f_law_state)
  f_law_next_ranks : Addr
  fd_law_next_ranks : FuncData
  F_law_next_ranks : Fun K "_law_next_ranks" "_law_next_ranks" s_law_next_ranks f_law_next_ranks fd_law_next_ranks
  b_law_next_ranks : Binds K fd_law_next_ranks ["_law_told", "_law_rows"] []
  g_law_next_ranks : mg "_law_next_ranks" = some (.ref f_law_next_ranks)
  f_law_one_less : Addr
  fd_law_one_less : FuncData
  F_law_one_less : Fun K "_law_one_less" "_law_one_less" s_law_one_less f_law_one_less fd_law_one_less
  b_law_one_less : Binds K fd_law_one_less ["_law_ranks", "_law_rank_here"] []
  g_law_one_less : mg "_law_one_less" = some (.ref f_law_one_less)
  f_law_same : Addr
  fd_law_same : FuncData
  F_law_same : Fun K "_law_same" "_law_same" s_law_same f_law_same fd_law_same
  b_law_same : Binds K fd_law_same ["_law_told", "_law_due"] []
  g_law_same : mg "_law_same" = some (.ref f_law_same)
  f_law_ahead : Addr
  fd_law_ahead : FuncData
  F_law_ahead : Fun K "_law_ahead" "_law_ahead" s_law_ahead f_law_ahead fd_law_ahead
  b_law_ahead : Binds K fd_law_ahead ["_law_one", "_law_two"] []
  g_law_ahead : mg "_law_ahead" = some (.ref f_law_ahead)
  f_law_pairs : Addr
  fd_law_pairs : FuncData
  F_law_pairs : Fun K "_law_pairs" "_law_pairs" s_law_pairs f_law_pairs fd_law_pairs
  b_law_pairs : Binds K fd_law_pairs ["_law_cars"] []
  g_law_pairs : mg "_law_pairs" = some (.ref f_law_pairs)
  f_law_answered : Addr
  fd_law_answered : FuncData
  F_law_answered : Fun K "_law_answered" "_law_answered" s_law_answered f_law_answered fd_law_answered
  b_law_answered : Binds K fd_law_answered ["_law_pairs_here", "_law_answer"] []
  g_law_answered : mg "_law_answered" = some (.ref f_law_answered)
  f_law_answers : Addr
  fd_law_answers : FuncData
  F_law_answers : Fun K "_law_answers" "_law_answers" s_law_answers f_law_answers fd_law_answers
  b_law_answers : Binds K fd_law_answers ["_law_pairs_here", "_law_width"] []
  g_law_answers : mg "_law_answers" = some (.ref f_law_answers)
  f_law_coming : Addr
  fd_law_coming : FuncData
  F_law_coming : Fun K "_law_coming" "_law_coming" s_law_coming f_law_coming fd_law_coming
  b_law_coming : Binds K fd_law_coming ["_law_parts", "_law_letter"] []
  g_law_coming : mg "_law_coming" = some (.ref f_law_coming)
  f_law_joined : Addr
  fd_law_joined : FuncData
  F_law_joined : Fun K "_law_joined" "_law_joined" s_law_joined f_law_joined fd_law_joined
  b_law_joined : Binds K fd_law_joined ["_law_parts", "_law_pairs_here", "_law_letter"] []
  g_law_joined : mg "_law_joined" = some (.ref f_law_joined)
  f_law_after : Addr
  fd_law_after : FuncData
  F_law_after : Fun K "_law_after" "_law_after" s_law_after f_law_after fd_law_after
  b_law_after : Binds K fd_law_after ["_law_table", "_law_width"] []
  g_law_after : mg "_law_after" = some (.ref f_law_after)
  f_law_ones : Addr
  fd_law_ones : FuncData
  F_law_ones : Fun K "_law_ones" "_law_ones" s_law_ones f_law_ones fd_law_ones
  b_law_ones : Binds K fd_law_ones ["_law_mask"] []
  g_law_ones : mg "_law_ones" = some (.ref f_law_ones)
  f_law_over : Addr
  fd_law_over : FuncData
  F_law_over : Fun K "_law_over" "_law_over" s_law_over f_law_over fd_law_over
  b_law_over : Binds K fd_law_over ["_law_table", "_law_width"] []
  g_law_over : mg "_law_over" = some (.ref f_law_over)
  f_law_asks : Addr
  fd_law_asks : FuncData
  F_law_asks : Fun K "_law_asks" "_law_asks" s_law_asks f_law_asks fd_law_asks
  b_law_asks : Binds K fd_law_asks ["_law_left", "_law_want", "_law_mask"] []
  g_law_asks : mg "_law_asks" = some (.ref f_law_asks)
  f_law_with : Addr
  fd_law_with : FuncData
  F_law_with : Fun K "_law_with" "_law_with" s_law_with f_law_with fd_law_with
  b_law_with : Binds K fd_law_with ["_law_table", "_law_cars"] []
  g_law_with : mg "_law_with" = some (.ref f_law_with)
  f_law_next : Addr
  fd_law_next : FuncData
  F_law_next : Fun K "_law_next" "_law_next" s_law_next f_law_next fd_law_next
  b_law_next : Binds K fd_law_next ["_law_parts", "_law_table", "_law_letter"] []
  g_law_next : mg "_law_next" = some (.ref f_law_next)
  f_law_turn : Addr
  fd_law_turn : FuncData
  F_law_turn : Fun K "_law_turn" "_law_turn" s_law_turn f_law_turn fd_law_turn
  b_law_turn : Binds K fd_law_turn ["_law_parts", "_law_state_here", "_law_letter"] []
  g_law_turn : mg "_law_turn" = some (.ref f_law_turn)
  f_law_judged : Addr
  fd_law_judged : FuncData
  F_law_judged : Fun K "_law_judged" "_law_judged" s_law_judged f_law_judged fd_law_judged
  b_law_judged : Binds K fd_law_judged ["_law_told", "_law_parts", "_law_here"] []
  g_law_judged : mg "_law_judged" = some (.ref f_law_judged)
  f_is_name : Addr
  fd_is_name : FuncData
  F_is_name : Fun K "is_name" "is_name" s_is_name f_is_name fd_is_name
  b_is_name : Binds K fd_is_name ["text"] []
  g_is_name : mg "is_name" = some (.ref f_is_name)
  f_Kindu_initu : Addr
  fd_Kindu_initu : FuncData
  F_Kindu_initu : Fun K "__init__" "Kind.__init__" s_Kindu_initu f_Kindu_initu fd_Kindu_initu
  b_Kindu_initu : Binds K fd_Kindu_initu ["self", "name", "stay", "need"] []
  f_Yarducheck_kinds : Addr
  fd_Yarducheck_kinds : FuncData
  F_Yarducheck_kinds : Fun K "_check_kinds" "Yard._check_kinds" s_Yarducheck_kinds f_Yarducheck_kinds fd_Yarducheck_kinds
  b_Yarducheck_kinds : Binds K fd_Yarducheck_kinds ["self"] []
  f_Yarducheck_menu : Addr
  fd_Yarducheck_menu : FuncData
  F_Yarducheck_menu : Fun K "_check_menu" "Yard._check_menu" s_Yarducheck_menu f_Yarducheck_menu fd_Yarducheck_menu
  b_Yarducheck_menu : Binds K fd_Yarducheck_menu ["self"] []
  f_Yardu_initu : Addr
  fd_Yardu_initu : FuncData
  F_Yardu_initu : Fun K "__init__" "Yard.__init__" s_Yardu_initu f_Yardu_initu fd_Yardu_initu
  b_Yardu_initu : Binds K fd_Yardu_initu ["self", "width", "kinds", "menu"] []
  f_law_made : Addr
  fd_law_made : FuncData
  F_law_made : Fun K "_law_made" "_law_made" s_law_made f_law_made fd_law_made
  b_law_made : Binds K fd_law_made ["_law_parts"] []
  g_law_made : mg "_law_made" = some (.ref f_law_made)
  f_law_span : Addr
  fd_law_span : FuncData
  F_law_span : Fun K "_law_span" "_law_span" s_law_span f_law_span fd_law_span
  b_law_span : Binds K fd_law_span ["_law_parts"] []
  g_law_span : mg "_law_span" = some (.ref f_law_span)
  f_law_nothing : Addr
  fd_law_nothing : FuncData
  F_law_nothing : Fun K "_law_nothing" "_law_nothing" s_law_nothing f_law_nothing fd_law_nothing
  b_law_nothing : Binds K fd_law_nothing ["_law_parts"] []
  g_law_nothing : mg "_law_nothing" = some (.ref f_law_nothing)
  f_law_pool : Addr
  fd_law_pool : FuncData
  F_law_pool : Fun K "_law_pool" "_law_pool" s_law_pool f_law_pool fd_law_pool
  b_law_pool : Binds K fd_law_pool ["_law_cell_here"] []
  g_law_pool : mg "_law_pool" = some (.ref f_law_pool)
  f_law_words : Addr
  fd_law_words : FuncData
  F_law_words : Fun K "_law_words" "_law_words" s_law_words f_law_words fd_law_words
  b_law_words : Binds K fd_law_words ["_law_pool_here", "_law_many"] []
  g_law_words : mg "_law_words" = some (.ref f_law_words)
  f_law_batches : Addr
  fd_law_batches : FuncData
  F_law_batches : Fun K "_law_batches" "_law_batches" s_law_batches f_law_batches fd_law_batches
  b_law_batches : Binds K fd_law_batches ["_law_pool_here", "_law_words_here", "_law_kinds", "_law_many", "_law_sizes"] []
  g_law_batches : mg "_law_batches" = some (.ref f_law_batches)
  f_law_lot : Addr
  fd_law_lot : FuncData
  F_law_lot : Fun K "_law_lot" "_law_lot" s_law_lot f_law_lot fd_law_lot
  b_law_lot : Binds K fd_law_lot ["_law_pool_here", "_law_words_here", "_law_many", "_law_longest", "_law_hard"] []
  g_law_lot : mg "_law_lot" = some (.ref f_law_lot)
  f_law_lean : Addr
  fd_law_lean : FuncData
  F_law_lean : Fun K "_law_lean" "_law_lean" s_law_lean f_law_lean fd_law_lean
  b_law_lean : Binds K fd_law_lean ["_law_pool_here", "_law_words_here", "_law_width", "_law_stays"] []
  g_law_lean : mg "_law_lean" = some (.ref f_law_lean)
  f_law_wide : Addr
  fd_law_wide : FuncData
  F_law_wide : Fun K "_law_wide" "_law_wide" s_law_wide f_law_wide fd_law_wide
  b_law_wide : Binds K fd_law_wide ["_law_pool_here", "_law_words_here", "_law_widest", "_law_longest"] []
  g_law_wide : mg "_law_wide" = some (.ref f_law_wide)
  f_law_yard : Addr
  fd_law_yard : FuncData
  F_law_yard : Fun K "_law_yard" "_law_yard" s_law_yard f_law_yard fd_law_yard
  b_law_yard : Binds K fd_law_yard ["_law_pool_here", "_law_words_here"] []
  g_law_yard : mg "_law_yard" = some (.ref f_law_yard)
  f_law : Addr
  fd_law : FuncData
  F_law : Fun K "law" "law" s_law f_law fd_law
  b_law : Binds K fd_law ["_law_script"] []
  g_law : mg "law" = some (.ref f_law)
  z_abs : mg "abs" = none
  z_all : mg "all" = none
  z_bool : mg "bool" = none
  z_enumerate : mg "enumerate" = none
  z_int : mg "int" = none
  z_isinstance : mg "isinstance" = none
  z_len : mg "len" = none
  z_list : mg "list" = none
  z_max : mg "max" = none
  z_min : mg "min" = none
  z_range : mg "range" = none
  z_sorted : mg "sorted" = none
  z_str : mg "str" = none
  z_sum : mg "sum" = none
  z_super : mg "super" = none
  z_tuple : mg "tuple" = none
  z_zip : mg "zip" = none
  C_11 : ClF K (cl 11)
  gc_11 : mg "Game" = some (.ref (cl 11))
  C_1 : ClF K (cl 1)
  gc_1 : mg "Claims" = some (.ref (cl 1))
  C_6 : ClF K (cl 6)
  gc_6 : mg "Yard" = some (.ref (cl 6))
  C_5 : ClF K (cl 5)
  gc_5 : mg "Kind" = some (.ref (cl 5))
  mk_11 : Mk K (cl 11) f_Gameu_initu
  mk_1 : Mk K (cl 1) f_Claimsu_initu
  mk_5 : Mk K (cl 5) f_Kindu_initu
  mk_6 : Mk K (cl 6) f_Yardu_initu
  na_1_table : NoAttr K (cl 1) "table"
  na_11__answers : NoAttr K (cl 11) "_answers"
  na_11__found : NoAttr K (cl 11) "_found"
  na_11__numbers : NoAttr K (cl 11) "_numbers"
  na_11__ranks : NoAttr K (cl 11) "_ranks"
  na_11__states : NoAttr K (cl 11) "_states"
  na_11__threats : NoAttr K (cl 11) "_threats"
  na_11_yard : NoAttr K (cl 11) "yard"
  na_5_name : NoAttr K (cl 5) "name"
  na_5_need : NoAttr K (cl 5) "need"
  na_5_stay : NoAttr K (cl 5) "stay"
  na_6_kinds : NoAttr K (cl 6) "kinds"
  na_6_menu : NoAttr K (cl 6) "menu"
  na_6_width : NoAttr K (cl 6) "width"
  mt_Gameu_lenu : Meth K (cl 11) "__len__" f_Gameu_lenu
  mt_Gameuexplore : Meth K (cl 11) "_explore" f_Gameuexplore
  mt_Gameurank_states : Meth K (cl 11) "_rank_states" f_Gameurank_states
  mt_Gameuanswers_of : Meth K (cl 11) "_answers_of" f_Gameuanswers_of
  mt_Yard_batch : Meth K (cl 6) "batch" f_Yard_batch
  mt_Kind_car : Meth K (cl 5) "car" f_Kind_car
  mt_Yard_kind : Meth K (cl 6) "kind" f_Yard_kind
  mt_Claimsu_addu : Meth K (cl 1) "__add__" f_Claimsu_addu
  mt_Claims_fits : Meth K (cl 1) "fits" f_Claims_fits
  mt_Claimsu_rshiftu : Meth K (cl 1) "__rshift__" f_Claimsu_rshiftu
  mt_Claims_over : Meth K (cl 1) "over" f_Claims_over
  mt_Gameunew_threats : Meth K (cl 11) "_new_threats" f_Gameunew_threats
  mt_Gameuthreat_of : Meth K (cl 11) "_threat_of" f_Gameuthreat_of
  mt_Game_threat : Meth K (cl 11) "threat" f_Game_threat
  mt_Gameucheck : Meth K (cl 11) "_check" f_Gameucheck
  mt_Gameu_containsu : Meth K (cl 11) "__contains__" f_Gameu_containsu
  mt_Game_rank : Meth K (cl 11) "rank" f_Game_rank
  mt_Yarducheck_kinds : Meth K (cl 6) "_check_kinds" f_Yarducheck_kinds
  mt_Yarducheck_menu : Meth K (cl 6) "_check_menu" f_Yarducheck_menu
  kb_Gameu_initu_2_most : KB K fd_Gameu_initu ["self", "yard", "most"] 2 ["most"] [] []
  kb_Gameu_initu_2 : KB K fd_Gameu_initu ["self", "yard", "most"] 2 [] [400] []
  po_Game_holds : Addr
  pp_Game_holds : PropOf K (cl 11) "holds" po_Game_holds f_Game_holds
  po_Yard_span : Addr
  pp_Yard_span : PropOf K (cl 6) "span" po_Yard_span f_Yard_span
  po_Yard_letter_count : Addr
  pp_Yard_letter_count : PropOf K (cl 6) "letter_count" po_Yard_letter_count f_Yard_letter_count
  cm_1 : Value
  cr_1 : ClX.CRead K (cl 1) cm_1
  cm_6 : Value
  cr_6 : ClX.CRead K (cl 6) cm_6
  ck_6_MOST_KINDS : Tok
  cv_6_MOST_KINDS : ClX.CVal K (cl 6) cm_6 "MOST_KINDS" (.int 6) (.int 6 ck_6_MOST_KINDS)
  ck_6_MOST_BATCHES : Tok
  cv_6_MOST_BATCHES : ClX.CVal K (cl 6) cm_6 "MOST_BATCHES" (.int 4) (.int 4 ck_6_MOST_BATCHES)
  ck_6_MOST_CARS : Tok
  cv_6_MOST_CARS : ClX.CVal K (cl 6) cm_6 "MOST_CARS" (.int 3) (.int 3 ck_6_MOST_CARS)
  cp_Claims_none : Addr
  ct_Claims_none : ClX.CMet K (cl 1) cm_1 "none" cp_Claims_none f_Claims_none
  cp_Claims_of : Addr
  ct_Claims_of : ClX.CMet K (cl 1) cm_1 "of" cp_Claims_of f_Claims_of
  ki_1_1 : PySem.W.kitOne K (.ref (cl 1)) (.ref (cl 1)) = some true
  kt_NoneType_1 : PySem.W.kitOne K (.type "NoneType") (.ref (cl 1)) = some false
  kt_int_1 : PySem.W.kitOne K (.type "int") (.ref (cl 1)) = some false
  kt_LONGEST_STAY : Tok
  kk_LONGEST_STAY : mg "LONGEST_STAY" = some (.int 4 kt_LONGEST_STAY)
  kt_LONGEST_NAME : Tok
  kk_LONGEST_NAME : mg "LONGEST_NAME" = some (.int 8 kt_LONGEST_NAME)
  kt_SMALL_LETTERS : Tok
  kk_SMALL_LETTERS : mg "SMALL_LETTERS" = some (.str (PySem.Str.ofString "abcdefghijklmnopqrstuvwxyz") kt_SMALL_LETTERS)
  fx_31 : Addr
  ex_31 : PySem.ExF.Ex1Txt K mg P (cl 31) fx_31 "TooManyStates.__init__" "most" "too many states"
  xc_31 : XcF K (cl 31)
  nf_31_most : PySem.W.findIn K (.ref (cl 31)) "most" = some none
  gx_31 : mg "TooManyStates" = some (.ref (cl 31))
  xk_31 : PySem.W.keepIn K (.ref (cl 31)) = true
  xr1_31 : PySem.W.subIn K (.ref (cl 31)) (.type "BaseException") = some true
  xr2_31 : PySem.W.typeIn K (.ref (cl 31)) = some (.type "type")
  gx_30 : mg "UnknownState" = some (.ref (cl 30))
  xq_30 : PySem.W.excIn K (cl 30) [.type "ValueError", .type "Exception", .type "BaseException", .type "object"] "ValueError.__new__" = true
  xk_30 : PySem.W.keepIn K (.ref (cl 30)) = true
  xr1_30 : PySem.W.subIn K (.ref (cl 30)) (.type "BaseException") = some true
  xr2_30 : PySem.W.typeIn K (.ref (cl 30)) = some (.type "type")
  xm_31_31 : PySem.W.exmOne K (.ref (cl 31)) (.ref (cl 31)) = some true
  or_1_RShift : PySem.W.findIn K (.ref (cl 1)) (PySem.dunderR (Operator.RShift).info.2) = some none
  ov_RShift_int : Option Value
  ow_RShift_int : Option Value
  of_RShift_int : PySem.W.findIn K (.type "int") (PySem.dunder (Operator.RShift).info.2) = some ov_RShift_int
  orr_RShift_int : PySem.W.findIn K (.type "int") (PySem.dunderR (Operator.RShift).info.2) = some ow_RShift_int
  os_1_int : PySem.W.subIn K (.type "int") (.ref (cl 1)) = some false
section
variable {P : Program} {w : World} {K : PySem.W.Frag} {mg : Str → Option Value} {base : Heap} {cl : Nat → Addr}
theorem sc_Claimsu_initu : FnScope N_Claimsu_initu ["self", "table"] (defScope s_Claimsu_initu) := ⟨rfl, rfl, rfl, by decide +kernel, rfl, by decide +kernel, by decide +kernel⟩
theorem ok_Claimsu_initu (T : Tt P K mg cl base) : FnOk P w K mg base (CXm K P w) 1 T.f_Claimsu_initu T.fd_Claimsu_initu ["self", "table"] (spM ⟨K, cl⟩ 2 m_Claimsu_initu) := by
  refine fun_ok (md := .ini) (mb := b_Claimsu_initu) T.F_Claimsu_initu sc_Claimsu_initu rfl rfl (fun cdv A outer st H E hr => ?_)
  have nd := sc_Claimsu_initu.nd
  have tk : Mz.Takes (cxOf (CXm K P w) P w K mg base N_Claimsu_initu "Claims.__init__" (defScope s_Claimsu_initu) T.f_Claimsu_initu cdv A outer st H E) (fun c d _ H' => E c d H') := Mz.takes_of rfl rfl rfl rfl
  exact (is_cons (is_setA [1] (ie_callTy call_tuple_of s_tuple rfl T.z_tuple (by decide +kernel) (ia_cons (ie_var 1) ia_nil)) (ie_var 0) (al_cons ⟨T.C_1.cl, T.na_1_table⟩ al_nil))
    (is_one (is_if (PW.pt (iw_or (it_cmp op_notIn_seq s_in (ie_callB c_len s_len rfl T.z_len (by decide +kernel) (ia_cons (ie_attr [1] (ie_var 0) (al_cons ⟨T.C_1.cl, T.na_1_table⟩ al_nil)) ia_nil)) (ie_tup (ia_cons ie_int (ia_cons ie_int (ia_cons ie_int (ia_cons ie_int ia_nil))))) (by rfl)) (iw_or1 (it_not (it_val (ie_callB (cr_all rfl) s_all rfl T.z_all (by decide +kernel) (ia_cons (ie_lc (own := [("number", 2)]) rfl nd (ii_seq (ie_attr [1] (ie_var 0) (al_cons ⟨T.C_1.cl, T.na_1_table⟩ al_nil))) (blkOk_by (own := [("number", 2)]) (N := N_Claimsu_initu) (sc := defScope s_Claimsu_initu) (by decide +kernel)) (fun _ _ _ _ _ => (pg_name (i := 2) nd rfl (by first | exact Or.inl rfl | exact Or.inr rfl))) go_nm (fun _ _ _ _ _ => its_nil) (fun _ _ _ _ _ => (ie_cmp op_ge s_ge (ie_var 2) ie_int (nomark _))) (by decide)) ia_nil))))))) (is_one is_bad) is_nil)))
theorem ar_Claimsu_initu : Ar m_Claimsu_initu 2 := ar_fn
theorem sc_Claims_none : FnScope N_Claims_none ["cls", "span"] (defScope s_Claims_none) := ⟨rfl, rfl, rfl, by decide +kernel, rfl, by decide +kernel, by decide +kernel⟩
theorem ok_Claims_none (T : Tt P K mg cl base) : FnOk P w K mg base (CXm K P w) 3 T.f_Claims_none T.fd_Claims_none ["cls", "span"] (spM ⟨K, cl⟩ 2 m_Claims_none) := by
  refine fun_ok (md := .tr) (mb := b_Claims_none) T.F_Claims_none sc_Claims_none rfl rfl (fun cdv A outer st H E hr => ?_)
  have nd := sc_Claims_none.nd
  have tk : Mz.Takes (cxOf (CXm K P w) P w K mg base N_Claims_none "Claims.none" (defScope s_Claims_none) T.f_Claims_none cdv A outer st H E) (fun c d _ H' => E c d H') := Mz.takes_of rfl rfl rfl rfl
  exact (is_one (is_ret (ie_makeL (i := 0) (c := 1) T.mk_1 (ok_Claimsu_initu T) ar_Claimsu_initu tk (hr.mono (by decide)) T.b_Claimsu_initu rfl (by first | exact Or.inl rfl | exact Or.inr rfl) (ia_cons (ie_lc (own := [("_", 2)]) rfl nd (ii_range1 rfl T.z_range (ia_cons (ie_op op_shl s_shl ie_int (ie_var 1)) ia_nil)) (blkOk_by (own := [("_", 2)]) (N := N_Claims_none) (sc := defScope s_Claims_none) (by decide +kernel)) (fun _ _ _ _ _ => (pg_name (i := 2) nd rfl (by first | exact Or.inl rfl | exact Or.inr rfl))) go_nm (fun _ _ _ _ _ => its_nil) (fun _ _ _ _ _ => ie_int) (by decide)) ia_nil))))
theorem ar_Claims_none : Ar m_Claims_none 2 := ar_fn
theorem sc_Kind_car : FnScope N_Kind_car ["self"] (defScope s_Kind_car) := ⟨rfl, rfl, rfl, by decide +kernel, rfl, by decide +kernel, by decide +kernel⟩
theorem ok_Kind_car (T : Tt P K mg cl base) : FnOk P w K mg base (CXm K P w) 1 T.f_Kind_car T.fd_Kind_car ["self"] (spM ⟨K, cl⟩ 1 m_Kind_car) := by
  refine fun_ok (md := .tr) (mb := b_Kind_car) T.F_Kind_car sc_Kind_car rfl rfl (fun cdv A outer st H E hr => ?_)
  have nd := sc_Kind_car.nd
  have tk : Mz.Takes (cxOf (CXm K P w) P w K mg base N_Kind_car "Kind.car" (defScope s_Kind_car) T.f_Kind_car cdv A outer st H E) (fun c d _ H' => E c d H') := Mz.takes_of rfl rfl rfl rfl
  exact (is_one (is_ret (ie_tup (ia_cons (ie_attr [5] (ie_var 0) (al_cons ⟨T.C_5.cl, T.na_5_stay⟩ al_nil)) (ia_cons (ie_attr [5] (ie_var 0) (al_cons ⟨T.C_5.cl, T.na_5_need⟩ al_nil)) (ia_cons (ie_attr [5] (ie_var 0) (al_cons ⟨T.C_5.cl, T.na_5_stay⟩ al_nil)) (ia_cons (ie_attr [5] (ie_var 0) (al_cons ⟨T.C_5.cl, T.na_5_need⟩ al_nil)) ia_nil)))))))
theorem ar_Kind_car : Ar m_Kind_car 1 := ar_fn
theorem sc_Yard_kind : FnScope N_Yard_kind ["self", "name"] (defScope s_Yard_kind) := ⟨rfl, rfl, rfl, by decide +kernel, rfl, by decide +kernel, by decide +kernel⟩
theorem ok_Yard_kind (T : Tt P K mg cl base) : FnOk P w K mg base (CXm K P w) 1 T.f_Yard_kind T.fd_Yard_kind ["self", "name"] (spM ⟨K, cl⟩ 2 m_Yard_kind) := by
  refine fun_ok (md := .tr) (mb := b_Yard_kind) T.F_Yard_kind sc_Yard_kind rfl rfl (fun cdv A outer st H E hr => ?_)
  have nd := sc_Yard_kind.nd
  have tk : Mz.Takes (cxOf (CXm K P w) P w K mg base N_Yard_kind "Yard.kind" (defScope s_Yard_kind) T.f_Yard_kind cdv A outer st H E) (fun c d _ H' => E c d H') := Mz.takes_of rfl rfl rfl rfl
  exact (is_cons (is_for (passes_of rfl) rfl (ii_seq (ie_attr [6] (ie_var 0) (al_cons ⟨T.C_6.cl, T.na_6_kinds⟩ al_nil))) (pg_name (i := 2) nd rfl (by first | exact Or.inl rfl | exact Or.inr rfl)) go_nm (is_one (is_if (it_cmp (op_eqAll hr.units) s_eq (ie_attr [5] (ie_var 2) (al_cons ⟨T.C_5.cl, T.na_5_name⟩ al_nil)) (ie_var 1) (nomark _)) (is_one (is_ret (ie_var 2))) is_nil)))
    (is_one is_bad))
theorem ar_Yard_kind : Ar m_Yard_kind 2 := ar_fn
theorem sc_Yard_letter_count : FnScope N_Yard_letter_count ["self"] (defScope s_Yard_letter_count) := ⟨rfl, rfl, rfl, by decide +kernel, rfl, by decide +kernel, by decide +kernel⟩
theorem ok_Yard_letter_count (T : Tt P K mg cl base) : FnOk P w K mg base (CXm K P w) 1 T.f_Yard_letter_count T.fd_Yard_letter_count ["self"] (spM ⟨K, cl⟩ 1 m_Yard_letter_count) := by
  refine fun_ok (md := .tr) (mb := b_Yard_letter_count) T.F_Yard_letter_count sc_Yard_letter_count rfl rfl (fun cdv A outer st H E hr => ?_)
  have nd := sc_Yard_letter_count.nd
  have tk : Mz.Takes (cxOf (CXm K P w) P w K mg base N_Yard_letter_count "Yard.letter_count" (defScope s_Yard_letter_count) T.f_Yard_letter_count cdv A outer st H E) (fun c d _ H' => E c d H') := Mz.takes_of rfl rfl rfl rfl
  exact (is_one (is_ret (ie_op op_addAll s_add (ie_callB c_len s_len rfl T.z_len (by decide +kernel) (ia_cons (ie_attr [6] (ie_var 0) (al_cons ⟨T.C_6.cl, T.na_6_menu⟩ al_nil)) ia_nil)) ie_int)))
theorem sc_Yard_batch : FnScope N_Yard_batch ["self", "letter"] (defScope s_Yard_batch) := ⟨rfl, rfl, rfl, by decide +kernel, rfl, by decide +kernel, by decide +kernel⟩
theorem ok_Yard_batch (T : Tt P K mg cl base) : FnOk P w K mg base (CXm K P w) 3 T.f_Yard_batch T.fd_Yard_batch ["self", "letter"] (spM ⟨K, cl⟩ 2 m_Yard_batch) := by
  refine fun_ok (md := .tr) (mb := b_Yard_batch) T.F_Yard_batch sc_Yard_batch rfl rfl (fun cdv A outer st H E hr => ?_)
  have nd := sc_Yard_batch.nd
  have tk : Mz.Takes (cxOf (CXm K P w) P w K mg base N_Yard_batch "Yard.batch" (defScope s_Yard_batch) T.f_Yard_batch cdv A outer st H E) (fun c d _ H' => E c d H') := Mz.takes_of rfl rfl rfl rfl
  exact (is_cons (is_if (it_not (it_chain op_le op_lt s_le s_lt ie_int (ie_var 1) (ie_prop (c := 6) (ie_var 0) T.C_6 T.pp_Yard_letter_count (ok_Yard_letter_count T) (hr.mono (by decide)) T.b_Yard_letter_count))) (is_one is_bad) is_nil)
    (is_cons (is_if (it_cmp (op_eqAll hr.units) s_eq (ie_var 1) ie_int (nomark _)) (is_one (is_ret (ie_lst ia_nil))) is_nil)
    (is_one (is_ret (ie_lc (own := [("name", 2)]) rfl nd (ii_seq (ie_ix ix_seq s_ix (ie_ix ix_seq s_ix (ie_attr [6] (ie_var 0) (al_cons ⟨T.C_6.cl, T.na_6_menu⟩ al_nil)) (ie_op op_sub s_sub (ie_var 1) ie_int) (fun _ _ => rfl)) ie_int (fun _ _ => rfl))) (blkOk_by (own := [("name", 2)]) (N := N_Yard_batch) (sc := defScope s_Yard_batch) (by decide +kernel)) (fun _ _ _ _ _ => (pg_name (i := 2) nd rfl (by first | exact Or.inl rfl | exact Or.inr rfl))) go_nm (fun _ _ _ _ _ => its_nil) (fun _ _ _ _ _ => (ie_meth0 (c := 5) (ie_meth (c := 6) (ie_var 0) T.C_6.cl T.mt_Yard_kind (ok_Yard_kind T) ar_Yard_kind Mz.takes0 (hr.mono (by decide)) T.b_Yard_kind (ia_cons (ie_var 2) ia_nil)) T.C_5.cl T.mt_Kind_car (ok_Kind_car T) ar_Kind_car Mz.takes0 (hr.mono (by decide)) T.b_Kind_car)) (by decide))))))
theorem ar_Yard_batch : Ar m_Yard_batch 2 := ar_fn
theorem sc_after_answer : FnScope N_after_answer ["pairs", "answer"] (defScope s_after_answer) := ⟨rfl, rfl, rfl, by decide +kernel, rfl, by decide +kernel, by decide +kernel⟩
theorem ok_after_answer (T : Tt P K mg cl base) : FnOk P w K mg base (CXm K P w) 1 T.f_after_answer T.fd_after_answer ["pairs", "answer"] (spM ⟨K, cl⟩ 2 m_after_answer) := by
  refine fun_ok (md := .tr) (mb := b_after_answer) T.F_after_answer sc_after_answer rfl rfl (fun cdv A outer st H E hr => ?_)
  have nd := sc_after_answer.nd
  have tk : Mz.Takes (cxOf (CXm K P w) P w K mg base N_after_answer "after_answer" (defScope s_after_answer) T.f_after_answer cdv A outer st H E) (fun c d _ H' => E c d H') := Mz.takes_of rfl rfl rfl rfl
  exact (is_cons (is_asg 2 nd (ie_callTy call_list_of s_listM rfl T.z_list (by decide +kernel) (ia_cons (ie_var 0) ia_nil)))
    (is_cons (is_asg 3 nd (ie_lstM ia_nil))
    (is_cons (is_for (passes_of rfl) rfl (ii_seq (ie_var 1)) (pg_tup rfl (pgs_cons (pg_name (i := 4) nd rfl (by first | exact Or.inl rfl | exact Or.inr rfl)) (pgs_cons (pg_name (i := 5) nd rfl (by first | exact Or.inl rfl | exact Or.inr rfl)) pgs_nil))) (go_tp rfl (gos_cons go_nm (gos_cons go_nm gos_nil))) (is_cons (is_expr (ie_rem (u65 hr) (ie_var 2) (ia_cons (ie_tup (ia_cons (ie_var 4) (ia_cons (ie_var 5) ia_nil))) ia_nil)))
    (is_one (is_expr (ie_lm lm_append PySem.F.slot_list_append PySem.F.type_list_append mt_append (ie_var 3) (ia_cons (ie_tup (ia_cons (ie_op op_sub s_sub (ie_var 4) ie_int) (ia_cons (ie_op op_sub s_sub (ie_var 5) ie_int) ia_nil))) ia_nil))))))
    (is_cons (is_augL 3 nd (ie_lc (own := [("left", 4), ("want", 5)]) rfl nd (ii_seq (ie_var 2)) (blkOk_by (own := [("left", 4), ("want", 5)]) (N := N_after_answer) (sc := defScope s_after_answer) (by decide +kernel)) (fun _ _ _ _ _ => (pg_tup rfl (pgs_cons (pg_name (i := 4) nd rfl (by first | exact Or.inl rfl | exact Or.inr rfl)) (pgs_cons (pg_name (i := 5) nd rfl (by first | exact Or.inl rfl | exact Or.inr rfl)) pgs_nil)))) (go_tp rfl (gos_cons go_nm (gos_cons go_nm gos_nil))) (fun _ _ _ _ _ => its_nil) (fun _ _ _ _ _ => (ie_tup (ia_cons (ie_op op_sub s_sub (ie_var 4) ie_int) (ia_cons (ie_var 5) ia_nil)))) (by decide)))
    (is_cons (is_for (passes_of rfl) rfl (ii_seq (ie_var 3)) (pg_tup rfl (pgs_cons (pg_name (i := 4) nd rfl (by first | exact Or.inl rfl | exact Or.inr rfl)) (pgs_cons (pg_name (i := 5) nd rfl (by first | exact Or.inl rfl | exact Or.inr rfl)) pgs_nil))) (go_tp rfl (gos_cons go_nm (gos_cons go_nm gos_nil))) (is_one (is_if (it_cmp op_gt s_gt (ie_var 5) (ie_var 4) (nomark _)) (is_one (is_ret ie_non)) is_nil)))
    (is_one (is_ret (ie_callTy call_tuple_of s_tuple rfl T.z_tuple (by decide +kernel) (ia_cons (ie_callB (cr_sortedW (u65 hr)) s_sortD rfl T.z_sorted (by decide +kernel) (ia_cons (ie_lc (own := [("pair", 6)]) rfl nd (ii_seq (ie_var 3)) (blkOk_by (own := [("pair", 6)]) (N := N_after_answer) (sc := defScope s_after_answer) (by decide +kernel)) (fun _ _ _ _ _ => (pg_name (i := 6) nd rfl (by first | exact Or.inl rfl | exact Or.inr rfl))) go_nm (fun _ _ _ _ _ => (its_one (it_cmp op_gt s_gt (ie_ix ix_seq s_ix (ie_var 6) ie_int (fun _ _ => rfl)) ie_int (nomark _)))) (fun _ _ _ _ _ => (ie_var 6)) (by decide)) ia_nil)) ia_nil)))))))))
theorem ar_after_answer : Ar m_after_answer 2 := ar_fn
theorem sc_all_answers : FnScope N_all_answers ["pairs", "width"] (defScope s_all_answers) := ⟨rfl, rfl, rfl, by decide +kernel, rfl, by decide +kernel, by decide +kernel⟩
theorem ok_all_answers (T : Tt P K mg cl base) : FnOk P w K mg base (CXm K P w) 1 T.f_all_answers T.fd_all_answers ["pairs", "width"] (spM ⟨K, cl⟩ 2 m_all_answers) := by
  refine fun_ok (md := .tr) (mb := b_all_answers) T.F_all_answers sc_all_answers rfl rfl (fun cdv A outer st H E hr => ?_)
  have nd := sc_all_answers.nd
  have tk : Mz.Takes (cxOf (CXm K P w) P w K mg base N_all_answers "all_answers" (defScope s_all_answers) T.f_all_answers cdv A outer st H E) (fun c d _ H' => E c d H') := Mz.takes_of rfl rfl rfl rfl
  exact (is_cons (is_asg 2 nd (ie_lst (ia_cons (ie_tup (ia_cons ie_int (ia_cons (ie_tup ia_nil) ia_nil))) ia_nil)))
    (is_cons (is_for (passes_of rfl) rfl (ii_range1 rfl T.z_range (ia_cons (ie_callB (call_min2 rfl) s_min2 rfl T.z_min (by decide +kernel) (ia_cons (ie_var 1) (ia_cons (ie_callB c_len s_len rfl T.z_len (by decide +kernel) (ia_cons (ie_var 0) ia_nil)) ia_nil))) ia_nil)) (pg_name (i := 3) nd rfl (by first | exact Or.inl rfl | exact Or.inr rfl)) go_nm (is_one (is_setLc2 (i := 2) (own := [("begin", 6), ("answer", 5), ("index", 7)]) (vs1 := [7]) rfl nd rfl rfl (sw_true rfl rfl rfl (by decide +kernel)) (ii_seq (ie_var 2)) (blkOk_by (own := [("begin", 6), ("answer", 5), ("index", 7)]) (N := N_all_answers) (sc := defScope s_all_answers) (by decide +kernel)) (by decide) (fun _ _ _ _ _ => (pg_tup rfl (pgs_cons (pg_name (i := 6) nd rfl (by first | exact Or.inl rfl | exact Or.inr rfl)) (pgs_cons (pg_name (i := 5) nd rfl (by first | exact Or.inl rfl | exact Or.inr rfl)) pgs_nil)))) (go_tp rfl (gos_cons go_nm (gos_cons go_nm gos_nil))) (fun _ _ _ _ _ => its_nil) (fun _ _ _ _ _ => (ii_range2 rfl T.z_range (ia_cons (ie_var 6) (ia_cons (ie_callB c_len s_len rfl T.z_len (by decide +kernel) (ia_cons (ie_var 0) ia_nil)) ia_nil)))) (fun _ _ _ _ _ => (pg_name (i := 7) nd rfl (by first | exact Or.inl rfl | exact Or.inr rfl))) go_nm (fun _ _ _ _ _ => its_nil) (fun _ _ _ _ _ => (ie_tup (ia_cons (ie_op op_addAll s_add (ie_var 7) ie_int) (ia_cons (ie_op op_addAll s_add (ie_var 5) (ie_tup (ia_cons (ie_ix ix_seq s_ix (ie_var 0) (ie_var 7) (fun _ _ => rfl)) ia_nil))) ia_nil)))) (by decide) (by decide))))
    (is_cons (is_setDcN (i := 4) (own := [("_", 3), ("answer", 5)]) (u9 hr) rfl nd rfl rfl (sw_trueD rfl rfl rfl (by decide +kernel)) (ii_seq (ie_var 2)) (blkOk_by (own := [("_", 3), ("answer", 5)]) (N := N_all_answers) (sc := defScope s_all_answers) (by decide +kernel)) (fun _ _ _ _ _ => (pg_tup rfl (pgs_cons (pg_name (i := 3) nd rfl (by first | exact Or.inl rfl | exact Or.inr rfl)) (pgs_cons (pg_name (i := 5) nd rfl (by first | exact Or.inl rfl | exact Or.inr rfl)) pgs_nil)))) (go_tp rfl (gos_cons go_nm (gos_cons go_nm gos_nil))) (fun _ _ _ _ _ => its_nil) (fun _ _ _ _ _ => (ie_var 5)) (fun _ _ _ _ _ => ie_bl) (by decide))
    (is_one (is_ret (ie_callB (cr_sortedW (u65 hr)) s_sortD rfl T.z_sorted (by decide +kernel) (ia_cons (ie_callTy (call_listDn rfl) s_listDn rfl T.z_list (by decide +kernel) (ia_cons (ie_var 4) ia_nil)) ia_nil)))))))
theorem ar_all_answers : Ar m_all_answers 2 := ar_fn
theorem sc_Claimsu_addu : FnScope N_Claimsu_addu ["self", "other"] (defScope s_Claimsu_addu) := ⟨rfl, rfl, rfl, by decide +kernel, rfl, by decide +kernel, by decide +kernel⟩
theorem ok_Claimsu_addu (T : Tt P K mg cl base) : FnOk P w K mg base (CXm K P w) 3 T.f_Claimsu_addu T.fd_Claimsu_addu ["self", "other"] (spM ⟨K, cl⟩ 2 m_Claimsu_addu) := by
  refine fun_ok (md := .tr) (mb := b_Claimsu_addu) T.F_Claimsu_addu sc_Claimsu_addu rfl rfl (fun cdv A outer st H E hr => ?_)
  have nd := sc_Claimsu_addu.nd
  have tk : Mz.Takes (cxOf (CXm K P w) P w K mg base N_Claimsu_addu "Claims.__add__" (defScope s_Claimsu_addu) T.f_Claimsu_addu cdv A outer st H E) (fun c d _ H' => E c d H') := Mz.takes_of rfl rfl rfl rfl
  exact (is_cons (is_if (it_not (it_val (ie_isCl (c := 1) [(1, true)] ["NoneType", "int"] (ie_var 1) rfl T.z_isinstance rfl T.gc_1 (lk_cons ⟨T.C_1, T.ki_1_1⟩ lk_nil) (at_cons T.kt_NoneType_1 (at_cons T.kt_int_1 at_nil))))) (is_one is_bad) is_nil)
    (is_cons (is_if (it_cmp (op_neAll hr.units) s_ne (ie_callB c_len s_len rfl T.z_len (by decide +kernel) (ia_cons (ie_attr [1] (ie_var 0) (al_cons ⟨T.C_1.cl, T.na_1_table⟩ al_nil)) ia_nil)) (ie_callB c_len s_len rfl T.z_len (by decide +kernel) (ia_cons (ie_attr [1] (ie_var 1) (al_cons ⟨T.C_1.cl, T.na_1_table⟩ al_nil)) ia_nil)) (nomark _)) (is_one is_bad) is_nil)
    (is_one (is_ret (ie_make (c := 1) T.mk_1 (ok_Claimsu_initu T) ar_Claimsu_initu tk (hr.mono (by decide)) rfl T.gc_1 T.b_Claimsu_initu (ia_cons (ie_lc (own := [("one", 2), ("two", 3)]) rfl nd (ii_zip rfl T.z_zip (ia_cons (ie_attr [1] (ie_var 0) (al_cons ⟨T.C_1.cl, T.na_1_table⟩ al_nil)) (ia_cons (ie_attr [1] (ie_var 1) (al_cons ⟨T.C_1.cl, T.na_1_table⟩ al_nil)) ia_nil))) (blkOk_by (own := [("one", 2), ("two", 3)]) (N := N_Claimsu_addu) (sc := defScope s_Claimsu_addu) (by decide +kernel)) (fun _ _ _ _ _ => (pg_tup rfl (pgs_cons (pg_name (i := 2) nd rfl (by first | exact Or.inl rfl | exact Or.inr rfl)) (pgs_cons (pg_name (i := 3) nd rfl (by first | exact Or.inl rfl | exact Or.inr rfl)) pgs_nil)))) (go_tp rfl (gos_cons go_nm (gos_cons go_nm gos_nil))) (fun _ _ _ _ _ => its_nil) (fun _ _ _ _ _ => (ie_op op_addAll s_add (ie_var 2) (ie_var 3))) (by decide)) ia_nil))))))
theorem sc_Claimsu_rshiftu : FnScope N_Claimsu_rshiftu ["self", "width"] (defScope s_Claimsu_rshiftu) := ⟨rfl, rfl, rfl, by decide +kernel, rfl, by decide +kernel, by decide +kernel⟩
theorem ok_Claimsu_rshiftu (T : Tt P K mg cl base) : FnOk P w K mg base (CXm K P w) 3 T.f_Claimsu_rshiftu T.fd_Claimsu_rshiftu ["self", "width"] (spM ⟨K, cl⟩ 2 m_Claimsu_rshiftu) := by
  refine fun_ok (md := .tr) (mb := b_Claimsu_rshiftu) T.F_Claimsu_rshiftu sc_Claimsu_rshiftu rfl rfl (fun cdv A outer st H E hr => ?_)
  have nd := sc_Claimsu_rshiftu.nd
  have tk : Mz.Takes (cxOf (CXm K P w) P w K mg base N_Claimsu_rshiftu "Claims.__rshift__" (defScope s_Claimsu_rshiftu) T.f_Claimsu_rshiftu cdv A outer st H E) (fun c d _ H' => E c d H') := Mz.takes_of rfl rfl rfl rfl
  exact (is_cons (is_if (it_not (it_val (ie_isTy (ie_var 1) rfl T.z_isinstance rfl T.z_int (by decide +kernel)))) (is_one is_bad) is_nil)
    (is_cons (is_setLc (i := 2) (own := [("mask", 3)]) rfl nd rfl rfl (sw_true rfl rfl rfl (by decide +kernel)) (ii_range1 rfl T.z_range (ia_cons (ie_callB c_len s_len rfl T.z_len (by decide +kernel) (ia_cons (ie_attr [1] (ie_var 0) (al_cons ⟨T.C_1.cl, T.na_1_table⟩ al_nil)) ia_nil)) ia_nil)) (blkOk_by (own := [("mask", 3)]) (N := N_Claimsu_rshiftu) (sc := defScope s_Claimsu_rshiftu) (by decide +kernel)) (fun _ _ _ _ _ => (pg_name (i := 3) nd rfl (by first | exact Or.inl rfl | exact Or.inr rfl))) go_nm (fun _ _ _ _ _ => its_nil) (fun _ _ _ _ _ => (ie_op op_mod s_mod (ie_op op_mul s_mul ie_int (ie_var 3)) (ie_callB c_len s_len rfl T.z_len (by decide +kernel) (ia_cons (ie_attr [1] (ie_var 0) (al_cons ⟨T.C_1.cl, T.na_1_table⟩ al_nil)) ia_nil)))) (by decide))
    (is_one (is_ret (ie_make (c := 1) T.mk_1 (ok_Claimsu_initu T) ar_Claimsu_initu tk (hr.mono (by decide)) rfl T.gc_1 T.b_Claimsu_initu (ia_cons (ie_lc (own := [("low", 4)]) rfl nd (ii_seq (ie_var 2)) (blkOk_by (own := [("low", 4)]) (N := N_Claimsu_rshiftu) (sc := defScope s_Claimsu_rshiftu) (by decide +kernel)) (fun _ _ _ _ _ => (pg_name (i := 4) nd rfl (by first | exact Or.inl rfl | exact Or.inr rfl))) go_nm (fun _ _ _ _ _ => its_nil) (fun _ _ _ _ _ => (ie_callB (call_max2 rfl) s_max2 rfl T.z_max (by decide +kernel) (ia_cons (ie_ix ix_seq s_ix (ie_attr [1] (ie_var 0) (al_cons ⟨T.C_1.cl, T.na_1_table⟩ al_nil)) (ie_var 4) (fun _ _ => rfl)) (ia_cons (ie_op op_sub s_sub (ie_ix ix_seq s_ix (ie_attr [1] (ie_var 0) (al_cons ⟨T.C_1.cl, T.na_1_table⟩ al_nil)) (ie_op op_addAll s_add (ie_var 4) ie_int) (fun _ _ => rfl)) (ie_var 1)) ia_nil)))) (by decide)) ia_nil))))))
theorem sc_hours_in : FnScope N_hours_in ["mask"] (defScope s_hours_in) := ⟨rfl, rfl, rfl, by decide +kernel, rfl, by decide +kernel, by decide +kernel⟩
theorem ok_hours_in (T : Tt P K mg cl base) : FnOk P w K mg base (CXm K P w) 1 T.f_hours_in T.fd_hours_in ["mask"] (spM ⟨K, cl⟩ 1 m_hours_in) := by
  refine fun_ok (md := .tr) (mb := b_hours_in) T.F_hours_in sc_hours_in rfl rfl (fun cdv A outer st H E hr => ?_)
  have nd := sc_hours_in.nd
  have tk : Mz.Takes (cxOf (CXm K P w) P w K mg base N_hours_in "hours_in" (defScope s_hours_in) T.f_hours_in cdv A outer st H E) (fun c d _ H' => E c d H') := Mz.takes_of rfl rfl rfl rfl
  exact (is_cons (is_asg 1 nd ie_int)
    (is_cons (is_while (passes_of rfl) (it_cmp op_gt s_gt (ie_var 0) ie_int (nomark _)) (is_cons (is_aug 1 nd (ie_op op_mod s_mod (ie_var 0) ie_int) ip_add)
    (is_one (is_asg 0 nd (ie_op op_fdivW s_div (ie_var 0) ie_int)))))
    (is_one (is_ret (ie_var 1)))))
theorem ar_hours_in : Ar m_hours_in 1 := ar_fn
theorem sc_Claims_over : FnScope N_Claims_over ["self", "width"] (defScope s_Claims_over) := ⟨rfl, rfl, rfl, by decide +kernel, rfl, by decide +kernel, by decide +kernel⟩
theorem ok_Claims_over (T : Tt P K mg cl base) : FnOk P w K mg base (CXm K P w) 2 T.f_Claims_over T.fd_Claims_over ["self", "width"] (spM ⟨K, cl⟩ 2 m_Claims_over) := by
  refine fun_ok (md := .tr) (mb := b_Claims_over) T.F_Claims_over sc_Claims_over rfl rfl (fun cdv A outer st H E hr => ?_)
  have nd := sc_Claims_over.nd
  have tk : Mz.Takes (cxOf (CXm K P w) P w K mg base N_Claims_over "Claims.over" (defScope s_Claims_over) T.f_Claims_over cdv A outer st H E) (fun c d _ H' => E c d H') := Mz.takes_of rfl rfl rfl rfl
  exact (is_cons (is_for (passes_of rfl) rfl (ii_enum rfl T.z_enumerate (ia_cons (ie_attr [1] (ie_var 0) (al_cons ⟨T.C_1.cl, T.na_1_table⟩ al_nil)) ia_nil)) (pg_tup rfl (pgs_cons (pg_name (i := 2) nd rfl (by first | exact Or.inl rfl | exact Or.inr rfl)) (pgs_cons (pg_name (i := 3) nd rfl (by first | exact Or.inl rfl | exact Or.inr rfl)) pgs_nil))) (go_tp rfl (gos_cons go_nm (gos_cons go_nm gos_nil))) (is_one (is_if (it_cmp op_gt s_gt (ie_var 3) (ie_op op_mul s_mul (ie_var 1) (ie_call (ok_hours_in T) ar_hours_in tk (hr.mono (by decide)) rfl T.g_hours_in T.F_hours_in.kp T.b_hours_in (ia_cons (ie_var 2) ia_nil))) (nomark _)) (is_one (is_ret (ie_var 2))) is_nil)))
    (is_one (is_ret ie_non)))
theorem ar_Claims_over : Ar m_Claims_over 2 := ar_fn
theorem sc_Claims_fits : FnScope N_Claims_fits ["self", "width"] (defScope s_Claims_fits) := ⟨rfl, rfl, rfl, by decide +kernel, rfl, by decide +kernel, by decide +kernel⟩
theorem ok_Claims_fits (T : Tt P K mg cl base) : FnOk P w K mg base (CXm K P w) 3 T.f_Claims_fits T.fd_Claims_fits ["self", "width"] (spM ⟨K, cl⟩ 2 m_Claims_fits) := by
  refine fun_ok (md := .tr) (mb := b_Claims_fits) T.F_Claims_fits sc_Claims_fits rfl rfl (fun cdv A outer st H E hr => ?_)
  have nd := sc_Claims_fits.nd
  have tk : Mz.Takes (cxOf (CXm K P w) P w K mg base N_Claims_fits "Claims.fits" (defScope s_Claims_fits) T.f_Claims_fits cdv A outer st H E) (fun c d _ H' => E c d H') := Mz.takes_of rfl rfl rfl rfl
  exact (is_one (is_ret (ie_cmp op_isAll s_is (ie_meth (c := 1) (ie_var 0) T.C_1.cl T.mt_Claims_over (ok_Claims_over T) ar_Claims_over tk (hr.mono (by decide)) T.b_Claims_over (ia_cons (ie_var 1) ia_nil)) ie_non (nomark _))))
theorem ar_Claims_fits : Ar m_Claims_fits 2 := ar_fn
theorem sc_car_demand : FnScope N_car_demand ["car", "mask"] (defScope s_car_demand) := ⟨rfl, rfl, rfl, by decide +kernel, rfl, by decide +kernel, by decide +kernel⟩
theorem ok_car_demand (T : Tt P K mg cl base) : FnOk P w K mg base (CXm K P w) 2 T.f_car_demand T.fd_car_demand ["car", "mask"] (spM ⟨K, cl⟩ 2 m_car_demand) := by
  refine fun_ok (md := .tr) (mb := b_car_demand) T.F_car_demand sc_car_demand rfl rfl (fun cdv A outer st H E hr => ?_)
  have nd := sc_car_demand.nd
  have tk : Mz.Takes (cxOf (CXm K P w) P w K mg base N_car_demand "car_demand" (defScope s_car_demand) T.f_car_demand cdv A outer st H E) (fun c d _ H' => E c d H') := Mz.takes_of rfl rfl rfl rfl
  exact (is_cons (is_par 2 3 rfl nd rfl rfl (by decide) rfl rfl (ia_cons (ie_ix ix_seq s_ix (ie_var 0) ie_int (fun _ _ => rfl)) (ia_cons (ie_ix ix_seq s_ix (ie_var 0) ie_int (fun _ _ => rfl)) ia_nil)) (by rfl))
    (is_cons (is_asg 4 nd (ie_call (ok_hours_in T) ar_hours_in tk (hr.mono (by decide)) rfl T.g_hours_in T.F_hours_in.kp T.b_hours_in (ia_cons (ie_op op_mod s_mod (ie_var 1) (ie_op op_shl s_shl ie_int (ie_var 2))) ia_nil)))
    (is_one (is_ret (ie_callB (call_max2 rfl) s_max2 rfl T.z_max (by decide +kernel) (ia_cons ie_int (ia_cons (ie_op op_sub s_sub (ie_var 3) (ie_op op_sub s_sub (ie_var 2) (ie_var 4))) ia_nil)))))))
theorem ar_car_demand : Ar m_car_demand 2 := ar_fn
theorem sc_Claims_of : FnScope N_Claims_of ["cls", "span", "cars"] (defScope s_Claims_of) := ⟨rfl, rfl, rfl, by decide +kernel, rfl, by decide +kernel, by decide +kernel⟩
theorem ok_Claims_of (T : Tt P K mg cl base) : FnOk P w K mg base (CXm K P w) 3 T.f_Claims_of T.fd_Claims_of ["cls", "span", "cars"] (spM ⟨K, cl⟩ 3 m_Claims_of) := by
  refine fun_ok (md := .tr) (mb := b_Claims_of) T.F_Claims_of sc_Claims_of rfl rfl (fun cdv A outer st H E hr => ?_)
  have nd := sc_Claims_of.nd
  have tk : Mz.Takes (cxOf (CXm K P w) P w K mg base N_Claims_of "Claims.of" (defScope s_Claims_of) T.f_Claims_of cdv A outer st H E) (fun c d _ H' => E c d H') := Mz.takes_of rfl rfl rfl rfl
  exact (is_one (is_ret (ie_makeL (i := 0) (c := 1) T.mk_1 (ok_Claimsu_initu T) ar_Claimsu_initu tk (hr.mono (by decide)) T.b_Claimsu_initu rfl (by first | exact Or.inl rfl | exact Or.inr rfl) (ia_cons (ie_lc (own := [("mask", 3)]) rfl nd (ii_range1 rfl T.z_range (ia_cons (ie_op op_shl s_shl ie_int (ie_var 1)) ia_nil)) (blkOk_by (own := [("mask", 3)]) (N := N_Claims_of) (sc := defScope s_Claims_of) (by decide +kernel)) (fun _ _ _ _ _ => (pg_name (i := 3) nd rfl (by first | exact Or.inl rfl | exact Or.inr rfl))) go_nm (fun _ _ _ _ _ => its_nil) (fun _ _ _ _ _ => (ie_callB (cr_sum rfl) s_sum rfl T.z_sum (by decide +kernel) (ia_cons (ie_lc (own := [("car", 4)]) rfl nd (ii_seq (ie_var 2)) (blkOk_by (own := [("car", 4)]) (N := N_Claims_of) (by rfl)) (fun _ _ _ _ _ => (pg_name (i := 4) nd rfl (by first | exact Or.inl rfl | exact Or.inr rfl))) go_nm (fun _ _ _ _ _ => its_nil) (fun _ _ _ _ _ => (ie_call (ok_car_demand T) ar_car_demand Mz.takes0 (hr.mono (by decide)) rfl T.g_car_demand T.F_car_demand.kp T.b_car_demand (ia_cons (ie_var 4) (ia_cons (ie_var 3) ia_nil)))) (by decide)) ia_nil))) (by decide)) ia_nil))))
theorem ar_Claims_of : Ar m_Claims_of 3 := ar_fn
theorem sc_Yard_span : FnScope N_Yard_span ["self"] (defScope s_Yard_span) := ⟨rfl, rfl, rfl, by decide +kernel, rfl, by decide +kernel, by decide +kernel⟩
theorem ok_Yard_span (T : Tt P K mg cl base) : FnOk P w K mg base (CXm K P w) 1 T.f_Yard_span T.fd_Yard_span ["self"] (spM ⟨K, cl⟩ 1 m_Yard_span) := by
  refine fun_ok (md := .tr) (mb := b_Yard_span) T.F_Yard_span sc_Yard_span rfl rfl (fun cdv A outer st H E hr => ?_)
  have nd := sc_Yard_span.nd
  have tk : Mz.Takes (cxOf (CXm K P w) P w K mg base N_Yard_span "Yard.span" (defScope s_Yard_span) T.f_Yard_span cdv A outer st H E) (fun c d _ H' => E c d H') := Mz.takes_of rfl rfl rfl rfl
  exact (is_one (is_ret (ie_callB (cr_max rfl) s_maxL rfl T.z_max (by decide +kernel) (ia_cons (ie_lc (own := [("kind", 1)]) rfl nd (ii_seq (ie_attr [6] (ie_var 0) (al_cons ⟨T.C_6.cl, T.na_6_kinds⟩ al_nil))) (blkOk_by (own := [("kind", 1)]) (N := N_Yard_span) (sc := defScope s_Yard_span) (by decide +kernel)) (fun _ _ _ _ _ => (pg_name (i := 1) nd rfl (by first | exact Or.inl rfl | exact Or.inr rfl))) go_nm (fun _ _ _ _ _ => its_nil) (fun _ _ _ _ _ => (ie_attr [5] (ie_var 1) (al_cons ⟨T.C_5.cl, T.na_5_stay⟩ al_nil))) (by decide)) ia_nil))))
theorem sc_next_claims : FnScope N_next_claims ["yard", "claims", "letter"] (defScope s_next_claims) := ⟨rfl, rfl, rfl, by decide +kernel, rfl, by decide +kernel, by decide +kernel⟩
theorem ok_next_claims (T : Tt P K mg cl base) : FnOk P w K mg base (CXm K P w) 4 T.f_next_claims T.fd_next_claims ["yard", "claims", "letter"] (spM ⟨K, cl⟩ 3 m_next_claims) := by
  refine fun_ok (md := .tr) (mb := b_next_claims) T.F_next_claims sc_next_claims rfl rfl (fun cdv A outer st H E hr => ?_)
  have nd := sc_next_claims.nd
  have tk : Mz.Takes (cxOf (CXm K P w) P w K mg base N_next_claims "next_claims" (defScope s_next_claims) T.f_next_claims cdv A outer st H E) (fun c d _ H' => E c d H') := Mz.takes_of rfl rfl rfl rfl
  exact (is_cons (is_asg 3 nd (ie_opM (opm_own (c := 1) T.C_1 T.mt_Claimsu_addu.at_ T.mt_Claimsu_addu.fn (ok_Claimsu_addu T) tk (hr.mono (by decide)) T.b_Claimsu_addu) (ie_var 1) (ie_cmeth (c := 1) rfl T.gc_1 T.cr_1 T.ct_Claims_of (ok_Claims_of T) ar_Claims_of tk (hr.mono (by decide)) T.b_Claims_of (ia_cons (ie_prop (c := 6) (ie_var 0) T.C_6 T.pp_Yard_span (ok_Yard_span T) (hr.mono (by decide)) T.b_Yard_span) (ia_cons (ie_meth (c := 6) (ie_var 0) T.C_6.cl T.mt_Yard_batch (ok_Yard_batch T) ar_Yard_batch tk (hr.mono (by decide)) T.b_Yard_batch (ia_cons (ie_var 2) ia_nil)) ia_nil)))))
    (is_cons (is_if (it_not (it_val (ie_meth (c := 1) (ie_var 3) T.C_1.cl T.mt_Claims_fits (ok_Claims_fits T) ar_Claims_fits tk (hr.mono (by decide)) T.b_Claims_fits (ia_cons (ie_attr [6] (ie_var 0) (al_cons ⟨T.C_6.cl, T.na_6_width⟩ al_nil)) ia_nil)))) (is_one (is_ret ie_non)) is_nil)
    (is_one (is_ret (ie_opM (opm_ownT (c := 1) (t := "int") T.C_1 (by decide) T.mt_Claimsu_rshiftu.at_ T.mt_Claimsu_rshiftu.fn T.or_1_RShift (.inl rfl) T.of_RShift_int T.orr_RShift_int T.os_1_int (ok_Claimsu_rshiftu T) tk (hr.mono (by decide)) T.b_Claimsu_rshiftu) (ie_var 3) (ie_attr [6] (ie_var 0) (al_cons ⟨T.C_6.cl, T.na_6_width⟩ al_nil)))))))
theorem ar_next_claims : Ar m_next_claims 3 := ar_fn
theorem sc_pairs_of : FnScope N_pairs_of ["cars"] (defScope s_pairs_of) := ⟨rfl, rfl, rfl, by decide +kernel, rfl, by decide +kernel, by decide +kernel⟩
theorem ok_pairs_of (T : Tt P K mg cl base) : FnOk P w K mg base (CXm K P w) 1 T.f_pairs_of T.fd_pairs_of ["cars"] (spM ⟨K, cl⟩ 1 m_pairs_of) := by
  refine fun_ok (md := .tr) (mb := b_pairs_of) T.F_pairs_of sc_pairs_of rfl rfl (fun cdv A outer st H E hr => ?_)
  have nd := sc_pairs_of.nd
  have tk : Mz.Takes (cxOf (CXm K P w) P w K mg base N_pairs_of "pairs_of" (defScope s_pairs_of) T.f_pairs_of cdv A outer st H E) (fun c d _ H' => E c d H') := Mz.takes_of rfl rfl rfl rfl
  exact (is_one (is_ret (ie_callTy call_tuple_of s_tuple rfl T.z_tuple (by decide +kernel) (ia_cons (ie_callB (cr_sortedW (u65 hr)) s_sortD rfl T.z_sorted (by decide +kernel) (ia_cons (ie_lc (own := [("car", 1)]) rfl nd (ii_seq (ie_var 0)) (blkOk_by (own := [("car", 1)]) (N := N_pairs_of) (sc := defScope s_pairs_of) (by decide +kernel)) (fun _ _ _ _ _ => (pg_name (i := 1) nd rfl (by first | exact Or.inl rfl | exact Or.inr rfl))) go_nm (fun _ _ _ _ _ => its_nil) (fun _ _ _ _ _ => (ie_tup (ia_cons (ie_ix ix_seq s_ix (ie_var 1) ie_int (fun _ _ => rfl)) (ia_cons (ie_ix ix_seq s_ix (ie_var 1) ie_int (fun _ _ => rfl)) ia_nil)))) (by decide)) ia_nil)) ia_nil))))
theorem ar_pairs_of : Ar m_pairs_of 1 := ar_fn
theorem sc_Gameuanswers_of : FnScope N_Gameuanswers_of ["self", "state", "letter"] (defScope s_Gameuanswers_of) := ⟨rfl, rfl, rfl, by decide +kernel, rfl, by decide +kernel, by decide +kernel⟩
theorem ok_Gameuanswers_of (T : Tt P K mg cl base) : FnOk P w K mg base (CXm K P w) 5 T.f_Gameuanswers_of T.fd_Gameuanswers_of ["self", "state", "letter"] (spM ⟨K, cl⟩ 3 m_Gameuanswers_of) := by
  refine fun_ok (md := .tr) (mb := b_Gameuanswers_of) T.F_Gameuanswers_of sc_Gameuanswers_of rfl rfl (fun cdv A outer st H E hr => ?_)
  have nd := sc_Gameuanswers_of.nd
  have tk : Mz.Takes (cxOf (CXm K P w) P w K mg base N_Gameuanswers_of "Game._answers_of" (defScope s_Gameuanswers_of) T.f_Gameuanswers_of cdv A outer st H E) (fun c d _ H' => E c d H') := Mz.takes_of rfl rfl rfl rfl
  exact (is_cons (is_asg 3 nd (ie_call (ok_next_claims T) ar_next_claims tk (hr.mono (by decide)) rfl T.g_next_claims T.F_next_claims.kp T.b_next_claims (ia_cons (ie_attr [11] (ie_var 0) (al_cons ⟨T.C_11.cl, T.na_11_yard⟩ al_nil)) (ia_cons (ie_make (c := 1) T.mk_1 (ok_Claimsu_initu T) ar_Claimsu_initu tk (hr.mono (by decide)) rfl T.gc_1 T.b_Claimsu_initu (ia_cons (ie_ix ix_seq s_ix (ie_var 1) ie_int (fun _ _ => rfl)) ia_nil)) (ia_cons (ie_var 2) ia_nil)))))
    (is_cons (is_if (it_cmp op_isAll s_is (ie_var 3) ie_non (nomark _)) (is_one (is_ret ie_non)) is_nil)
    (is_cons (is_asg 4 nd (ie_callTy call_tuple_of s_tuple rfl T.z_tuple (by decide +kernel) (ia_cons (ie_callB (cr_sortedW (u65 hr)) s_sortD rfl T.z_sorted (by decide +kernel) (ia_cons (ie_op op_addAll s_add (ie_callTy call_list_of s_list rfl T.z_list (by decide +kernel) (ia_cons (ie_ix ix_seq s_ix (ie_var 1) ie_int (fun _ _ => rfl)) ia_nil)) (ie_callTy call_list_of s_list rfl T.z_list (by decide +kernel) (ia_cons (ie_call (ok_pairs_of T) ar_pairs_of tk (hr.mono (by decide)) rfl T.g_pairs_of T.F_pairs_of.kp T.b_pairs_of (ia_cons (ie_meth (c := 6) (ie_attr [11] (ie_var 0) (al_cons ⟨T.C_11.cl, T.na_11_yard⟩ al_nil)) T.C_6.cl T.mt_Yard_batch (ok_Yard_batch T) ar_Yard_batch tk (hr.mono (by decide)) T.b_Yard_batch (ia_cons (ie_var 2) ia_nil)) ia_nil)) ia_nil))) ia_nil)) ia_nil)))
    (is_cons (is_asg 5 nd (ie_lstM ia_nil))
    (is_cons (is_for (passes_of rfl) rfl (ii_seq (ie_call (ok_all_answers T) ar_all_answers tk (hr.mono (by decide)) rfl T.g_all_answers T.F_all_answers.kp T.b_all_answers (ia_cons (ie_var 4) (ia_cons (ie_attr [6] (ie_attr [11] (ie_var 0) (al_cons ⟨T.C_11.cl, T.na_11_yard⟩ al_nil)) (al_cons ⟨T.C_6.cl, T.na_6_width⟩ al_nil)) ia_nil)))) (pg_name (i := 6) nd rfl (by first | exact Or.inl rfl | exact Or.inr rfl)) go_nm (is_cons (is_asg 7 nd (ie_call (ok_after_answer T) ar_after_answer tk (hr.mono (by decide)) rfl T.g_after_answer T.F_after_answer.kp T.b_after_answer (ia_cons (ie_var 4) (ia_cons (ie_var 6) ia_nil))))
    (is_one (is_expr (ie_lm lm_append PySem.F.slot_list_append PySem.F.type_list_append mt_append (ie_var 5) (ia_cons (ie_tup (ia_cons (ie_var 6) (ia_cons (ie_if (it_cmp op_isAll s_is (ie_var 7) ie_non (nomark _)) ie_non (ie_tup (ia_cons (ie_var 7) (ia_cons (ie_attr [1] (ie_var 3) (al_cons ⟨T.C_1.cl, T.na_1_table⟩ al_nil)) ia_nil)))) ia_nil))) ia_nil))))))
    (is_one (is_ret (ie_var 5))))))))
theorem ar_Gameuanswers_of : Ar m_Gameuanswers_of 3 := ar_fn
theorem sc_Gameuexplore : FnScope N_Gameuexplore ["self", "state", "most"] (defScope s_Gameuexplore) := ⟨rfl, rfl, rfl, by decide +kernel, rfl, by decide +kernel, by decide +kernel⟩
theorem ok_Gameuexplore (T : Tt P K mg cl base) : FnOk P w K mg base (CXm K P w) 6 T.f_Gameuexplore T.fd_Gameuexplore ["self", "state", "most"] (spM ⟨K, cl⟩ 3 m_Gameuexplore) := by
  refine fun_ok (md := .tr) (mb := b_Gameuexplore) T.F_Gameuexplore sc_Gameuexplore rfl rfl (fun cdv A outer st H E hr => ?_)
  have nd := sc_Gameuexplore.nd
  have tk : Mz.Takes (cxOf (CXm K P w) P w K mg base N_Gameuexplore "Game._explore" (defScope s_Gameuexplore) T.f_Gameuexplore cdv A outer st H E) (fun c d _ H' => E c d H') := Mz.takes_of rfl rfl rfl rfl
  exact (is_cons (is_asg 3 nd (ie_lstM ia_nil))
    (is_cons (is_for (passes_of rfl) rfl (ii_range1 rfl T.z_range (ia_cons (ie_prop (c := 6) (ie_attr [11] (ie_var 0) (al_cons ⟨T.C_11.cl, T.na_11_yard⟩ al_nil)) T.C_6 T.pp_Yard_letter_count (ok_Yard_letter_count T) (hr.mono (by decide)) T.b_Yard_letter_count) ia_nil)) (pg_name (i := 4) nd rfl (by first | exact Or.inl rfl | exact Or.inr rfl)) go_nm (is_cons (is_asg 5 nd (ie_meth (c := 11) (ie_var 0) T.C_11.cl T.mt_Gameuanswers_of (ok_Gameuanswers_of T) ar_Gameuanswers_of tk (hr.mono (by decide)) T.b_Gameuanswers_of (ia_cons (ie_var 1) (ia_cons (ie_var 4) ia_nil))))
    (is_cons (is_expr (ie_lm lm_append PySem.F.slot_list_append PySem.F.type_list_append mt_append (ie_var 3) (ia_cons (ie_var 5) ia_nil)))
    (is_one (is_for (passes_of rfl) rfl (ii_seq (ie_if (it_cmp op_notAll s_isnot (ie_var 5) ie_non (nomark _)) (ie_var 5) (ie_lst ia_nil))) (pg_tup rfl (pgs_cons (pg_name (i := 6) nd rfl (by first | exact Or.inl rfl | exact Or.inr rfl)) (pgs_cons (pg_name (i := 7) nd rfl (by first | exact Or.inl rfl | exact Or.inr rfl)) pgs_nil))) (go_tp rfl (gos_cons go_nm (gos_cons go_nm gos_nil))) (is_one (is_if (PW.pt (iw_and (it_cmp op_notAll s_isnot (ie_var 7) ie_non (nomark _)) (iw_and1 (it_notnin (u9 hr) (ie_var 7) (ie_attr [11] (ie_var 0) (al_cons ⟨T.C_11.cl, T.na_11__found⟩ al_nil)) (by rfl))))) (is_cons (is_if (it_cmp (op_eqAll hr.units) s_eq (ie_callB c_len s_len rfl T.z_len (by decide +kernel) (ia_cons (ie_attr [11] (ie_var 0) (al_cons ⟨T.C_11.cl, T.na_11__states⟩ al_nil)) ia_nil)) (ie_var 2) (nomark _)) (is_one (is_raise1 T.ex_31 T.gx_31 hr (ie_var 2) rfl rfl tk)) is_nil)
    (is_cons (is_setN ie_bl (ie_attr [11] (ie_var 0) (al_cons ⟨T.C_11.cl, T.na_11__found⟩ al_nil)) (ie_var 7) (pg_sub (ie_attr [11] (ie_var 0) (al_cons ⟨T.C_11.cl, T.na_11__found⟩ al_nil)) (ie_var 7) (set_nd (u9 hr))))
    (is_one (is_expr (ie_lm lm_append PySem.F.slot_list_append PySem.F.type_list_append mt_append (ie_attr [11] (ie_var 0) (al_cons ⟨T.C_11.cl, T.na_11__states⟩ al_nil)) (ia_cons (ie_var 7) ia_nil)))))) is_nil)))))))
    (is_one (is_ret (ie_var 3)))))
theorem ar_Gameuexplore : Ar m_Gameuexplore 3 := ar_fn
theorem sc_Gameuthreat_of : FnScope N_Gameuthreat_of ["self", "state"] (defScope s_Gameuthreat_of) := ⟨rfl, rfl, rfl, by decide +kernel, rfl, by decide +kernel, by decide +kernel⟩
theorem ok_Gameuthreat_of (T : Tt P K mg cl base) : FnOk P w K mg base (CXm K P w) 1 T.f_Gameuthreat_of T.fd_Gameuthreat_of ["self", "state"] (spM ⟨K, cl⟩ 2 m_Gameuthreat_of) := by
  refine fun_ok (md := .tr) (mb := b_Gameuthreat_of) T.F_Gameuthreat_of sc_Gameuthreat_of rfl rfl (fun cdv A outer st H E hr => ?_)
  have nd := sc_Gameuthreat_of.nd
  have tk : Mz.Takes (cxOf (CXm K P w) P w K mg base N_Gameuthreat_of "Game._threat_of" (defScope s_Gameuthreat_of) T.f_Gameuthreat_of cdv A outer st H E) (fun c d _ H' => E c d H') := Mz.takes_of rfl rfl rfl rfl
  exact (is_cons (is_for (passes_of rfl) rfl (ii_enum rfl T.z_enumerate (ia_cons (ie_ix ix_seq s_ix (ie_attr [11] (ie_var 0) (al_cons ⟨T.C_11.cl, T.na_11__answers⟩ al_nil)) (ie_nix (u9 hr) (ie_attr [11] (ie_var 0) (al_cons ⟨T.C_11.cl, T.na_11__numbers⟩ al_nil)) (ie_var 1) (fun _ _ => rfl)) (fun _ _ => rfl)) ia_nil)) (pg_tup rfl (pgs_cons (pg_name (i := 2) nd rfl (by first | exact Or.inl rfl | exact Or.inr rfl)) (pgs_cons (pg_name (i := 3) nd rfl (by first | exact Or.inl rfl | exact Or.inr rfl)) pgs_nil))) (go_tp rfl (gos_cons go_nm (gos_cons go_nm gos_nil))) (is_one (is_if (it_cmp op_notAll s_isnot (ie_var 3) ie_non (nomark _)) (is_cons (is_setLc (i := 4) (own := [("_", 5), ("after", 6)]) rfl nd rfl rfl (sw_true rfl rfl rfl (by decide +kernel)) (ii_seq (ie_var 3)) (blkOk_by (own := [("_", 5), ("after", 6)]) (N := N_Gameuthreat_of) (sc := defScope s_Gameuthreat_of) (by decide +kernel)) (fun _ _ _ _ _ => (pg_tup rfl (pgs_cons (pg_name (i := 5) nd rfl (by first | exact Or.inl rfl | exact Or.inr rfl)) (pgs_cons (pg_name (i := 6) nd rfl (by first | exact Or.inl rfl | exact Or.inr rfl)) pgs_nil)))) (go_tp rfl (gos_cons go_nm (gos_cons go_nm gos_nil))) (fun _ _ _ _ _ => (its_one (PW.pt (iw_and (it_cmp op_notAll s_isnot (ie_var 6) ie_non (nomark _)) (iw_and1 (it_notnin (u9 hr) (ie_var 6) (ie_attr [11] (ie_var 0) (al_cons ⟨T.C_11.cl, T.na_11__ranks⟩ al_nil)) (by rfl))))))) (fun _ _ _ _ _ => (ie_var 6)) (by decide))
    (is_one (is_if (it_cmp (op_eqAll hr.units) s_eq (ie_var 4) (ie_lst ia_nil) (nomark _)) (is_one (is_ret (ie_var 2))) is_nil))) is_nil)))
    (is_one (is_ret ie_non)))
theorem ar_Gameuthreat_of : Ar m_Gameuthreat_of 2 := ar_fn
theorem sc_Gameunew_threats : FnScope N_Gameunew_threats ["self"] (defScope s_Gameunew_threats) := ⟨rfl, rfl, rfl, by decide +kernel, rfl, by decide +kernel, by decide +kernel⟩
theorem ok_Gameunew_threats (T : Tt P K mg cl base) : FnOk P w K mg base (CXm K P w) 2 T.f_Gameunew_threats T.fd_Gameunew_threats ["self"] (spM ⟨K, cl⟩ 1 m_Gameunew_threats) := by
  refine fun_ok (md := .tr) (mb := b_Gameunew_threats) T.F_Gameunew_threats sc_Gameunew_threats rfl rfl (fun cdv A outer st H E hr => ?_)
  have nd := sc_Gameunew_threats.nd
  have tk : Mz.Takes (cxOf (CXm K P w) P w K mg base N_Gameunew_threats "Game._new_threats" (defScope s_Gameunew_threats) T.f_Gameunew_threats cdv A outer st H E) (fun c d _ H' => E c d H') := Mz.takes_of rfl rfl rfl rfl
  exact (is_cons (is_asg 1 nd (ie_lstM ia_nil))
    (is_cons (is_for (passes_of rfl) rfl (ii_seq (ie_attr [11] (ie_var 0) (al_cons ⟨T.C_11.cl, T.na_11__states⟩ al_nil))) (pg_name (i := 2) nd rfl (by first | exact Or.inl rfl | exact Or.inr rfl)) go_nm (is_one (is_if (it_notnin (u9 hr) (ie_var 2) (ie_attr [11] (ie_var 0) (al_cons ⟨T.C_11.cl, T.na_11__ranks⟩ al_nil)) (by rfl)) (is_cons (is_asg 3 nd (ie_meth (c := 11) (ie_var 0) T.C_11.cl T.mt_Gameuthreat_of (ok_Gameuthreat_of T) ar_Gameuthreat_of tk (hr.mono (by decide)) T.b_Gameuthreat_of (ia_cons (ie_var 2) ia_nil)))
    (is_one (is_if (it_cmp op_notAll s_isnot (ie_var 3) ie_non (nomark _)) (is_one (is_expr (ie_lm lm_append PySem.F.slot_list_append PySem.F.type_list_append mt_append (ie_var 1) (ia_cons (ie_tup (ia_cons (ie_var 2) (ia_cons (ie_var 3) ia_nil))) ia_nil)))) is_nil))) is_nil)))
    (is_one (is_ret (ie_var 1)))))
theorem ar_Gameunew_threats : Ar m_Gameunew_threats 1 := ar_fn
theorem sc_Gameurank_states : FnScope N_Gameurank_states ["self"] (defScope s_Gameurank_states) := ⟨rfl, rfl, rfl, by decide +kernel, rfl, by decide +kernel, by decide +kernel⟩
theorem ok_Gameurank_states (T : Tt P K mg cl base) : FnOk P w K mg base (CXm K P w) 3 T.f_Gameurank_states T.fd_Gameurank_states ["self"] (spM ⟨K, cl⟩ 1 m_Gameurank_states) := by
  refine fun_ok (md := .tr) (mb := b_Gameurank_states) T.F_Gameurank_states sc_Gameurank_states rfl rfl (fun cdv A outer st H E hr => ?_)
  have nd := sc_Gameurank_states.nd
  have tk : Mz.Takes (cxOf (CXm K P w) P w K mg base N_Gameurank_states "Game._rank_states" (defScope s_Gameurank_states) T.f_Gameurank_states cdv A outer st H E) (fun c d _ H' => E c d H') := Mz.takes_of rfl rfl rfl rfl
  exact (is_cons (is_asg 1 nd ie_int)
    (is_cons (is_asg 2 nd (ie_meth0 (c := 11) (ie_var 0) T.C_11.cl T.mt_Gameunew_threats (ok_Gameunew_threats T) ar_Gameunew_threats tk (hr.mono (by decide)) T.b_Gameunew_threats))
    (is_one (is_while (passes_of rfl) (it_cmp op_gt s_gt (ie_callB c_len s_len rfl T.z_len (by decide +kernel) (ia_cons (ie_var 2) ia_nil)) ie_int (nomark _)) (is_cons (is_for (passes_of rfl) rfl (ii_seq (ie_var 2)) (pg_tup rfl (pgs_cons (pg_name (i := 3) nd rfl (by first | exact Or.inl rfl | exact Or.inr rfl)) (pgs_cons (pg_name (i := 4) nd rfl (by first | exact Or.inl rfl | exact Or.inr rfl)) pgs_nil))) (go_tp rfl (gos_cons go_nm (gos_cons go_nm gos_nil))) (is_cons (is_setN (ie_var 1) (ie_attr [11] (ie_var 0) (al_cons ⟨T.C_11.cl, T.na_11__ranks⟩ al_nil)) (ie_var 3) (pg_sub (ie_attr [11] (ie_var 0) (al_cons ⟨T.C_11.cl, T.na_11__ranks⟩ al_nil)) (ie_var 3) (set_nd (u9 hr))))
    (is_one (is_setN (ie_var 4) (ie_attr [11] (ie_var 0) (al_cons ⟨T.C_11.cl, T.na_11__threats⟩ al_nil)) (ie_var 3) (pg_sub (ie_attr [11] (ie_var 0) (al_cons ⟨T.C_11.cl, T.na_11__threats⟩ al_nil)) (ie_var 3) (set_nd (u9 hr)))))))
    (is_cons (is_aug 1 nd ie_int ip_add)
    (is_one (is_asg 2 nd (ie_meth0 (c := 11) (ie_var 0) T.C_11.cl T.mt_Gameunew_threats (ok_Gameunew_threats T) ar_Gameunew_threats tk (hr.mono (by decide)) T.b_Gameunew_threats)))))))))
theorem ar_Gameurank_states : Ar m_Gameurank_states 1 := ar_fn
theorem sc_Gameu_initu : FnScope N_Gameu_initu ["self", "yard", "most"] (defScope s_Gameu_initu) := ⟨rfl, rfl, rfl, by decide +kernel, rfl, by decide +kernel, by decide +kernel⟩
theorem ok_Gameu_initu (T : Tt P K mg cl base) : FnOk P w K mg base (CXm K P w) 7 T.f_Gameu_initu T.fd_Gameu_initu ["self", "yard", "most"] (spM ⟨K, cl⟩ 3 m_Gameu_initu) := by
  refine fun_ok (md := .kp) (mb := b_Gameu_initu) T.F_Gameu_initu sc_Gameu_initu rfl rfl (fun cdv A outer st H E hr => ?_)
  have nd := sc_Gameu_initu.nd
  have tk : Mz.Takes (cxOf (CXm K P w) P w K mg base N_Gameu_initu "Game.__init__" (defScope s_Gameu_initu) T.f_Gameu_initu cdv A outer st H E) (fun c d _ H' => E c d H') := Mz.takes_of rfl rfl rfl rfl
  exact (is_cons (is_setA [11] (ie_var 1) (ie_var 0) (al_cons ⟨T.C_11.cl, T.na_11_yard⟩ al_nil))
    (is_cons (is_setA [11] (ie_lstM (ia_cons (ie_tup (ia_cons (ie_tup ia_nil) (ia_cons (ie_attr [1] (ie_cmeth (c := 1) rfl T.gc_1 T.cr_1 T.ct_Claims_none (ok_Claims_none T) ar_Claims_none tk (hr.mono (by decide)) T.b_Claims_none (ia_cons (ie_prop (c := 6) (ie_var 1) T.C_6 T.pp_Yard_span (ok_Yard_span T) (hr.mono (by decide)) T.b_Yard_span) ia_nil)) (al_cons ⟨T.C_1.cl, T.na_1_table⟩ al_nil)) ia_nil))) ia_nil)) (ie_var 0) (al_cons ⟨T.C_11.cl, T.na_11__states⟩ al_nil))
    (is_cons (is_setA [11] (ie_dispN (u9 hr) (ie_ix ix_seq s_ix (ie_attr [11] (ie_var 0) (al_cons ⟨T.C_11.cl, T.na_11__states⟩ al_nil)) ie_int (fun _ _ => rfl)) ie_bl) (ie_var 0) (al_cons ⟨T.C_11.cl, T.na_11__found⟩ al_nil))
    (is_cons (is_setA [11] (ie_lstM ia_nil) (ie_var 0) (al_cons ⟨T.C_11.cl, T.na_11__answers⟩ al_nil))
    (is_cons (is_setA [11] ie_dnewN (ie_var 0) (al_cons ⟨T.C_11.cl, T.na_11__numbers⟩ al_nil))
    (is_cons (is_while (passes_of rfl) (it_cmp op_lt s_lt (ie_callB c_len s_len rfl T.z_len (by decide +kernel) (ia_cons (ie_attr [11] (ie_var 0) (al_cons ⟨T.C_11.cl, T.na_11__answers⟩ al_nil)) ia_nil)) (ie_callB c_len s_len rfl T.z_len (by decide +kernel) (ia_cons (ie_attr [11] (ie_var 0) (al_cons ⟨T.C_11.cl, T.na_11__states⟩ al_nil)) ia_nil)) (nomark _)) (is_cons (is_asg 3 nd (ie_ix ix_seq s_ix (ie_attr [11] (ie_var 0) (al_cons ⟨T.C_11.cl, T.na_11__states⟩ al_nil)) (ie_callB c_len s_len rfl T.z_len (by decide +kernel) (ia_cons (ie_attr [11] (ie_var 0) (al_cons ⟨T.C_11.cl, T.na_11__answers⟩ al_nil)) ia_nil)) (fun _ _ => rfl)))
    (is_cons (is_setN (ie_callB c_len s_len rfl T.z_len (by decide +kernel) (ia_cons (ie_attr [11] (ie_var 0) (al_cons ⟨T.C_11.cl, T.na_11__answers⟩ al_nil)) ia_nil)) (ie_attr [11] (ie_var 0) (al_cons ⟨T.C_11.cl, T.na_11__numbers⟩ al_nil)) (ie_var 3) (pg_sub (ie_attr [11] (ie_var 0) (al_cons ⟨T.C_11.cl, T.na_11__numbers⟩ al_nil)) (ie_var 3) (set_nd (u9 hr))))
    (is_one (is_expr (ie_lm lm_append PySem.F.slot_list_append PySem.F.type_list_append mt_append (ie_attr [11] (ie_var 0) (al_cons ⟨T.C_11.cl, T.na_11__answers⟩ al_nil)) (ia_cons (ie_meth (c := 11) (ie_var 0) T.C_11.cl T.mt_Gameuexplore (ok_Gameuexplore T) ar_Gameuexplore tk (hr.mono (by decide)) T.b_Gameuexplore (ia_cons (ie_var 3) (ia_cons (ie_var 2) ia_nil))) ia_nil)))))))
    (is_cons (is_setA [11] ie_dnewN (ie_var 0) (al_cons ⟨T.C_11.cl, T.na_11__ranks⟩ al_nil))
    (is_cons (is_setA [11] ie_dnewN (ie_var 0) (al_cons ⟨T.C_11.cl, T.na_11__threats⟩ al_nil))
    (is_one (is_expr (ie_meth0 (c := 11) (ie_var 0) T.C_11.cl T.mt_Gameurank_states (ok_Gameurank_states T) ar_Gameurank_states tk (hr.mono (by decide)) T.b_Gameurank_states)))))))))))
theorem ar_Gameu_initu : Ar m_Gameu_initu 3 := ar_fn
theorem sc_Gameu_lenu : FnScope N_Gameu_lenu ["self"] (defScope s_Gameu_lenu) := ⟨rfl, rfl, rfl, by decide +kernel, rfl, by decide +kernel, by decide +kernel⟩
theorem ok_Gameu_lenu (T : Tt P K mg cl base) : FnOk P w K mg base (CXm K P w) 1 T.f_Gameu_lenu T.fd_Gameu_lenu ["self"] (spM ⟨K, cl⟩ 1 m_Gameu_lenu) := by
  refine fun_ok (md := .tr) (mb := b_Gameu_lenu) T.F_Gameu_lenu sc_Gameu_lenu rfl rfl (fun cdv A outer st H E hr => ?_)
  have nd := sc_Gameu_lenu.nd
  have tk : Mz.Takes (cxOf (CXm K P w) P w K mg base N_Gameu_lenu "Game.__len__" (defScope s_Gameu_lenu) T.f_Gameu_lenu cdv A outer st H E) (fun c d _ H' => E c d H') := Mz.takes_of rfl rfl rfl rfl
  exact (is_one (is_ret (ie_callB c_len s_len rfl T.z_len (by decide +kernel) (ia_cons (ie_attr [11] (ie_var 0) (al_cons ⟨T.C_11.cl, T.na_11__states⟩ al_nil)) ia_nil))))
theorem sc_Game_holds : FnScope N_Game_holds ["self"] (defScope s_Game_holds) := ⟨rfl, rfl, rfl, by decide +kernel, rfl, by decide +kernel, by decide +kernel⟩
theorem ok_Game_holds (T : Tt P K mg cl base) : FnOk P w K mg base (CXm K P w) 1 T.f_Game_holds T.fd_Game_holds ["self"] (spM ⟨K, cl⟩ 1 m_Game_holds) := by
  refine fun_ok (md := .tr) (mb := b_Game_holds) T.F_Game_holds sc_Game_holds rfl rfl (fun cdv A outer st H E hr => ?_)
  have nd := sc_Game_holds.nd
  have tk : Mz.Takes (cxOf (CXm K P w) P w K mg base N_Game_holds "Game.holds" (defScope s_Game_holds) T.f_Game_holds cdv A outer st H E) (fun c d _ H' => E c d H') := Mz.takes_of rfl rfl rfl rfl
  exact (is_one (is_ret (ie_notnin (u9 hr) (ie_ix ix_seq s_ix (ie_attr [11] (ie_var 0) (al_cons ⟨T.C_11.cl, T.na_11__states⟩ al_nil)) ie_int (fun _ _ => rfl)) (ie_attr [11] (ie_var 0) (al_cons ⟨T.C_11.cl, T.na_11__ranks⟩ al_nil)) (by rfl))))
theorem sc_law_cell : FnScope N_law_cell ["_law_script", "_law_at"] (defScope s_law_cell) := ⟨rfl, rfl, rfl, by decide +kernel, rfl, by decide +kernel, by decide +kernel⟩
theorem ok_law_cell (T : Tt P K mg cl base) : FnOk P w K mg base (CXm K P w) 1 T.f_law_cell T.fd_law_cell ["_law_script", "_law_at"] (spM ⟨K, cl⟩ 2 m_law_cell) := by
  refine fun_ok (md := .tr) (mb := b_law_cell) T.F_law_cell sc_law_cell rfl rfl (fun cdv A outer st H E hr => ?_)
  have nd := sc_law_cell.nd
  have tk : Mz.Takes (cxOf (CXm K P w) P w K mg base N_law_cell "_law_cell" (defScope s_law_cell) T.f_law_cell cdv A outer st H E) (fun c d _ H' => E c d H') := Mz.takes_of rfl rfl rfl rfl
  exact (is_cons (is_if (it_cmp op_lt s_lt (ie_var 1) (ie_callB c_len s_len rfl T.z_len (by decide +kernel) (ia_cons (ie_var 0) ia_nil)) (nomark _)) (is_one (is_ret (ie_callB call_abs s_abs rfl T.z_abs (by decide +kernel) (ia_cons (ie_callTy call_int1 s_int rfl T.z_int (by decide +kernel) (ia_cons (ie_ix ix_seq s_ix (ie_var 0) (ie_var 1) (fun _ _ => rfl)) ia_nil)) ia_nil)))) is_nil)
    (is_one (is_ret ie_int)))
theorem ar_law_cell : Ar m_law_cell 2 := ar_fn
theorem sc_law_take : FnScope N_law_take ["_law_pool_here", "_law_many"] (defScope s_law_take) := ⟨rfl, rfl, rfl, by decide +kernel, rfl, by decide +kernel, by decide +kernel⟩
theorem ok_law_take (T : Tt P K mg cl base) : FnOk P w K mg base (CXm K P w) 1 T.f_law_take T.fd_law_take ["_law_pool_here", "_law_many"] (spM ⟨K, cl⟩ 2 m_law_take) := by
  refine fun_ok (md := .tr) (mb := b_law_take) T.F_law_take sc_law_take rfl rfl (fun cdv A outer st H E hr => ?_)
  have nd := sc_law_take.nd
  have tk : Mz.Takes (cxOf (CXm K P w) P w K mg base N_law_take "_law_take" (defScope s_law_take) T.f_law_take cdv A outer st H E) (fun c d _ H' => E c d H') := Mz.takes_of rfl rfl rfl rfl
  exact (is_cons (is_setI (ie_op op_addAll s_add (ie_ix ix_seq s_ix (ie_var 0) ie_int (fun _ _ => rfl)) ie_int) (ie_var 0) ie_int (pg_sub (ie_var 0) ie_int set_list))
    (is_cons (is_if (it_cmp op_gt s_gt (ie_ix ix_seq s_ix (ie_var 0) ie_int (fun _ _ => rfl)) ie_int (nomark _)) (is_cons (is_asg 2 nd (ie_op op_mod s_mod (ie_callTy call_int1 s_int rfl T.z_int (by decide +kernel) (ia_cons (ie_ix ix_seq s_ix (ie_var 0) ie_int (fun _ _ => rfl)) ia_nil)) (ie_var 1)))
    (is_cons (is_setI (ie_op op_fdivW s_div (ie_ix ix_seq s_ix (ie_var 0) ie_int (fun _ _ => rfl)) (ie_var 1)) (ie_var 0) ie_int (pg_sub (ie_var 0) ie_int set_list))
    (is_one (is_ret (ie_var 2))))) is_nil)
    (is_cons (is_asg 3 nd (ie_op op_mod s_mod (ie_callTy call_int1 s_int rfl T.z_int (by decide +kernel) (ia_cons (ie_op op_mul s_mul (ie_op op_addAll s_add (ie_ix ix_seq s_ix (ie_var 0) ie_int (fun _ _ => rfl)) (ie_op op_mul s_mul ie_int (ie_ix ix_seq s_ix (ie_var 0) ie_int (fun _ _ => rfl)))) ie_int) ia_nil)) ie_int))
    (is_cons (is_asg 3 nd (ie_op op_mod s_mod (ie_callTy call_int1 s_int rfl T.z_int (by decide +kernel) (ia_cons (ie_op op_addAll s_add (ie_op op_mul s_mul (ie_var 3) ie_int) (ie_op op_mul s_mul ie_int (ie_ix ix_seq s_ix (ie_var 0) ie_int (fun _ _ => rfl)))) ia_nil)) ie_int))
    (is_one (is_ret (ie_op op_mod s_mod (ie_callTy call_int1 s_int rfl T.z_int (by decide +kernel) (ia_cons (ie_op op_fdivW s_div (ie_var 3) ie_int) ia_nil)) (ie_var 1))))))))
theorem ar_law_take : Ar m_law_take 2 := ar_fn
theorem sc_law_names : FnScope N_law_names ["_law_pool_here", "_law_many"] (defScope s_law_names) := ⟨rfl, rfl, rfl, by decide +kernel, rfl, by decide +kernel, by decide +kernel⟩
theorem ok_law_names (T : Tt P K mg cl base) : FnOk P w K mg base (CXm K P w) 2 T.f_law_names T.fd_law_names ["_law_pool_here", "_law_many"] (spM ⟨K, cl⟩ 2 m_law_names) := by
  refine fun_ok (md := .tr) (mb := b_law_names) T.F_law_names sc_law_names rfl rfl (fun cdv A outer st H E hr => ?_)
  have nd := sc_law_names.nd
  have tk : Mz.Takes (cxOf (CXm K P w) P w K mg base N_law_names "_law_names" (defScope s_law_names) T.f_law_names cdv A outer st H E) (fun c d _ H' => E c d H') := Mz.takes_of rfl rfl rfl rfl
  exact (is_cons (is_asg 2 nd ie_str)
    (is_cons (is_asg 3 nd (ie_op op_addAll s_add ie_int (ie_call (ok_law_take T) ar_law_take tk (hr.mono (by decide)) rfl T.g_law_take T.F_law_take.kp T.b_law_take (ia_cons (ie_var 0) (ia_cons ie_int ia_nil)))))
    (is_cons (is_asg 4 nd (ie_call (ok_law_take T) ar_law_take tk (hr.mono (by decide)) rfl T.g_law_take T.F_law_take.kp T.b_law_take (ia_cons (ie_var 0) (ia_cons (ie_var 3) ia_nil))))
    (is_cons (is_asg 5 nd (ie_call (ok_law_take T) ar_law_take tk (hr.mono (by decide)) rfl T.g_law_take T.F_law_take.kp T.b_law_take (ia_cons (ie_var 0) (ia_cons ie_int ia_nil))))
    (is_cons (is_asg 6 nd (ie_call (ok_law_take T) ar_law_take tk (hr.mono (by decide)) rfl T.g_law_take T.F_law_take.kp T.b_law_take (ia_cons (ie_var 0) (ia_cons ie_int ia_nil))))
    (is_cons (is_setLc (i := 8) (own := [("_law_k", 7)]) rfl nd rfl rfl (sw_true rfl rfl rfl (by decide +kernel)) (ii_range1 rfl T.z_range (ia_cons (ie_var 3) ia_nil)) (blkOk_by (own := [("_law_k", 7)]) (N := N_law_names) (sc := defScope s_law_names) (by decide +kernel)) (fun _ _ _ _ _ => (pg_name (i := 7) nd rfl (by first | exact Or.inl rfl | exact Or.inr rfl))) go_nm (fun _ _ _ _ _ => its_nil) (fun _ _ _ _ _ => (ie_ix ix_seq s_ix (ie_var 2) (ie_call (ok_law_take T) ar_law_take Mz.takes0 (hr.mono (by decide)) rfl T.g_law_take T.F_law_take.kp T.b_law_take (ia_cons (ie_var 0) (ia_cons ie_int ia_nil))) (fun _ _ => rfl))) (by decide))
    (is_cons (is_asg 9 nd (ie_lstM ia_nil))
    (is_cons (is_for (passes_of rfl) rfl (ii_range1 rfl T.z_range (ia_cons (ie_var 1) ia_nil)) (pg_name (i := 7) nd rfl (by first | exact Or.inl rfl | exact Or.inr rfl)) go_nm (is_cons (is_asg 10 nd (ie_callTy call_list_of s_listM rfl T.z_list (by decide +kernel) (ia_cons (ie_var 8) ia_nil)))
    (is_cons (is_setI (ie_ix ix_seq s_ix (ie_var 2) (ie_op op_mod s_mod (ie_callTy call_int1 s_int rfl T.z_int (by decide +kernel) (ia_cons (ie_op op_addAll s_add (ie_var 5) (ie_var 7)) ia_nil)) ie_int) (fun _ _ => rfl)) (ie_var 10) (ie_var 4) (pg_sub (ie_var 10) (ie_var 4) set_list))
    (is_cons (is_if (it_cmp (op_eqAll hr.units) s_eq (ie_var 6) ie_int (nomark _)) (is_one (is_asg 10 nd (ie_sl (ie_var 10) io_none (io_some (ie_op op_addAll s_add (ie_op op_addAll s_add (ie_var 4) ie_int) (ie_op op_mod s_mod (ie_callTy call_int1 s_int rfl T.z_int (by decide +kernel) (ia_cons (ie_var 7) ia_nil)) (ie_op op_sub s_sub (ie_var 3) (ie_var 4)))))))) is_nil)
    (is_one (is_expr (ie_lm lm_append PySem.F.slot_list_append PySem.F.type_list_append mt_append (ie_var 9) (ia_cons (ie_join ie_str (ie_var 10)) ia_nil))))))))
    (is_one (is_ret (ie_var 9)))))))))))
theorem ar_law_names : Ar m_law_names 2 := ar_fn
theorem sc_law_foe : FnScope N_law_foe ["_law_pool_here"] (defScope s_law_foe) := ⟨rfl, rfl, rfl, by decide +kernel, rfl, by decide +kernel, by decide +kernel⟩
theorem ok_law_foe (T : Tt P K mg cl base) : FnOk P w K mg base (CXm K P w) 3 T.f_law_foe T.fd_law_foe ["_law_pool_here"] (spM ⟨K, cl⟩ 1 m_law_foe) := by
  refine fun_ok (md := .tr) (mb := b_law_foe) T.F_law_foe sc_law_foe rfl rfl (fun cdv A outer st H E hr => ?_)
  have nd := sc_law_foe.nd
  have tk : Mz.Takes (cxOf (CXm K P w) P w K mg base N_law_foe "_law_foe" (defScope s_law_foe) T.f_law_foe cdv A outer st H E) (fun c d _ H' => E c d H') := Mz.takes_of rfl rfl rfl rfl
  exact (is_cons (is_asg 1 nd (ie_call (ok_law_names T) ar_law_names tk (hr.mono (by decide)) rfl T.g_law_names T.F_law_names.kp T.b_law_names (ia_cons (ie_var 0) (ia_cons ie_int ia_nil))))
    (is_cons (is_asg 2 nd (ie_lst (ia_cons (ie_tup (ia_cons (ie_ix ix_seq s_ix (ie_var 1) ie_int (fun _ _ => rfl)) (ia_cons ie_int (ia_cons ie_int ia_nil)))) (ia_cons (ie_tup (ia_cons (ie_ix ix_seq s_ix (ie_var 1) ie_int (fun _ _ => rfl)) (ia_cons ie_int (ia_cons ie_int ia_nil)))) (ia_cons (ie_tup (ia_cons (ie_ix ix_seq s_ix (ie_var 1) ie_int (fun _ _ => rfl)) (ia_cons ie_int (ia_cons ie_int ia_nil)))) ia_nil)))))
    (is_cons (is_asg 3 nd (ie_ix ix_seq s_ix (ie_lst (ia_cons (ie_lst (ia_cons (ie_ix ix_seq s_ix (ie_var 1) ie_int (fun _ _ => rfl)) (ia_cons (ie_ix ix_seq s_ix (ie_var 1) ie_int (fun _ _ => rfl)) (ia_cons (ie_ix ix_seq s_ix (ie_var 1) ie_int (fun _ _ => rfl)) ia_nil)))) (ia_cons (ie_lst (ia_cons (ie_ix ix_seq s_ix (ie_var 1) ie_int (fun _ _ => rfl)) (ia_cons (ie_ix ix_seq s_ix (ie_var 1) ie_int (fun _ _ => rfl)) (ia_cons (ie_ix ix_seq s_ix (ie_var 1) ie_int (fun _ _ => rfl)) ia_nil)))) ia_nil))) (ie_call (ok_law_take T) ar_law_take tk (hr.mono (by decide)) rfl T.g_law_take T.F_law_take.kp T.b_law_take (ia_cons (ie_var 0) (ia_cons ie_int ia_nil))) (fun _ _ => rfl)))
    (is_cons (is_asg 4 nd (ie_call (ok_law_names T) ar_law_names tk (hr.mono (by decide)) rfl T.g_law_names T.F_law_names.kp T.b_law_names (ia_cons (ie_var 0) (ia_cons ie_int ia_nil))))
    (is_cons (is_asg 5 nd (ie_lstM (ia_cons (ie_tup (ia_cons (ie_ix ix_seq s_ix (ie_var 4) ie_int (fun _ _ => rfl)) (ia_cons (ie_var 3) ia_nil))) (ia_cons (ie_tup (ia_cons (ie_ix ix_seq s_ix (ie_var 4) ie_int (fun _ _ => rfl)) (ia_cons (ie_lst (ia_cons (ie_ix ix_seq s_ix (ie_var 1) ie_int (fun _ _ => rfl)) (ia_cons (ie_ix ix_seq s_ix (ie_var 1) ie_int (fun _ _ => rfl)) ia_nil))) ia_nil))) ia_nil))))
    (is_cons (is_if (it_cmp (op_eqAll hr.units) s_eq (ie_call (ok_law_take T) ar_law_take tk (hr.mono (by decide)) rfl T.g_law_take T.F_law_take.kp T.b_law_take (ia_cons (ie_var 0) (ia_cons ie_int ia_nil))) ie_int (nomark _)) (is_one (is_asg 5 nd (ie_lstM (ia_cons (ie_ix ix_seq s_ix (ie_var 5) ie_int (fun _ _ => rfl)) (ia_cons (ie_ix ix_seq s_ix (ie_var 5) ie_int (fun _ _ => rfl)) ia_nil))))) is_nil)
    (is_cons (is_if (it_cmp (op_eqAll hr.units) s_eq (ie_call (ok_law_take T) ar_law_take tk (hr.mono (by decide)) rfl T.g_law_take T.F_law_take.kp T.b_law_take (ia_cons (ie_var 0) (ia_cons ie_int ia_nil))) ie_int (nomark _)) (is_one (is_expr (ie_lm lm_append PySem.F.slot_list_append PySem.F.type_list_append mt_append (ie_var 5) (ia_cons (ie_tup (ia_cons (ie_ix ix_seq s_ix (ie_var 4) ie_int (fun _ _ => rfl)) (ia_cons (ie_lst (ia_cons (ie_ix ix_seq s_ix (ie_var 1) (ie_call (ok_law_take T) ar_law_take tk (hr.mono (by decide)) rfl T.g_law_take T.F_law_take.kp T.b_law_take (ia_cons (ie_var 0) (ia_cons ie_int ia_nil))) (fun _ _ => rfl)) ia_nil)) ia_nil))) ia_nil)))) is_nil)
    (is_cons (is_asg 6 nd (ie_call (ok_law_take T) ar_law_take tk (hr.mono (by decide)) rfl T.g_law_take T.F_law_take.kp T.b_law_take (ia_cons (ie_var 0) (ia_cons ie_int ia_nil))))
    (is_one (is_ret (ie_lst (ia_cons ie_int (ia_cons (ie_op op_addAll s_add (ie_sl (ie_var 2) (io_some (ie_var 6)) io_none) (ie_sl (ie_var 2) io_none (io_some (ie_var 6)))) (ia_cons (ie_fz (ie_var 5)) ia_nil))))))))))))))
theorem ar_law_foe : Ar m_law_foe 1 := ar_fn
theorem sc_Gameucheck : FnScope N_Gameucheck ["self", "state"] (defScope s_Gameucheck) := ⟨rfl, rfl, rfl, by decide +kernel, rfl, by decide +kernel, by decide +kernel⟩
theorem ok_Gameucheck (T : Tt P K mg cl base) : FnOk P w K mg base (CXm K P w) 1 T.f_Gameucheck T.fd_Gameucheck ["self", "state"] (spM ⟨K, cl⟩ 2 m_Gameucheck) := by
  refine fun_ok (md := .tr) (mb := b_Gameucheck) T.F_Gameucheck sc_Gameucheck rfl rfl (fun cdv A outer st H E hr => ?_)
  have nd := sc_Gameucheck.nd
  have tk : Mz.Takes (cxOf (CXm K P w) P w K mg base N_Gameucheck "Game._check" (defScope s_Gameucheck) T.f_Gameucheck cdv A outer st H E) (fun c d _ H' => E c d H') := Mz.takes_of rfl rfl rfl rfl
  exact (is_one (is_if (it_notnin (u9 hr) (ie_var 1) (ie_attr [11] (ie_var 0) (al_cons ⟨T.C_11.cl, T.na_11__found⟩ al_nil)) (by rfl)) (is_one (is_raise PySem.F.excBase_ValueError T.xq_30 T.gx_30 T.xk_30 (raises_own T.xr1_30 T.xr2_30) rfl rfl tk)) is_nil))
theorem ar_Gameucheck : Ar m_Gameucheck 2 := ar_fn
theorem sc_Game_threat : FnScope N_Game_threat ["self", "state"] (defScope s_Game_threat) := ⟨rfl, rfl, rfl, by decide +kernel, rfl, by decide +kernel, by decide +kernel⟩
theorem ok_Game_threat (T : Tt P K mg cl base) : FnOk P w K mg base (CXm K P w) 2 T.f_Game_threat T.fd_Game_threat ["self", "state"] (spM ⟨K, cl⟩ 2 m_Game_threat) := by
  refine fun_ok (md := .tr) (mb := b_Game_threat) T.F_Game_threat sc_Game_threat rfl rfl (fun cdv A outer st H E hr => ?_)
  have nd := sc_Game_threat.nd
  have tk : Mz.Takes (cxOf (CXm K P w) P w K mg base N_Game_threat "Game.threat" (defScope s_Game_threat) T.f_Game_threat cdv A outer st H E) (fun c d _ H' => E c d H') := Mz.takes_of rfl rfl rfl rfl
  exact (is_cons (is_expr (ie_meth (c := 11) (ie_var 0) T.C_11.cl T.mt_Gameucheck (ok_Gameucheck T) ar_Gameucheck tk (hr.mono (by decide)) T.b_Gameucheck (ia_cons (ie_var 1) ia_nil)))
    (is_one (is_ret (ie_getN1 (u9 hr) (ie_attr [11] (ie_var 0) (al_cons ⟨T.C_11.cl, T.na_11__threats⟩ al_nil)) (ie_var 1) ⟨rfl, rfl, rfl, rfl⟩))))
theorem ar_Game_threat : Ar m_Game_threat 2 := ar_fn
theorem sc_law_falls : FnScope N_law_falls ["_law_ranks", "_law_rank_here"] (defScope s_law_falls) := ⟨rfl, rfl, rfl, by decide +kernel, rfl, by decide +kernel, by decide +kernel⟩
theorem ok_law_falls (T : Tt P K mg cl base) : FnOk P w K mg base (CXm K P w) 1 T.f_law_falls T.fd_law_falls ["_law_ranks", "_law_rank_here"] (spM ⟨K, cl⟩ 2 m_law_falls) := by
  refine fun_ok (md := .tr) (mb := b_law_falls) T.F_law_falls sc_law_falls rfl rfl (fun cdv A outer st H E hr => ?_)
  have nd := sc_law_falls.nd
  have tk : Mz.Takes (cxOf (CXm K P w) P w K mg base N_law_falls "_law_falls" (defScope s_law_falls) T.f_law_falls cdv A outer st H E) (fun c d _ H' => E c d H') := Mz.takes_of rfl rfl rfl rfl
  exact (is_cons (is_for (passes_of rfl) rfl (ii_seq (ie_var 0)) (pg_name (i := 2) nd rfl (by first | exact Or.inl rfl | exact Or.inr rfl)) go_nm (is_one (is_if (PW.pt (iw_or (it_cmp op_isAll s_is (ie_var 2) ie_non (nomark _)) (iw_or (it_cmp op_lt s_lt (ie_var 2) ie_int (nomark _)) (iw_or1 (it_cmp op_ge s_ge (ie_var 2) (ie_var 1) (nomark _)))))) (is_one (is_ret ie_bl)) is_nil)))
    (is_one (is_ret ie_bl)))
theorem ar_law_falls : Ar m_law_falls 2 := ar_fn
theorem sc_Gameu_containsu : FnScope N_Gameu_containsu ["self", "state"] (defScope s_Gameu_containsu) := ⟨rfl, rfl, rfl, by decide +kernel, rfl, by decide +kernel, by decide +kernel⟩
theorem ok_Gameu_containsu (T : Tt P K mg cl base) : FnOk P w K mg base (CXm K P w) 1 T.f_Gameu_containsu T.fd_Gameu_containsu ["self", "state"] (spM ⟨K, cl⟩ 2 m_Gameu_containsu) := by
  refine fun_ok (md := .tr) (mb := b_Gameu_containsu) T.F_Gameu_containsu sc_Gameu_containsu rfl rfl (fun cdv A outer st H E hr => ?_)
  have nd := sc_Gameu_containsu.nd
  have tk : Mz.Takes (cxOf (CXm K P w) P w K mg base N_Gameu_containsu "Game.__contains__" (defScope s_Gameu_containsu) T.f_Gameu_containsu cdv A outer st H E) (fun c d _ H' => E c d H') := Mz.takes_of rfl rfl rfl rfl
  exact (is_one (is_ret (ie_nin (u9 hr) (ie_var 1) (ie_attr [11] (ie_var 0) (al_cons ⟨T.C_11.cl, T.na_11__found⟩ al_nil)) (by rfl))))
theorem sc_Game_rank : FnScope N_Game_rank ["self", "state"] (defScope s_Game_rank) := ⟨rfl, rfl, rfl, by decide +kernel, rfl, by decide +kernel, by decide +kernel⟩
theorem ok_Game_rank (T : Tt P K mg cl base) : FnOk P w K mg base (CXm K P w) 2 T.f_Game_rank T.fd_Game_rank ["self", "state"] (spM ⟨K, cl⟩ 2 m_Game_rank) := by
  refine fun_ok (md := .tr) (mb := b_Game_rank) T.F_Game_rank sc_Game_rank rfl rfl (fun cdv A outer st H E hr => ?_)
  have nd := sc_Game_rank.nd
  have tk : Mz.Takes (cxOf (CXm K P w) P w K mg base N_Game_rank "Game.rank" (defScope s_Game_rank) T.f_Game_rank cdv A outer st H E) (fun c d _ H' => E c d H') := Mz.takes_of rfl rfl rfl rfl
  exact (is_cons (is_expr (ie_meth (c := 11) (ie_var 0) T.C_11.cl T.mt_Gameucheck (ok_Gameucheck T) ar_Gameucheck tk (hr.mono (by decide)) T.b_Gameucheck (ia_cons (ie_var 1) ia_nil)))
    (is_one (is_ret (ie_getN2 (u9 hr) (ie_attr [11] (ie_var 0) (al_cons ⟨T.C_11.cl, T.na_11__ranks⟩ al_nil)) (ie_var 1) ie_int ⟨rfl, rfl, rfl, rfl⟩))))
theorem ar_Game_rank : Ar m_Game_rank 2 := ar_fn
theorem sc_law_rank : FnScope N_law_rank ["_law_told", "_law_state_here"] (defScope s_law_rank) := ⟨rfl, rfl, rfl, by decide +kernel, rfl, by decide +kernel, by decide +kernel⟩
theorem ok_law_rank (T : Tt P K mg cl base) : FnOk P w K mg base (CXm K P w) 3 T.f_law_rank T.fd_law_rank ["_law_told", "_law_state_here"] (spM ⟨K, cl⟩ 2 m_law_rank) := by
  refine fun_ok (md := .tr) (mb := b_law_rank) T.F_law_rank sc_law_rank rfl rfl (fun cdv A outer st H E hr => ?_)
  have nd := sc_law_rank.nd
  have tk : Mz.Takes (cxOf (CXm K P w) P w K mg base N_law_rank "_law_rank" (defScope s_law_rank) T.f_law_rank cdv A outer st H E) (fun c d _ H' => E c d H') := Mz.takes_of rfl rfl rfl rfl
  exact (is_cons (is_if (it_cmpM (opm_or (fun _ y st => isCl 11 st y) (opm_in (c := 11) T.mt_Gameu_containsu.at_ T.mt_Gameu_containsu.fn (ok_Gameu_containsu T) (hr.mono (by decide)) T.b_Gameu_containsu true) (opm_std op_notIn_seq s_in)) (ie_var 1) (ie_var 0) (by rfl)) (is_one (is_ret ie_non)) is_nil)
    (is_cons (is_asg 2 nd (ie_meth (c := 11) (ie_var 0) T.C_11.cl T.mt_Game_rank (ok_Game_rank T) ar_Game_rank tk (hr.mono (by decide)) T.b_Game_rank (ia_cons (ie_var 1) ia_nil)))
    (is_cons (is_if (PW.pt (iw_or (it_not (it_val (ie_isTy (ie_var 2) rfl T.z_isinstance rfl T.z_int (by decide +kernel)))) (iw_or (it_val (ie_isTy (ie_var 2) rfl T.z_isinstance rfl T.z_bool (by decide +kernel))) (iw_or1 (it_cmp op_lt s_lt (ie_var 2) ie_int (nomark _)))))) (is_one (is_ret ie_non)) is_nil)
    (is_one (is_ret (ie_var 2))))))
theorem ar_law_rank : Ar m_law_rank 2 := ar_fn
theorem sc_law_state : FnScope N_law_state ["_law_state_here"] (defScope s_law_state) := ⟨rfl, rfl, rfl, by decide +kernel, rfl, by decide +kernel, by decide +kernel⟩
theorem ok_law_state (T : Tt P K mg cl base) : FnOk P w K mg base (CXm K P w) 1 T.f_law_state T.fd_law_state ["_law_state_here"] (spM ⟨K, cl⟩ 1 m_law_state) := by
  refine fun_ok (md := .tr) (mb := b_law_state) T.F_law_state sc_law_state rfl rfl (fun cdv A outer st H E hr => ?_)
  have nd := sc_law_state.nd
  have tk : Mz.Takes (cxOf (CXm K P w) P w K mg base N_law_state "_law_state" (defScope s_law_state) T.f_law_state cdv A outer st H E) (fun c d _ H' => E c d H') := Mz.takes_of rfl rfl rfl rfl
  exact (is_one (is_ret (ie_tup (ia_cons (ie_callTy call_tuple_of s_tuple rfl T.z_tuple (by decide +kernel) (ia_cons (ie_ix ix_seq s_ix (ie_var 0) ie_int (fun _ _ => rfl)) ia_nil)) (ia_cons (ie_callTy call_tuple_of s_tuple rfl T.z_tuple (by decide +kernel) (ia_cons (ie_ix ix_seq s_ix (ie_var 0) ie_int (fun _ _ => rfl)) ia_nil)) ia_nil)))))
theorem ar_law_state : Ar m_law_state 1 := ar_fn
theorem sc_law_next_ranks : FnScope N_law_next_ranks ["_law_told", "_law_rows"] (defScope s_law_next_ranks) := ⟨rfl, rfl, rfl, by decide +kernel, rfl, by decide +kernel, by decide +kernel⟩
theorem ok_law_next_ranks (T : Tt P K mg cl base) : FnOk P w K mg base (CXm K P w) 4 T.f_law_next_ranks T.fd_law_next_ranks ["_law_told", "_law_rows"] (spM ⟨K, cl⟩ 2 m_law_next_ranks) := by
  refine fun_ok (md := .tr) (mb := b_law_next_ranks) T.F_law_next_ranks sc_law_next_ranks rfl rfl (fun cdv A outer st H E hr => ?_)
  have nd := sc_law_next_ranks.nd
  have tk : Mz.Takes (cxOf (CXm K P w) P w K mg base N_law_next_ranks "_law_next_ranks" (defScope s_law_next_ranks) T.f_law_next_ranks cdv A outer st H E) (fun c d _ H' => E c d H') := Mz.takes_of rfl rfl rfl rfl
  exact (is_cons (is_asg 2 nd (ie_lstM ia_nil))
    (is_cons (is_for (passes_of rfl) rfl (ii_seq (ie_var 1)) (pg_name (i := 3) nd rfl (by first | exact Or.inl rfl | exact Or.inr rfl)) go_nm (is_one (is_if (it_cmp op_notAll s_isnot (ie_ix ix_seq s_ix (ie_var 3) ie_int (fun _ _ => rfl)) ie_non (nomark _)) (is_one (is_expr (ie_lm lm_append PySem.F.slot_list_append PySem.F.type_list_append mt_append (ie_var 2) (ia_cons (ie_call (ok_law_rank T) ar_law_rank tk (hr.mono (by decide)) rfl T.g_law_rank T.F_law_rank.kp T.b_law_rank (ia_cons (ie_var 0) (ia_cons (ie_call (ok_law_state T) ar_law_state tk (hr.mono (by decide)) rfl T.g_law_state T.F_law_state.kp T.b_law_state (ia_cons (ie_ix ix_seq s_ix (ie_var 3) ie_int (fun _ _ => rfl)) ia_nil)) ia_nil))) ia_nil)))) is_nil)))
    (is_one (is_ret (ie_var 2)))))
theorem ar_law_next_ranks : Ar m_law_next_ranks 2 := ar_fn
theorem sc_law_one_less : FnScope N_law_one_less ["_law_ranks", "_law_rank_here"] (defScope s_law_one_less) := ⟨rfl, rfl, rfl, by decide +kernel, rfl, by decide +kernel, by decide +kernel⟩
theorem ok_law_one_less (T : Tt P K mg cl base) : FnOk P w K mg base (CXm K P w) 1 T.f_law_one_less T.fd_law_one_less ["_law_ranks", "_law_rank_here"] (spM ⟨K, cl⟩ 2 m_law_one_less) := by
  refine fun_ok (md := .tr) (mb := b_law_one_less) T.F_law_one_less sc_law_one_less rfl rfl (fun cdv A outer st H E hr => ?_)
  have nd := sc_law_one_less.nd
  have tk : Mz.Takes (cxOf (CXm K P w) P w K mg base N_law_one_less "_law_one_less" (defScope s_law_one_less) T.f_law_one_less cdv A outer st H E) (fun c d _ H' => E c d H') := Mz.takes_of rfl rfl rfl rfl
  exact (is_one (is_ret (ie_or (ie_cmp (op_eqAll hr.units) s_eq (ie_var 1) ie_int (nomark _)) (ie_one (ie_cmp op_in_seq s_in (ie_op op_sub s_sub (ie_var 1) ie_int) (ie_var 0) (by rfl))))))
theorem ar_law_one_less : Ar m_law_one_less 2 := ar_fn
theorem sc_law_same : FnScope N_law_same ["_law_told", "_law_due"] (defScope s_law_same) := ⟨rfl, rfl, rfl, by decide +kernel, rfl, by decide +kernel, by decide +kernel⟩
theorem arS_law_same : ∀ n, Ar (r_law_same n) 2
  | 0 => fun _ _ _ => rfl
  | _ + 1 => ar_fn
theorem okS_law_same (T : Tt P K mg cl base) : ∀ n, FnOk P w K mg base (CXm K P w) (n + 1) T.f_law_same T.fd_law_same ["_law_told", "_law_due"] (spM ⟨K, cl⟩ 2 (r_law_same n))
  | 0 => ⟨fun _ _ _ _ ⟨_, _, _, _, _, _, _, p⟩ => p.elim, fun _ _ _ _ _ _ _ _ _ _ _ _ _ ⟨_, _, _, _, _, _, _, p⟩ => p.elim⟩
  | j + 1 => by
    have ih := okS_law_same T j
    have arS := arS_law_same j
    have e : j + 1 + 1 = (j + 1) + 1 := by omega
    rw [e]
    refine fun_ok (md := .tr) (mb := b_law_same (r_law_same j)) T.F_law_same sc_law_same rfl rfl (fun cdv A outer st H E hr => ?_)
    have nd := sc_law_same.nd
    have tk : Mz.Takes (cxOf (CXm K P w) P w K mg base N_law_same "_law_same" (defScope s_law_same) T.f_law_same cdv A outer st H E) (fun c d _ H' => E c d H') := Mz.takes_of rfl rfl rfl rfl
    exact (is_cons (is_if (it_cmp op_isAll s_is (ie_var 1) ie_non (nomark _)) (is_one (is_ret (ie_cmp op_isAll s_is (ie_var 0) ie_non (nomark _)))) is_nil)
    (is_cons (is_if (it_cmp op_isAll s_is (ie_var 1) ie_bl (nomark _)) (is_one (is_ret (ie_cmp op_isAll s_is (ie_var 0) ie_bl (nomark _)))) is_nil)
    (is_cons (is_if (it_cmp op_isAll s_is (ie_var 1) ie_bl (nomark _)) (is_one (is_ret (ie_cmp op_isAll s_is (ie_var 0) ie_bl (nomark _)))) is_nil)
    (is_cons (is_if (it_val (ie_isTy (ie_var 1) rfl T.z_isinstance rfl T.z_int (by decide +kernel))) (is_one (is_ret (ie_and (ie_isTy (ie_var 0) rfl T.z_isinstance rfl T.z_int (by decide +kernel)) (ie_and (ie_not (ie_isTy (ie_var 0) rfl T.z_isinstance rfl T.z_bool (by decide +kernel))) (ie_one (ie_cmp (op_eqAll hr.units) s_eq (ie_var 0) (ie_var 1) (nomark _))))))) is_nil)
    (is_cons (is_if (it_val (ie_isTy (ie_var 1) rfl T.z_isinstance rfl T.z_str (by decide +kernel))) (is_one (is_ret (ie_and (ie_isTy (ie_var 0) rfl T.z_isinstance rfl T.z_str (by decide +kernel)) (ie_one (ie_cmp (op_eqAll hr.units) s_eq (ie_var 0) (ie_var 1) (nomark _)))))) is_nil)
    (is_cons (is_if (PW.pt (iw_and (it_val (ie_isTy (ie_var 1) rfl T.z_isinstance rfl T.z_tuple (by decide +kernel))) (iw_and1 (it_not (it_val (ie_isTy (ie_var 0) rfl T.z_isinstance rfl T.z_tuple (by decide +kernel))))))) (is_one (is_ret ie_bl)) is_nil)
    (is_cons (is_if (PW.pt (iw_and (it_val (ie_isTy (ie_var 1) rfl T.z_isinstance rfl T.z_list (by decide +kernel))) (iw_and1 (it_not (it_val (ie_isTy (ie_var 0) rfl T.z_isinstance rfl T.z_list (by decide +kernel))))))) (is_one (is_ret ie_bl)) is_nil)
    (is_cons (is_if (it_cmp (op_neAll hr.units) s_ne (ie_callB c_len s_len rfl T.z_len (by decide +kernel) (ia_cons (ie_var 0) ia_nil)) (ie_callB c_len s_len rfl T.z_len (by decide +kernel) (ia_cons (ie_var 1) ia_nil)) (nomark _)) (is_one (is_ret ie_bl)) is_nil)
    (is_cons (is_for (passes_of rfl) rfl (ii_range1 rfl T.z_range (ia_cons (ie_callB c_len s_len rfl T.z_len (by decide +kernel) (ia_cons (ie_var 1) ia_nil)) ia_nil)) (pg_name (i := 2) nd rfl (by first | exact Or.inl rfl | exact Or.inr rfl)) go_nm (is_one (is_if (it_not (it_val (ie_call ih arS tk hr rfl T.g_law_same T.F_law_same.kp T.b_law_same (ia_cons (ie_ix ix_seq s_ix (ie_var 0) (ie_var 2) (fun _ _ => rfl)) (ia_cons (ie_ix ix_seq s_ix (ie_var 1) (ie_var 2) (fun _ _ => rfl)) ia_nil))))) (is_one (is_ret ie_bl)) is_nil)))
    (is_one (is_ret ie_bl)))))))))))
theorem ok_law_same (T : Tt P K mg cl base) : FnOk P w K mg base (CXm K P w) 13 T.f_law_same T.fd_law_same ["_law_told", "_law_due"] (spM ⟨K, cl⟩ 2 m_law_same) := okS_law_same T 12
theorem ar_law_same : Ar m_law_same 2 := arS_law_same 12
theorem sc_law_ahead : FnScope N_law_ahead ["_law_one", "_law_two"] (defScope s_law_ahead) := ⟨rfl, rfl, rfl, by decide +kernel, rfl, by decide +kernel, by decide +kernel⟩
theorem ok_law_ahead (T : Tt P K mg cl base) : FnOk P w K mg base (CXm K P w) 1 T.f_law_ahead T.fd_law_ahead ["_law_one", "_law_two"] (spM ⟨K, cl⟩ 2 m_law_ahead) := by
  refine fun_ok (md := .tr) (mb := b_law_ahead) T.F_law_ahead sc_law_ahead rfl rfl (fun cdv A outer st H E hr => ?_)
  have nd := sc_law_ahead.nd
  have tk : Mz.Takes (cxOf (CXm K P w) P w K mg base N_law_ahead "_law_ahead" (defScope s_law_ahead) T.f_law_ahead cdv A outer st H E) (fun c d _ H' => E c d H') := Mz.takes_of rfl rfl rfl rfl
  exact (is_cons (is_for (passes_of rfl) rfl (ii_range1 rfl T.z_range (ia_cons (ie_callB c_len s_len rfl T.z_len (by decide +kernel) (ia_cons (ie_var 0) ia_nil)) ia_nil)) (pg_name (i := 2) nd rfl (by first | exact Or.inl rfl | exact Or.inr rfl)) go_nm (is_one (is_if (it_cmp (op_neAll hr.units) s_ne (ie_ix ix_seq s_ix (ie_var 0) (ie_var 2) (fun _ _ => rfl)) (ie_ix ix_seq s_ix (ie_var 1) (ie_var 2) (fun _ _ => rfl)) (nomark _)) (is_one (is_ret (ie_cmp op_lt s_lt (ie_ix ix_seq s_ix (ie_var 0) (ie_var 2) (fun _ _ => rfl)) (ie_ix ix_seq s_ix (ie_var 1) (ie_var 2) (fun _ _ => rfl)) (nomark _)))) is_nil)))
    (is_one (is_ret ie_bl)))
theorem ar_law_ahead : Ar m_law_ahead 2 := ar_fn
theorem sc_law_pairs : FnScope N_law_pairs ["_law_cars"] (defScope s_law_pairs) := ⟨rfl, rfl, rfl, by decide +kernel, rfl, by decide +kernel, by decide +kernel⟩
theorem ok_law_pairs (T : Tt P K mg cl base) : FnOk P w K mg base (CXm K P w) 2 T.f_law_pairs T.fd_law_pairs ["_law_cars"] (spM ⟨K, cl⟩ 1 m_law_pairs) := by
  refine fun_ok (md := .tr) (mb := b_law_pairs) T.F_law_pairs sc_law_pairs rfl rfl (fun cdv A outer st H E hr => ?_)
  have nd := sc_law_pairs.nd
  have tk : Mz.Takes (cxOf (CXm K P w) P w K mg base N_law_pairs "_law_pairs" (defScope s_law_pairs) T.f_law_pairs cdv A outer st H E) (fun c d _ H' => E c d H') := Mz.takes_of rfl rfl rfl rfl
  exact (is_cons (is_asg 1 nd (ie_lstM ia_nil))
    (is_cons (is_for (passes_of rfl) rfl (ii_seq (ie_var 0)) (pg_name (i := 2) nd rfl (by first | exact Or.inl rfl | exact Or.inr rfl)) go_nm (is_cons (is_asg 3 nd ie_int)
    (is_cons (is_while (passes_of rfl) (PW.pt (iw_and (it_cmp op_lt s_lt (ie_var 3) (ie_callB c_len s_len rfl T.z_len (by decide +kernel) (ia_cons (ie_var 1) ia_nil)) (nomark _)) (iw_and1 (it_not (it_val (ie_call (ok_law_ahead T) ar_law_ahead tk (hr.mono (by decide)) rfl T.g_law_ahead T.F_law_ahead.kp T.b_law_ahead (ia_cons (ie_tup (ia_cons (ie_ix ix_seq s_ix (ie_var 2) ie_int (fun _ _ => rfl)) (ia_cons (ie_ix ix_seq s_ix (ie_var 2) ie_int (fun _ _ => rfl)) ia_nil))) (ia_cons (ie_ix ix_seq s_ix (ie_var 1) (ie_var 3) (fun _ _ => rfl)) ia_nil)))))))) (is_one (is_asg 3 nd (ie_op op_addAll s_add (ie_var 3) ie_int))))
    (is_one (is_expr (ie_lm lm_insert PySem.F.slot_list_insert PySem.F.type_list_insert mt_insert (ie_var 1) (ia_cons (ie_var 3) (ia_cons (ie_tup (ia_cons (ie_ix ix_seq s_ix (ie_var 2) ie_int (fun _ _ => rfl)) (ia_cons (ie_ix ix_seq s_ix (ie_var 2) ie_int (fun _ _ => rfl)) ia_nil))) ia_nil))))))))
    (is_one (is_ret (ie_var 1)))))
theorem ar_law_pairs : Ar m_law_pairs 1 := ar_fn
theorem sc_law_answered : FnScope N_law_answered ["_law_pairs_here", "_law_answer"] (defScope s_law_answered) := ⟨rfl, rfl, rfl, by decide +kernel, rfl, by decide +kernel, by decide +kernel⟩
theorem ok_law_answered (T : Tt P K mg cl base) : FnOk P w K mg base (CXm K P w) 3 T.f_law_answered T.fd_law_answered ["_law_pairs_here", "_law_answer"] (spM ⟨K, cl⟩ 2 m_law_answered) := by
  refine fun_ok (md := .tr) (mb := b_law_answered) T.F_law_answered sc_law_answered rfl rfl (fun cdv A outer st H E hr => ?_)
  have nd := sc_law_answered.nd
  have tk : Mz.Takes (cxOf (CXm K P w) P w K mg base N_law_answered "_law_answered" (defScope s_law_answered) T.f_law_answered cdv A outer st H E) (fun c d _ H' => E c d H') := Mz.takes_of rfl rfl rfl rfl
  exact (is_cons (is_asg 2 nd (ie_callTy call_list_of s_listM rfl T.z_list (by decide +kernel) (ia_cons (ie_var 0) ia_nil)))
    (is_cons (is_asg 3 nd (ie_lstM ia_nil))
    (is_cons (is_for (passes_of rfl) rfl (ii_seq (ie_var 1)) (pg_name (i := 4) nd rfl (by first | exact Or.inl rfl | exact Or.inr rfl)) go_nm (is_cons (is_expr (ie_rem (u65 hr) (ie_var 2) (ia_cons (ie_var 4) ia_nil)))
    (is_one (is_if (it_cmp op_gt s_gt (ie_ix ix_seq s_ix (ie_var 4) ie_int (fun _ _ => rfl)) ie_int (nomark _)) (is_one (is_expr (ie_lm lm_append PySem.F.slot_list_append PySem.F.type_list_append mt_append (ie_var 3) (ia_cons (ie_tup (ia_cons ie_int (ia_cons ie_int (ia_cons (ie_op op_sub s_sub (ie_ix ix_seq s_ix (ie_var 4) ie_int (fun _ _ => rfl)) ie_int) (ia_cons (ie_op op_sub s_sub (ie_ix ix_seq s_ix (ie_var 4) ie_int (fun _ _ => rfl)) ie_int) ia_nil))))) ia_nil)))) is_nil))))
    (is_cons (is_for (passes_of rfl) rfl (ii_seq (ie_var 2)) (pg_name (i := 4) nd rfl (by first | exact Or.inl rfl | exact Or.inr rfl)) go_nm (is_one (is_expr (ie_lm lm_append PySem.F.slot_list_append PySem.F.type_list_append mt_append (ie_var 3) (ia_cons (ie_tup (ia_cons ie_int (ia_cons ie_int (ia_cons (ie_op op_sub s_sub (ie_ix ix_seq s_ix (ie_var 4) ie_int (fun _ _ => rfl)) ie_int) (ia_cons (ie_ix ix_seq s_ix (ie_var 4) ie_int (fun _ _ => rfl)) ia_nil))))) ia_nil)))))
    (is_cons (is_for (passes_of rfl) rfl (ii_seq (ie_var 3)) (pg_name (i := 5) nd rfl (by first | exact Or.inl rfl | exact Or.inr rfl)) go_nm (is_one (is_if (it_cmp op_gt s_gt (ie_ix ix_seq s_ix (ie_var 5) ie_int (fun _ _ => rfl)) (ie_ix ix_seq s_ix (ie_var 5) ie_int (fun _ _ => rfl)) (nomark _)) (is_one (is_ret ie_non)) is_nil)))
    (is_one (is_ret (ie_call (ok_law_pairs T) ar_law_pairs tk (hr.mono (by decide)) rfl T.g_law_pairs T.F_law_pairs.kp T.b_law_pairs (ia_cons (ie_var 3) ia_nil)))))))))
theorem ar_law_answered : Ar m_law_answered 2 := ar_fn
theorem sc_law_answers : FnScope N_law_answers ["_law_pairs_here", "_law_width"] (defScope s_law_answers) := ⟨rfl, rfl, rfl, by decide +kernel, rfl, by decide +kernel, by decide +kernel⟩
theorem ok_law_answers (T : Tt P K mg cl base) : FnOk P w K mg base (CXm K P w) 1 T.f_law_answers T.fd_law_answers ["_law_pairs_here", "_law_width"] (spM ⟨K, cl⟩ 2 m_law_answers) := by
  refine fun_ok (md := .tr) (mb := b_law_answers) T.F_law_answers sc_law_answers rfl rfl (fun cdv A outer st H E hr => ?_)
  have nd := sc_law_answers.nd
  have tk : Mz.Takes (cxOf (CXm K P w) P w K mg base N_law_answers "_law_answers" (defScope s_law_answers) T.f_law_answers cdv A outer st H E) (fun c d _ H' => E c d H') := Mz.takes_of rfl rfl rfl rfl
  exact (is_cons (is_asg 2 nd (ie_var 1))
    (is_cons (is_if (it_cmp op_lt s_lt (ie_callB c_len s_len rfl T.z_len (by decide +kernel) (ia_cons (ie_var 0) ia_nil)) (ie_var 1) (nomark _)) (is_one (is_asg 2 nd (ie_callB c_len s_len rfl T.z_len (by decide +kernel) (ia_cons (ie_var 0) ia_nil)))) is_nil)
    (is_cons (is_asg 3 nd (ie_lst (ia_cons (ie_lst (ia_cons ie_int (ia_cons (ie_lst ia_nil) ia_nil))) ia_nil)))
    (is_cons (is_for (passes_of rfl) rfl (ii_range1 rfl T.z_range (ia_cons (ie_var 2) ia_nil)) (pg_name (i := 4) nd rfl (by first | exact Or.inl rfl | exact Or.inr rfl)) go_nm (is_cons (is_asg 5 nd (ie_lstM ia_nil))
    (is_cons (is_for (passes_of rfl) rfl (ii_seq (ie_callTy call_list_of s_list rfl T.z_list (by decide +kernel) (ia_cons (ie_var 3) ia_nil))) (pg_name (i := 6) nd rfl (by first | exact Or.inl rfl | exact Or.inr rfl)) go_nm (is_one (is_for (passes_of rfl) rfl (ii_range2 rfl T.z_range (ia_cons (ie_ix ix_seq s_ix (ie_var 6) ie_int (fun _ _ => rfl)) (ia_cons (ie_callB c_len s_len rfl T.z_len (by decide +kernel) (ia_cons (ie_var 0) ia_nil)) ia_nil))) (pg_name (i := 7) nd rfl (by first | exact Or.inl rfl | exact Or.inr rfl)) go_nm (is_one (is_expr (ie_lm lm_append PySem.F.slot_list_append PySem.F.type_list_append mt_append (ie_var 5) (ia_cons (ie_lst (ia_cons (ie_op op_addAll s_add (ie_var 7) ie_int) (ia_cons (ie_op op_addAll s_add (ie_ix ix_seq s_ix (ie_var 6) ie_int (fun _ _ => rfl)) (ie_lst (ia_cons (ie_ix ix_seq s_ix (ie_var 0) (ie_var 7) (fun _ _ => rfl)) ia_nil))) ia_nil))) ia_nil)))))))
    (is_one (is_asg 3 nd (ie_var 5))))))
    (is_cons (is_asg 8 nd (ie_lstM ia_nil))
    (is_cons (is_for (passes_of rfl) rfl (ii_seq (ie_var 3)) (pg_name (i := 6) nd rfl (by first | exact Or.inl rfl | exact Or.inr rfl)) go_nm (is_one (is_if (it_cmp (op_notInD (u65 hr)) s_notInD (ie_ix ix_seq s_ix (ie_var 6) ie_int (fun _ _ => rfl)) (ie_var 8) (by rfl)) (is_one (is_expr (ie_lm lm_append PySem.F.slot_list_append PySem.F.type_list_append mt_append (ie_var 8) (ia_cons (ie_ix ix_seq s_ix (ie_var 6) ie_int (fun _ _ => rfl)) ia_nil)))) is_nil)))
    (is_one (is_ret (ie_var 8)))))))))
theorem ar_law_answers : Ar m_law_answers 2 := ar_fn
theorem sc_law_coming : FnScope N_law_coming ["_law_parts", "_law_letter"] (defScope s_law_coming) := ⟨rfl, rfl, rfl, by decide +kernel, rfl, by decide +kernel, by decide +kernel⟩
theorem ok_law_coming (T : Tt P K mg cl base) : FnOk P w K mg base (CXm K P w) 1 T.f_law_coming T.fd_law_coming ["_law_parts", "_law_letter"] (spM ⟨K, cl⟩ 2 m_law_coming) := by
  refine fun_ok (md := .tr) (mb := b_law_coming) T.F_law_coming sc_law_coming rfl rfl (fun cdv A outer st H E hr => ?_)
  have nd := sc_law_coming.nd
  have tk : Mz.Takes (cxOf (CXm K P w) P w K mg base N_law_coming "_law_coming" (defScope s_law_coming) T.f_law_coming cdv A outer st H E) (fun c d _ H' => E c d H') := Mz.takes_of rfl rfl rfl rfl
  exact (is_cons (is_asg 2 nd (ie_lstM ia_nil))
    (is_cons (is_if (it_cmp op_gt s_gt (ie_var 1) ie_int (nomark _)) (is_one (is_for (passes_of rfl) rfl (ii_seq (ie_ix ix_seq s_ix (ie_ix ix_seq s_ix (ie_ix ix_seq s_ix (ie_var 0) ie_int (fun _ _ => rfl)) (ie_op op_sub s_sub (ie_var 1) ie_int) (fun _ _ => rfl)) ie_int (fun _ _ => rfl))) (pg_name (i := 3) nd rfl (by first | exact Or.inl rfl | exact Or.inr rfl)) go_nm (is_one (is_for (passes_of rfl) rfl (ii_seq (ie_ix ix_seq s_ix (ie_var 0) ie_int (fun _ _ => rfl))) (pg_name (i := 4) nd rfl (by first | exact Or.inl rfl | exact Or.inr rfl)) go_nm (is_one (is_if (it_cmp (op_eqAll hr.units) s_eq (ie_ix ix_seq s_ix (ie_var 4) ie_int (fun _ _ => rfl)) (ie_var 3) (nomark _)) (is_one (is_expr (ie_lm lm_append PySem.F.slot_list_append PySem.F.type_list_append mt_append (ie_var 2) (ia_cons (ie_tup (ia_cons (ie_ix ix_seq s_ix (ie_var 4) ie_int (fun _ _ => rfl)) (ia_cons (ie_ix ix_seq s_ix (ie_var 4) ie_int (fun _ _ => rfl)) (ia_cons (ie_ix ix_seq s_ix (ie_var 4) ie_int (fun _ _ => rfl)) (ia_cons (ie_ix ix_seq s_ix (ie_var 4) ie_int (fun _ _ => rfl)) ia_nil))))) ia_nil)))) is_nil)))))) is_nil)
    (is_one (is_ret (ie_var 2)))))
theorem ar_law_coming : Ar m_law_coming 2 := ar_fn
theorem sc_law_joined : FnScope N_law_joined ["_law_parts", "_law_pairs_here", "_law_letter"] (defScope s_law_joined) := ⟨rfl, rfl, rfl, by decide +kernel, rfl, by decide +kernel, by decide +kernel⟩
theorem ok_law_joined (T : Tt P K mg cl base) : FnOk P w K mg base (CXm K P w) 3 T.f_law_joined T.fd_law_joined ["_law_parts", "_law_pairs_here", "_law_letter"] (spM ⟨K, cl⟩ 3 m_law_joined) := by
  refine fun_ok (md := .tr) (mb := b_law_joined) T.F_law_joined sc_law_joined rfl rfl (fun cdv A outer st H E hr => ?_)
  have nd := sc_law_joined.nd
  have tk : Mz.Takes (cxOf (CXm K P w) P w K mg base N_law_joined "_law_joined" (defScope s_law_joined) T.f_law_joined cdv A outer st H E) (fun c d _ H' => E c d H') := Mz.takes_of rfl rfl rfl rfl
  exact (is_one (is_ret (ie_call (ok_law_pairs T) ar_law_pairs tk (hr.mono (by decide)) rfl T.g_law_pairs T.F_law_pairs.kp T.b_law_pairs (ia_cons (ie_op op_addAll s_add (ie_lc (own := [("_law_pair", 3)]) rfl nd (ii_seq (ie_var 1)) (blkOk_by (own := [("_law_pair", 3)]) (N := N_law_joined) (sc := defScope s_law_joined) (by decide +kernel)) (fun _ _ _ _ _ => (pg_name (i := 3) nd rfl (by first | exact Or.inl rfl | exact Or.inr rfl))) go_nm (fun _ _ _ _ _ => its_nil) (fun _ _ _ _ _ => (ie_tup (ia_cons ie_int (ia_cons ie_int (ia_cons (ie_ix ix_seq s_ix (ie_var 3) ie_int (fun _ _ => rfl)) (ia_cons (ie_ix ix_seq s_ix (ie_var 3) ie_int (fun _ _ => rfl)) ia_nil)))))) (by decide)) (ie_call (ok_law_coming T) ar_law_coming tk (hr.mono (by decide)) rfl T.g_law_coming T.F_law_coming.kp T.b_law_coming (ia_cons (ie_var 0) (ia_cons (ie_var 2) ia_nil)))) ia_nil))))
theorem ar_law_joined : Ar m_law_joined 3 := ar_fn
theorem sc_law_after : FnScope N_law_after ["_law_table", "_law_width"] (defScope s_law_after) := ⟨rfl, rfl, rfl, by decide +kernel, rfl, by decide +kernel, by decide +kernel⟩
theorem ok_law_after (T : Tt P K mg cl base) : FnOk P w K mg base (CXm K P w) 1 T.f_law_after T.fd_law_after ["_law_table", "_law_width"] (spM ⟨K, cl⟩ 2 m_law_after) := by
  refine fun_ok (md := .tr) (mb := b_law_after) T.F_law_after sc_law_after rfl rfl (fun cdv A outer st H E hr => ?_)
  have nd := sc_law_after.nd
  have tk : Mz.Takes (cxOf (CXm K P w) P w K mg base N_law_after "_law_after" (defScope s_law_after) T.f_law_after cdv A outer st H E) (fun c d _ H' => E c d H') := Mz.takes_of rfl rfl rfl rfl
  exact (is_cons (is_asg 2 nd (ie_lstM ia_nil))
    (is_cons (is_for (passes_of rfl) rfl (ii_range1 rfl T.z_range (ia_cons (ie_callB c_len s_len rfl T.z_len (by decide +kernel) (ia_cons (ie_var 0) ia_nil)) ia_nil)) (pg_name (i := 3) nd rfl (by first | exact Or.inl rfl | exact Or.inr rfl)) go_nm (is_cons (is_asg 4 nd (ie_op op_mod s_mod (ie_callTy call_int1 s_int rfl T.z_int (by decide +kernel) (ia_cons (ie_op op_mul s_mul ie_int (ie_var 3)) ia_nil)) (ie_callB c_len s_len rfl T.z_len (by decide +kernel) (ia_cons (ie_var 0) ia_nil))))
    (is_one (is_if (it_cmp op_gt s_gt (ie_ix ix_seq s_ix (ie_var 0) (ie_var 4) (fun _ _ => rfl)) (ie_op op_sub s_sub (ie_ix ix_seq s_ix (ie_var 0) (ie_op op_addAll s_add (ie_var 4) ie_int) (fun _ _ => rfl)) (ie_var 1)) (nomark _)) (is_one (is_expr (ie_lm lm_append PySem.F.slot_list_append PySem.F.type_list_append mt_append (ie_var 2) (ia_cons (ie_ix ix_seq s_ix (ie_var 0) (ie_var 4) (fun _ _ => rfl)) ia_nil)))) (is_one (is_expr (ie_lm lm_append PySem.F.slot_list_append PySem.F.type_list_append mt_append (ie_var 2) (ia_cons (ie_op op_sub s_sub (ie_ix ix_seq s_ix (ie_var 0) (ie_op op_addAll s_add (ie_var 4) ie_int) (fun _ _ => rfl)) (ie_var 1)) ia_nil))))))))
    (is_one (is_ret (ie_var 2)))))
theorem ar_law_after : Ar m_law_after 2 := ar_fn
theorem sc_law_ones : FnScope N_law_ones ["_law_mask"] (defScope s_law_ones) := ⟨rfl, rfl, rfl, by decide +kernel, rfl, by decide +kernel, by decide +kernel⟩
theorem ok_law_ones (T : Tt P K mg cl base) : FnOk P w K mg base (CXm K P w) 1 T.f_law_ones T.fd_law_ones ["_law_mask"] (spM ⟨K, cl⟩ 1 m_law_ones) := by
  refine fun_ok (md := .tr) (mb := b_law_ones) T.F_law_ones sc_law_ones rfl rfl (fun cdv A outer st H E hr => ?_)
  have nd := sc_law_ones.nd
  have tk : Mz.Takes (cxOf (CXm K P w) P w K mg base N_law_ones "_law_ones" (defScope s_law_ones) T.f_law_ones cdv A outer st H E) (fun c d _ H' => E c d H') := Mz.takes_of rfl rfl rfl rfl
  exact (is_cons (is_asg 1 nd ie_int)
    (is_cons (is_for (passes_of rfl) rfl (ii_range1 rfl T.z_range (ia_cons ie_int ia_nil)) (pg_name (i := 2) nd rfl (by first | exact Or.inl rfl | exact Or.inr rfl)) go_nm (is_one (is_asg 1 nd (ie_op op_addAll s_add (ie_var 1) (ie_op op_mod s_mod (ie_callTy call_int1 s_int rfl T.z_int (by decide +kernel) (ia_cons (ie_op op_fdivW s_div (ie_var 0) (ie_ix ix_seq s_ix (ie_lst (ia_cons ie_int (ia_cons ie_int (ia_cons ie_int (ia_cons ie_int ia_nil))))) (ie_var 2) (fun _ _ => rfl))) ia_nil)) ie_int)))))
    (is_one (is_ret (ie_var 1)))))
theorem ar_law_ones : Ar m_law_ones 1 := ar_fn
theorem sc_law_over : FnScope N_law_over ["_law_table", "_law_width"] (defScope s_law_over) := ⟨rfl, rfl, rfl, by decide +kernel, rfl, by decide +kernel, by decide +kernel⟩
theorem ok_law_over (T : Tt P K mg cl base) : FnOk P w K mg base (CXm K P w) 2 T.f_law_over T.fd_law_over ["_law_table", "_law_width"] (spM ⟨K, cl⟩ 2 m_law_over) := by
  refine fun_ok (md := .tr) (mb := b_law_over) T.F_law_over sc_law_over rfl rfl (fun cdv A outer st H E hr => ?_)
  have nd := sc_law_over.nd
  have tk : Mz.Takes (cxOf (CXm K P w) P w K mg base N_law_over "_law_over" (defScope s_law_over) T.f_law_over cdv A outer st H E) (fun c d _ H' => E c d H') := Mz.takes_of rfl rfl rfl rfl
  exact (is_cons (is_for (passes_of rfl) rfl (ii_range1 rfl T.z_range (ia_cons (ie_callB c_len s_len rfl T.z_len (by decide +kernel) (ia_cons (ie_var 0) ia_nil)) ia_nil)) (pg_name (i := 2) nd rfl (by first | exact Or.inl rfl | exact Or.inr rfl)) go_nm (is_one (is_if (it_cmp op_gt s_gt (ie_ix ix_seq s_ix (ie_var 0) (ie_var 2) (fun _ _ => rfl)) (ie_op op_mul s_mul (ie_var 1) (ie_call (ok_law_ones T) ar_law_ones tk (hr.mono (by decide)) rfl T.g_law_ones T.F_law_ones.kp T.b_law_ones (ia_cons (ie_var 2) ia_nil))) (nomark _)) (is_one (is_ret (ie_var 2))) is_nil)))
    (is_one (is_ret ie_non)))
theorem ar_law_over : Ar m_law_over 2 := ar_fn
theorem sc_law_asks : FnScope N_law_asks ["_law_left", "_law_want", "_law_mask"] (defScope s_law_asks) := ⟨rfl, rfl, rfl, by decide +kernel, rfl, by decide +kernel, by decide +kernel⟩
theorem ok_law_asks (T : Tt P K mg cl base) : FnOk P w K mg base (CXm K P w) 2 T.f_law_asks T.fd_law_asks ["_law_left", "_law_want", "_law_mask"] (spM ⟨K, cl⟩ 3 m_law_asks) := by
  refine fun_ok (md := .tr) (mb := b_law_asks) T.F_law_asks sc_law_asks rfl rfl (fun cdv A outer st H E hr => ?_)
  have nd := sc_law_asks.nd
  have tk : Mz.Takes (cxOf (CXm K P w) P w K mg base N_law_asks "_law_asks" (defScope s_law_asks) T.f_law_asks cdv A outer st H E) (fun c d _ H' => E c d H') := Mz.takes_of rfl rfl rfl rfl
  exact (is_cons (is_asg 3 nd (ie_op op_addAll s_add (ie_op op_sub s_sub (ie_var 1) (ie_var 0)) (ie_call (ok_law_ones T) ar_law_ones tk (hr.mono (by decide)) rfl T.g_law_ones T.F_law_ones.kp T.b_law_ones (ia_cons (ie_op op_mod s_mod (ie_callTy call_int1 s_int rfl T.z_int (by decide +kernel) (ia_cons (ie_var 2) ia_nil)) (ie_ix ix_seq s_ix (ie_lst (ia_cons ie_int (ia_cons ie_int (ia_cons ie_int (ia_cons ie_int (ia_cons ie_int ia_nil)))))) (ie_var 0) (fun _ _ => rfl))) ia_nil))))
    (is_cons (is_if (it_cmp op_gt s_gt (ie_var 3) ie_int (nomark _)) (is_one (is_ret (ie_var 3))) is_nil)
    (is_one (is_ret ie_int))))
theorem ar_law_asks : Ar m_law_asks 3 := ar_fn
theorem sc_law_with : FnScope N_law_with ["_law_table", "_law_cars"] (defScope s_law_with) := ⟨rfl, rfl, rfl, by decide +kernel, rfl, by decide +kernel, by decide +kernel⟩
theorem ok_law_with (T : Tt P K mg cl base) : FnOk P w K mg base (CXm K P w) 3 T.f_law_with T.fd_law_with ["_law_table", "_law_cars"] (spM ⟨K, cl⟩ 2 m_law_with) := by
  refine fun_ok (md := .tr) (mb := b_law_with) T.F_law_with sc_law_with rfl rfl (fun cdv A outer st H E hr => ?_)
  have nd := sc_law_with.nd
  have tk : Mz.Takes (cxOf (CXm K P w) P w K mg base N_law_with "_law_with" (defScope s_law_with) T.f_law_with cdv A outer st H E) (fun c d _ H' => E c d H') := Mz.takes_of rfl rfl rfl rfl
  exact (is_cons (is_asg 2 nd (ie_lstM ia_nil))
    (is_cons (is_for (passes_of rfl) rfl (ii_range1 rfl T.z_range (ia_cons (ie_callB c_len s_len rfl T.z_len (by decide +kernel) (ia_cons (ie_var 0) ia_nil)) ia_nil)) (pg_name (i := 3) nd rfl (by first | exact Or.inl rfl | exact Or.inr rfl)) go_nm (is_cons (is_asg 4 nd (ie_ix ix_seq s_ix (ie_var 0) (ie_var 3) (fun _ _ => rfl)))
    (is_cons (is_for (passes_of rfl) rfl (ii_seq (ie_var 1)) (pg_name (i := 5) nd rfl (by first | exact Or.inl rfl | exact Or.inr rfl)) go_nm (is_one (is_asg 4 nd (ie_op op_addAll s_add (ie_var 4) (ie_call (ok_law_asks T) ar_law_asks tk (hr.mono (by decide)) rfl T.g_law_asks T.F_law_asks.kp T.b_law_asks (ia_cons (ie_ix ix_seq s_ix (ie_var 5) ie_int (fun _ _ => rfl)) (ia_cons (ie_ix ix_seq s_ix (ie_var 5) ie_int (fun _ _ => rfl)) (ia_cons (ie_var 3) ia_nil))))))))
    (is_one (is_expr (ie_lm lm_append PySem.F.slot_list_append PySem.F.type_list_append mt_append (ie_var 2) (ia_cons (ie_var 4) ia_nil)))))))
    (is_one (is_ret (ie_var 2)))))
theorem ar_law_with : Ar m_law_with 2 := ar_fn
theorem sc_law_next : FnScope N_law_next ["_law_parts", "_law_table", "_law_letter"] (defScope s_law_next) := ⟨rfl, rfl, rfl, by decide +kernel, rfl, by decide +kernel, by decide +kernel⟩
theorem ok_law_next (T : Tt P K mg cl base) : FnOk P w K mg base (CXm K P w) 4 T.f_law_next T.fd_law_next ["_law_parts", "_law_table", "_law_letter"] (spM ⟨K, cl⟩ 3 m_law_next) := by
  refine fun_ok (md := .tr) (mb := b_law_next) T.F_law_next sc_law_next rfl rfl (fun cdv A outer st H E hr => ?_)
  have nd := sc_law_next.nd
  have tk : Mz.Takes (cxOf (CXm K P w) P w K mg base N_law_next "_law_next" (defScope s_law_next) T.f_law_next cdv A outer st H E) (fun c d _ H' => E c d H') := Mz.takes_of rfl rfl rfl rfl
  exact (is_cons (is_asg 3 nd (ie_call (ok_law_with T) ar_law_with tk (hr.mono (by decide)) rfl T.g_law_with T.F_law_with.kp T.b_law_with (ia_cons (ie_var 1) (ia_cons (ie_call (ok_law_coming T) ar_law_coming tk (hr.mono (by decide)) rfl T.g_law_coming T.F_law_coming.kp T.b_law_coming (ia_cons (ie_var 0) (ia_cons (ie_var 2) ia_nil))) ia_nil))))
    (is_cons (is_if (it_cmp op_notAll s_isnot (ie_call (ok_law_over T) ar_law_over tk (hr.mono (by decide)) rfl T.g_law_over T.F_law_over.kp T.b_law_over (ia_cons (ie_var 3) (ia_cons (ie_ix ix_seq s_ix (ie_var 0) ie_int (fun _ _ => rfl)) ia_nil))) ie_non (nomark _)) (is_one (is_ret ie_non)) is_nil)
    (is_one (is_ret (ie_call (ok_law_after T) ar_law_after tk (hr.mono (by decide)) rfl T.g_law_after T.F_law_after.kp T.b_law_after (ia_cons (ie_var 3) (ia_cons (ie_ix ix_seq s_ix (ie_var 0) ie_int (fun _ _ => rfl)) ia_nil)))))))
theorem ar_law_next : Ar m_law_next 3 := ar_fn
theorem sc_law_turn : FnScope N_law_turn ["_law_parts", "_law_state_here", "_law_letter"] (defScope s_law_turn) := ⟨rfl, rfl, rfl, by decide +kernel, rfl, by decide +kernel, by decide +kernel⟩
theorem ok_law_turn (T : Tt P K mg cl base) : FnOk P w K mg base (CXm K P w) 5 T.f_law_turn T.fd_law_turn ["_law_parts", "_law_state_here", "_law_letter"] (spM ⟨K, cl⟩ 3 m_law_turn) := by
  refine fun_ok (md := .tr) (mb := b_law_turn) T.F_law_turn sc_law_turn rfl rfl (fun cdv A outer st H E hr => ?_)
  have nd := sc_law_turn.nd
  have tk : Mz.Takes (cxOf (CXm K P w) P w K mg base N_law_turn "_law_turn" (defScope s_law_turn) T.f_law_turn cdv A outer st H E) (fun c d _ H' => E c d H') := Mz.takes_of rfl rfl rfl rfl
  exact (is_cons (is_asg 3 nd (ie_call (ok_law_next T) ar_law_next tk (hr.mono (by decide)) rfl T.g_law_next T.F_law_next.kp T.b_law_next (ia_cons (ie_var 0) (ia_cons (ie_ix ix_seq s_ix (ie_var 1) ie_int (fun _ _ => rfl)) (ia_cons (ie_var 2) ia_nil)))))
    (is_cons (is_if (it_cmp op_isAll s_is (ie_var 3) ie_non (nomark _)) (is_one (is_ret ie_non)) is_nil)
    (is_cons (is_asg 4 nd (ie_call (ok_law_joined T) ar_law_joined tk (hr.mono (by decide)) rfl T.g_law_joined T.F_law_joined.kp T.b_law_joined (ia_cons (ie_var 0) (ia_cons (ie_ix ix_seq s_ix (ie_var 1) ie_int (fun _ _ => rfl)) (ia_cons (ie_var 2) ia_nil)))))
    (is_cons (is_asg 5 nd (ie_lstM ia_nil))
    (is_cons (is_for (passes_of rfl) rfl (ii_seq (ie_call (ok_law_answers T) ar_law_answers tk (hr.mono (by decide)) rfl T.g_law_answers T.F_law_answers.kp T.b_law_answers (ia_cons (ie_var 4) (ia_cons (ie_ix ix_seq s_ix (ie_var 0) ie_int (fun _ _ => rfl)) ia_nil)))) (pg_name (i := 6) nd rfl (by first | exact Or.inl rfl | exact Or.inr rfl)) go_nm (is_cons (is_asg 7 nd (ie_call (ok_law_answered T) ar_law_answered tk (hr.mono (by decide)) rfl T.g_law_answered T.F_law_answered.kp T.b_law_answered (ia_cons (ie_var 4) (ia_cons (ie_var 6) ia_nil))))
    (is_one (is_if (it_cmp op_isAll s_is (ie_var 7) ie_non (nomark _)) (is_one (is_expr (ie_lm lm_append PySem.F.slot_list_append PySem.F.type_list_append mt_append (ie_var 5) (ia_cons (ie_lst (ia_cons (ie_var 6) (ia_cons ie_non ia_nil))) ia_nil)))) (is_one (is_expr (ie_lm lm_append PySem.F.slot_list_append PySem.F.type_list_append mt_append (ie_var 5) (ia_cons (ie_lst (ia_cons (ie_var 6) (ia_cons (ie_lst (ia_cons (ie_var 7) (ia_cons (ie_var 3) ia_nil))) ia_nil))) ia_nil))))))))
    (is_one (is_ret (ie_var 5))))))))
theorem ar_law_turn : Ar m_law_turn 3 := ar_fn
theorem sc_law_judged : FnScope N_law_judged ["_law_told", "_law_parts", "_law_here"] (defScope s_law_judged) := ⟨rfl, rfl, rfl, by decide +kernel, rfl, by decide +kernel, by decide +kernel⟩
theorem ok_law_judged (T : Tt P K mg cl base) : FnOk P w K mg base (CXm K P w) 14 T.f_law_judged T.fd_law_judged ["_law_told", "_law_parts", "_law_here"] (spM ⟨K, cl⟩ 3 m_law_judged) := by
  refine fun_ok (md := .tr) (mb := b_law_judged) T.F_law_judged sc_law_judged rfl rfl (fun cdv A outer st H E hr => ?_)
  have nd := sc_law_judged.nd
  have tk : Mz.Takes (cxOf (CXm K P w) P w K mg base N_law_judged "_law_judged" (defScope s_law_judged) T.f_law_judged cdv A outer st H E) (fun c d _ H' => E c d H') := Mz.takes_of rfl rfl rfl rfl
  exact (is_cons (is_asg 3 nd (ie_call (ok_law_state T) ar_law_state tk (hr.mono (by decide)) rfl T.g_law_state T.F_law_state.kp T.b_law_state (ia_cons (ie_var 2) ia_nil)))
    (is_cons (is_asg 4 nd (ie_call (ok_law_rank T) ar_law_rank tk (hr.mono (by decide)) rfl T.g_law_rank T.F_law_rank.kp T.b_law_rank (ia_cons (ie_var 0) (ia_cons (ie_var 3) ia_nil))))
    (is_cons (is_if (it_cmp op_isAll s_is (ie_var 4) ie_non (nomark _)) (is_one (is_ret ie_non)) is_nil)
    (is_cons (is_asg 5 nd (ie_meth (c := 11) (ie_var 0) T.C_11.cl T.mt_Game_threat (ok_Game_threat T) ar_Game_threat tk (hr.mono (by decide)) T.b_Game_threat (ia_cons (ie_var 3) ia_nil)))
    (is_cons (is_asg 6 nd (ie_lst ia_nil))
    (is_cons (is_for (passes_of rfl) rfl (ii_range1 rfl T.z_range (ia_cons (ie_op op_addAll s_add (ie_callB c_len s_len rfl T.z_len (by decide +kernel) (ia_cons (ie_ix ix_seq s_ix (ie_var 1) ie_int (fun _ _ => rfl)) ia_nil)) ie_int) ia_nil)) (pg_name (i := 7) nd rfl (by first | exact Or.inl rfl | exact Or.inr rfl)) go_nm (is_cons (is_asg 8 nd (ie_call (ok_law_turn T) ar_law_turn tk (hr.mono (by decide)) rfl T.g_law_turn T.F_law_turn.kp T.b_law_turn (ia_cons (ie_var 1) (ia_cons (ie_var 2) (ia_cons (ie_var 7) ia_nil)))))
    (is_one (is_if (it_cmp op_notAll s_isnot (ie_var 8) ie_non (nomark _)) (is_cons (is_asg 9 nd (ie_call (ok_law_next_ranks T) ar_law_next_ranks tk (hr.mono (by decide)) rfl T.g_law_next_ranks T.F_law_next_ranks.kp T.b_law_next_ranks (ia_cons (ie_var 0) (ia_cons (ie_var 8) ia_nil))))
    (is_cons (is_if (PW.pt (iw_and (it_cmp (op_eqAll hr.units) s_eq (ie_var 4) ie_int (nomark _)) (iw_and1 (PW.pt (iw_or (it_cmp op_notAll s_isnot (ie_var 5) ie_non (nomark _)) (iw_or (it_cmp op_notIn_seq s_in ie_int (ie_var 9) (by rfl)) (iw_or1 (it_cmp op_in_seq s_in ie_non (ie_var 9) (by rfl))))))))) (is_one (is_ret ie_non)) is_nil)
    (is_cons (is_if (PW.pt (iw_and (it_cmp op_gt s_gt (ie_var 4) ie_int (nomark _)) (iw_and1 (it_val (ie_call (ok_law_falls T) ar_law_falls tk (hr.mono (by decide)) rfl T.g_law_falls T.F_law_falls.kp T.b_law_falls (ia_cons (ie_var 9) (ia_cons (ie_var 4) ia_nil))))))) (is_cons (is_if (PW.pt (iw_or (it_not (it_val (ie_call (ok_law_same T) ar_law_same tk (hr.mono (by decide)) rfl T.g_law_same T.F_law_same.kp T.b_law_same (ia_cons (ie_var 5) (ia_cons (ie_var 7) ia_nil))))) (iw_or1 (it_not (it_val (ie_call (ok_law_one_less T) ar_law_one_less tk (hr.mono (by decide)) rfl T.g_law_one_less T.F_law_one_less.kp T.b_law_one_less (ia_cons (ie_var 9) (ia_cons (ie_var 4) ia_nil)))))))) (is_one (is_ret ie_non)) is_nil)
    (is_one (is_ret (ie_lc (own := [("_law_row", 10)]) rfl nd (ii_seq (ie_var 8)) (blkOk_by (own := [("_law_row", 10)]) (N := N_law_judged) (sc := defScope s_law_judged) (by decide +kernel)) (fun _ _ _ _ _ => (pg_name (i := 10) nd rfl (by first | exact Or.inl rfl | exact Or.inr rfl))) go_nm (fun _ _ _ _ _ => (its_one (it_cmp op_notAll s_isnot (ie_ix ix_seq s_ix (ie_var 10) ie_int (fun _ _ => rfl)) ie_non (nomark _)))) (fun _ _ _ _ _ => (ie_ix ix_seq s_ix (ie_var 10) ie_int (fun _ _ => rfl))) (by decide))))) is_nil)
    (is_one (is_if (it_cmp (op_eqAll hr.units) s_eq (ie_var 4) ie_int (nomark _)) (is_one (is_asg 6 nd (ie_op op_addAll s_add (ie_var 6) (ie_lc (own := [("_law_row", 10)]) rfl nd (ii_seq (ie_var 8)) (blkOk_by (own := [("_law_row", 10)]) (N := N_law_judged) (sc := defScope s_law_judged) (by decide +kernel)) (fun _ _ _ _ _ => (pg_name (i := 10) nd rfl (by first | exact Or.inl rfl | exact Or.inr rfl))) go_nm (fun _ _ _ _ _ => (its_one (it_cmp op_notAll s_isnot (ie_ix ix_seq s_ix (ie_var 10) ie_int (fun _ _ => rfl)) ie_non (nomark _)))) (fun _ _ _ _ _ => (ie_ix ix_seq s_ix (ie_var 10) ie_int (fun _ _ => rfl))) (by decide))))) is_nil))))) is_nil))))
    (is_cons (is_if (it_cmp op_gt s_gt (ie_var 4) ie_int (nomark _)) (is_one (is_ret ie_non)) is_nil)
    (is_one (is_ret (ie_var 6))))))))))
theorem ar_law_judged : Ar m_law_judged 3 := ar_fn
theorem sc_is_name : FnScope N_is_name ["text"] (defScope s_is_name) := ⟨rfl, rfl, rfl, by decide +kernel, rfl, by decide +kernel, by decide +kernel⟩
theorem ok_is_name (T : Tt P K mg cl base) : FnOk P w K mg base (CXm K P w) 1 T.f_is_name T.fd_is_name ["text"] (spM ⟨K, cl⟩ 1 m_is_name) := by
  refine fun_ok (md := .tr) (mb := b_is_name) T.F_is_name sc_is_name rfl rfl (fun cdv A outer st H E hr => ?_)
  have nd := sc_is_name.nd
  have tk : Mz.Takes (cxOf (CXm K P w) P w K mg base N_is_name "is_name" (defScope s_is_name) T.f_is_name cdv A outer st H E) (fun c d _ H' => E c d H') := Mz.takes_of rfl rfl rfl rfl
  exact (is_one (is_ret (ie_and (ie_chain op_le op_le s_le s_le ie_int (ie_callB c_len s_len rfl T.z_len (by decide +kernel) (ia_cons (ie_var 0) ia_nil)) (ie_glI rfl T.kk_LONGEST_NAME)) (ie_one (ie_callB (cr_all rfl) s_all rfl T.z_all (by decide +kernel) (ia_cons (ie_lc (own := [("char", 1)]) rfl nd (ii_seq (ie_var 0)) (blkOk_by (own := [("char", 1)]) (N := N_is_name) (sc := defScope s_is_name) (by decide +kernel)) (fun _ _ _ _ _ => (pg_name (i := 1) nd rfl (by first | exact Or.inl rfl | exact Or.inr rfl))) go_nm (fun _ _ _ _ _ => its_nil) (fun _ _ _ _ _ => (ie_cmpM (opm_or (fun _ y _ => isStr y) (opm_std op_inS s_inS) (opm_std op_in_seq s_in)) (ie_var 1) (ie_glS rfl T.kk_SMALL_LETTERS) (by rfl))) (by decide)) ia_nil))))))
theorem ar_is_name : Ar m_is_name 1 := ar_fn
theorem sc_Kindu_initu : FnScope N_Kindu_initu ["self", "name", "stay", "need"] (defScope s_Kindu_initu) := ⟨rfl, rfl, rfl, by decide +kernel, rfl, by decide +kernel, by decide +kernel⟩
theorem ok_Kindu_initu (T : Tt P K mg cl base) : FnOk P w K mg base (CXm K P w) 2 T.f_Kindu_initu T.fd_Kindu_initu ["self", "name", "stay", "need"] (spM ⟨K, cl⟩ 4 m_Kindu_initu) := by
  refine fun_ok (md := .ini) (mb := b_Kindu_initu) T.F_Kindu_initu sc_Kindu_initu rfl rfl (fun cdv A outer st H E hr => ?_)
  have nd := sc_Kindu_initu.nd
  have tk : Mz.Takes (cxOf (CXm K P w) P w K mg base N_Kindu_initu "Kind.__init__" (defScope s_Kindu_initu) T.f_Kindu_initu cdv A outer st H E) (fun c d _ H' => E c d H') := Mz.takes_of rfl rfl rfl rfl
  exact (is_cons (is_if (it_not (it_val (ie_call (ok_is_name T) ar_is_name tk (hr.mono (by decide)) rfl T.g_is_name T.F_is_name.kp T.b_is_name (ia_cons (ie_var 1) ia_nil)))) (is_one is_bad) is_nil)
    (is_cons (is_if (it_not (it_chain op_le op_le s_le s_le ie_int (ie_var 2) (ie_glI rfl T.kk_LONGEST_STAY))) (is_one is_bad) is_nil)
    (is_cons (is_if (it_not (it_chain op_le op_le s_le s_le ie_int (ie_var 3) (ie_var 2))) (is_one is_bad) is_nil)
    (is_cons (is_setA [5] (ie_var 1) (ie_var 0) (al_cons ⟨T.C_5.cl, T.na_5_name⟩ al_nil))
    (is_cons (is_setA [5] (ie_var 2) (ie_var 0) (al_cons ⟨T.C_5.cl, T.na_5_stay⟩ al_nil))
    (is_one (is_setA [5] (ie_var 3) (ie_var 0) (al_cons ⟨T.C_5.cl, T.na_5_need⟩ al_nil))))))))
theorem ar_Kindu_initu : Ar m_Kindu_initu 4 := ar_fn
theorem sc_Yarducheck_kinds : FnScope N_Yarducheck_kinds ["self"] (defScope s_Yarducheck_kinds) := ⟨rfl, rfl, rfl, by decide +kernel, rfl, by decide +kernel, by decide +kernel⟩
theorem ok_Yarducheck_kinds (T : Tt P K mg cl base) : FnOk P w K mg base (CXm K P w) 1 T.f_Yarducheck_kinds T.fd_Yarducheck_kinds ["self"] (spM ⟨K, cl⟩ 1 m_Yarducheck_kinds) := by
  refine fun_ok (md := .tr) (mb := b_Yarducheck_kinds) T.F_Yarducheck_kinds sc_Yarducheck_kinds rfl rfl (fun cdv A outer st H E hr => ?_)
  have nd := sc_Yarducheck_kinds.nd
  have tk : Mz.Takes (cxOf (CXm K P w) P w K mg base N_Yarducheck_kinds "Yard._check_kinds" (defScope s_Yarducheck_kinds) T.f_Yarducheck_kinds cdv A outer st H E) (fun c d _ H' => E c d H') := Mz.takes_of rfl rfl rfl rfl
  exact (is_cons (is_if (it_cmp (op_eqAll hr.units) s_eq (ie_callB c_len s_len rfl T.z_len (by decide +kernel) (ia_cons (ie_attr [6] (ie_var 0) (al_cons ⟨T.C_6.cl, T.na_6_kinds⟩ al_nil)) ia_nil)) ie_int (nomark _)) (is_one is_bad) is_nil)
    (is_cons (is_asg 1 nd (ie_lstM ia_nil))
    (is_one (is_for (passes_of rfl) rfl (ii_enum rfl T.z_enumerate (ia_cons (ie_attr [6] (ie_var 0) (al_cons ⟨T.C_6.cl, T.na_6_kinds⟩ al_nil)) ia_nil)) (pg_tup rfl (pgs_cons (pg_name (i := 2) nd rfl (by first | exact Or.inl rfl | exact Or.inr rfl)) (pgs_cons (pg_name (i := 3) nd rfl (by first | exact Or.inl rfl | exact Or.inr rfl)) pgs_nil))) (go_tp rfl (gos_cons go_nm (gos_cons go_nm gos_nil))) (is_cons (is_if (PW.pt (iw_or (it_cmp (op_eqAll hr.units) s_eq (ie_var 2) (ie_ccon (c := 6) rfl T.gc_6 T.cr_6 T.cv_6_MOST_KINDS) (nomark _)) (iw_or1 (it_cmp op_in_seq s_in (ie_attr [5] (ie_var 3) (al_cons ⟨T.C_5.cl, T.na_5_name⟩ al_nil)) (ie_var 1) (by rfl))))) (is_one is_bad) is_nil)
    (is_one (is_expr (ie_lm lm_append PySem.F.slot_list_append PySem.F.type_list_append mt_append (ie_var 1) (ia_cons (ie_attr [5] (ie_var 3) (al_cons ⟨T.C_5.cl, T.na_5_name⟩ al_nil)) ia_nil)))))))))
theorem ar_Yarducheck_kinds : Ar m_Yarducheck_kinds 1 := ar_fn
theorem sc_Yarducheck_menu : FnScope N_Yarducheck_menu ["self"] (defScope s_Yarducheck_menu) := ⟨rfl, rfl, rfl, by decide +kernel, rfl, by decide +kernel, by decide +kernel⟩
theorem ok_Yarducheck_menu (T : Tt P K mg cl base) : FnOk P w K mg base (CXm K P w) 2 T.f_Yarducheck_menu T.fd_Yarducheck_menu ["self"] (spM ⟨K, cl⟩ 1 m_Yarducheck_menu) := by
  refine fun_ok (md := .tr) (mb := b_Yarducheck_menu) T.F_Yarducheck_menu sc_Yarducheck_menu rfl rfl (fun cdv A outer st H E hr => ?_)
  have nd := sc_Yarducheck_menu.nd
  have tk : Mz.Takes (cxOf (CXm K P w) P w K mg base N_Yarducheck_menu "Yard._check_menu" (defScope s_Yarducheck_menu) T.f_Yarducheck_menu cdv A outer st H E) (fun c d _ H' => E c d H') := Mz.takes_of rfl rfl rfl rfl
  exact (is_cons (is_if (it_cmp (op_eqAll hr.units) s_eq (ie_callB c_len s_len rfl T.z_len (by decide +kernel) (ia_cons (ie_attr [6] (ie_var 0) (al_cons ⟨T.C_6.cl, T.na_6_menu⟩ al_nil)) ia_nil)) ie_int (nomark _)) (is_one is_bad) is_nil)
    (is_cons (is_asg 1 nd (ie_lc (own := [("kind", 6)]) rfl nd (ii_seq (ie_attr [6] (ie_var 0) (al_cons ⟨T.C_6.cl, T.na_6_kinds⟩ al_nil))) (blkOk_by (own := [("kind", 6)]) (N := N_Yarducheck_menu) (sc := defScope s_Yarducheck_menu) (by decide +kernel)) (fun _ _ _ _ _ => (pg_name (i := 6) nd rfl (by first | exact Or.inl rfl | exact Or.inr rfl))) go_nm (fun _ _ _ _ _ => its_nil) (fun _ _ _ _ _ => (ie_attr [5] (ie_var 6) (al_cons ⟨T.C_5.cl, T.na_5_name⟩ al_nil))) (by decide)))
    (is_cons (is_asg 2 nd (ie_lstM ia_nil))
    (is_one (is_for (passes_of rfl) rfl (ii_enum rfl T.z_enumerate (ia_cons (ie_attr [6] (ie_var 0) (al_cons ⟨T.C_6.cl, T.na_6_menu⟩ al_nil)) ia_nil)) (pg_tup rfl (pgs_cons (pg_name (i := 3) nd rfl (by first | exact Or.inl rfl | exact Or.inr rfl)) (pgs_cons (pg_tup rfl (pgs_cons (pg_name (i := 4) nd rfl (by first | exact Or.inl rfl | exact Or.inr rfl)) (pgs_cons (pg_name (i := 5) nd rfl (by first | exact Or.inl rfl | exact Or.inr rfl)) pgs_nil))) pgs_nil))) (go_tp rfl (gos_cons go_nm (gos_cons (go_tp rfl (gos_cons go_nm (gos_cons go_nm gos_nil))) gos_nil))) (is_cons (is_if (PW.pt (iw_or (it_cmp (op_eqAll hr.units) s_eq (ie_var 3) (ie_ccon (c := 6) rfl T.gc_6 T.cr_6 T.cv_6_MOST_BATCHES) (nomark _)) (iw_or (it_not (it_val (ie_call (ok_is_name T) ar_is_name tk (hr.mono (by decide)) rfl T.g_is_name T.F_is_name.kp T.b_is_name (ia_cons (ie_var 4) ia_nil)))) (iw_or1 (it_cmp op_in_seq s_in (ie_var 4) (ie_var 2) (by rfl)))))) (is_one is_bad) is_nil)
    (is_cons (is_if (PW.pt (iw_or (it_not (it_chain op_le op_le s_le s_le ie_int (ie_callB c_len s_len rfl T.z_len (by decide +kernel) (ia_cons (ie_var 5) ia_nil)) (ie_ccon (c := 6) rfl T.gc_6 T.cr_6 T.cv_6_MOST_CARS))) (iw_or1 (it_not (it_val (ie_callB (cr_all rfl) s_all rfl T.z_all (by decide +kernel) (ia_cons (ie_lc (own := [("car", 7)]) rfl nd (ii_seq (ie_var 5)) (blkOk_by (own := [("car", 7)]) (N := N_Yarducheck_menu) (sc := defScope s_Yarducheck_menu) (by decide +kernel)) (fun _ _ _ _ _ => (pg_name (i := 7) nd rfl (by first | exact Or.inl rfl | exact Or.inr rfl))) go_nm (fun _ _ _ _ _ => its_nil) (fun _ _ _ _ _ => (ie_cmp op_in_seq s_in (ie_var 7) (ie_var 1) (by rfl))) (by decide)) ia_nil))))))) (is_one is_bad) is_nil)
    (is_one (is_expr (ie_lm lm_append PySem.F.slot_list_append PySem.F.type_list_append mt_append (ie_var 2) (ia_cons (ie_var 4) ia_nil)))))))))))
theorem ar_Yarducheck_menu : Ar m_Yarducheck_menu 1 := ar_fn
theorem sc_Yardu_initu : FnScope N_Yardu_initu ["self", "width", "kinds", "menu"] (defScope s_Yardu_initu) := ⟨rfl, rfl, rfl, by decide +kernel, rfl, by decide +kernel, by decide +kernel⟩
theorem ok_Yardu_initu (T : Tt P K mg cl base) : FnOk P w K mg base (CXm K P w) 3 T.f_Yardu_initu T.fd_Yardu_initu ["self", "width", "kinds", "menu"] (spM ⟨K, cl⟩ 4 m_Yardu_initu) := by
  refine fun_ok (md := .ini) (mb := b_Yardu_initu) T.F_Yardu_initu sc_Yardu_initu rfl rfl (fun cdv A outer st H E hr => ?_)
  have nd := sc_Yardu_initu.nd
  have tk : Mz.Takes (cxOf (CXm K P w) P w K mg base N_Yardu_initu "Yard.__init__" (defScope s_Yardu_initu) T.f_Yardu_initu cdv A outer st H E) (fun c d _ H' => E c d H') := Mz.takes_of rfl rfl rfl rfl
  exact (is_cons (is_if (it_not (it_chain op_le op_le s_le s_le ie_int (ie_var 1) ie_int)) (is_one is_bad) is_nil)
    (is_cons (is_setA [6] (ie_var 1) (ie_var 0) (al_cons ⟨T.C_6.cl, T.na_6_width⟩ al_nil))
    (is_cons (is_setA [6] (ie_callTy call_tuple_of s_tuple rfl T.z_tuple (by decide +kernel) (ia_cons (ie_var 2) ia_nil)) (ie_var 0) (al_cons ⟨T.C_6.cl, T.na_6_kinds⟩ al_nil))
    (is_cons (is_setA [6] (ie_callTy call_tuple_of s_tuple rfl T.z_tuple (by decide +kernel) (ia_cons (ie_lc (own := [("name", 4), ("cars", 5)]) rfl nd (ii_seq (ie_var 3)) (blkOk_by (own := [("name", 4), ("cars", 5)]) (N := N_Yardu_initu) (sc := defScope s_Yardu_initu) (by decide +kernel)) (fun _ _ _ _ _ => (pg_tup rfl (pgs_cons (pg_name (i := 4) nd rfl (by first | exact Or.inl rfl | exact Or.inr rfl)) (pgs_cons (pg_name (i := 5) nd rfl (by first | exact Or.inl rfl | exact Or.inr rfl)) pgs_nil)))) (go_tp rfl (gos_cons go_nm (gos_cons go_nm gos_nil))) (fun _ _ _ _ _ => its_nil) (fun _ _ _ _ _ => (ie_tup (ia_cons (ie_var 4) (ia_cons (ie_callTy call_tuple_of s_tuple rfl T.z_tuple (by decide +kernel) (ia_cons (ie_var 5) ia_nil)) ia_nil)))) (by decide)) ia_nil)) (ie_var 0) (al_cons ⟨T.C_6.cl, T.na_6_menu⟩ al_nil))
    (is_cons (is_expr (ie_meth0 (c := 6) (ie_var 0) T.C_6.cl T.mt_Yarducheck_kinds (ok_Yarducheck_kinds T) ar_Yarducheck_kinds tk (hr.mono (by decide)) T.b_Yarducheck_kinds))
    (is_one (is_expr (ie_meth0 (c := 6) (ie_var 0) T.C_6.cl T.mt_Yarducheck_menu (ok_Yarducheck_menu T) ar_Yarducheck_menu tk (hr.mono (by decide)) T.b_Yarducheck_menu))))))))
theorem ar_Yardu_initu : Ar m_Yardu_initu 4 := ar_fn
theorem sc_law_made : FnScope N_law_made ["_law_parts"] (defScope s_law_made) := ⟨rfl, rfl, rfl, by decide +kernel, rfl, by decide +kernel, by decide +kernel⟩
theorem ok_law_made (T : Tt P K mg cl base) : FnOk P w K mg base (CXm K P w) 5 T.f_law_made T.fd_law_made ["_law_parts"] (spM ⟨K, cl⟩ 1 m_law_made) := by
  refine fun_ok (md := .tr) (mb := b_law_made) T.F_law_made sc_law_made rfl rfl (fun cdv A outer st H E hr => ?_)
  have nd := sc_law_made.nd
  have tk : Mz.Takes (cxOf (CXm K P w) P w K mg base N_law_made "_law_made" (defScope s_law_made) T.f_law_made cdv A outer st H E) (fun c d _ H' => E c d H') := Mz.takes_of rfl rfl rfl rfl
  exact (is_cons (is_setLc (i := 1) (own := [("_law_kind", 2)]) rfl nd rfl rfl (sw_true rfl rfl rfl (by decide +kernel)) (ii_seq (ie_ix ix_seq s_ix (ie_var 0) ie_int (fun _ _ => rfl))) (blkOk_by (own := [("_law_kind", 2)]) (N := N_law_made) (sc := defScope s_law_made) (by decide +kernel)) (fun _ _ _ _ _ => (pg_name (i := 2) nd rfl (by first | exact Or.inl rfl | exact Or.inr rfl))) go_nm (fun _ _ _ _ _ => its_nil) (fun _ _ _ _ _ => (ie_make (c := 5) T.mk_5 (ok_Kindu_initu T) ar_Kindu_initu Mz.takes0 (hr.mono (by decide)) rfl T.gc_5 T.b_Kindu_initu (ia_cons (ie_ix ix_seq s_ix (ie_var 2) ie_int (fun _ _ => rfl)) (ia_cons (ie_ix ix_seq s_ix (ie_var 2) ie_int (fun _ _ => rfl)) (ia_cons (ie_ix ix_seq s_ix (ie_var 2) ie_int (fun _ _ => rfl)) ia_nil))))) (by decide))
    (is_one (is_ret (ie_make (c := 6) T.mk_6 (ok_Yardu_initu T) ar_Yardu_initu tk (hr.mono (by decide)) rfl T.gc_6 T.b_Yardu_initu (ia_cons (ie_ix ix_seq s_ix (ie_var 0) ie_int (fun _ _ => rfl)) (ia_cons (ie_var 1) (ia_cons (ie_lc (own := [("_law_batch", 3)]) rfl nd (ii_seq (ie_ix ix_seq s_ix (ie_var 0) ie_int (fun _ _ => rfl))) (blkOk_by (own := [("_law_batch", 3)]) (N := N_law_made) (sc := defScope s_law_made) (by decide +kernel)) (fun _ _ _ _ _ => (pg_name (i := 3) nd rfl (by first | exact Or.inl rfl | exact Or.inr rfl))) go_nm (fun _ _ _ _ _ => its_nil) (fun _ _ _ _ _ => (ie_tup (ia_cons (ie_ix ix_seq s_ix (ie_var 3) ie_int (fun _ _ => rfl)) (ia_cons (ie_callTy call_list_of s_list rfl T.z_list (by decide +kernel) (ia_cons (ie_ix ix_seq s_ix (ie_var 3) ie_int (fun _ _ => rfl)) ia_nil)) ia_nil)))) (by decide)) ia_nil)))))))
theorem ar_law_made : Ar m_law_made 1 := ar_fn
theorem sc_law_span : FnScope N_law_span ["_law_parts"] (defScope s_law_span) := ⟨rfl, rfl, rfl, by decide +kernel, rfl, by decide +kernel, by decide +kernel⟩
theorem ok_law_span (T : Tt P K mg cl base) : FnOk P w K mg base (CXm K P w) 1 T.f_law_span T.fd_law_span ["_law_parts"] (spM ⟨K, cl⟩ 1 m_law_span) := by
  refine fun_ok (md := .tr) (mb := b_law_span) T.F_law_span sc_law_span rfl rfl (fun cdv A outer st H E hr => ?_)
  have nd := sc_law_span.nd
  have tk : Mz.Takes (cxOf (CXm K P w) P w K mg base N_law_span "_law_span" (defScope s_law_span) T.f_law_span cdv A outer st H E) (fun c d _ H' => E c d H') := Mz.takes_of rfl rfl rfl rfl
  exact (is_cons (is_asg 1 nd ie_int)
    (is_cons (is_for (passes_of rfl) rfl (ii_seq (ie_ix ix_seq s_ix (ie_var 0) ie_int (fun _ _ => rfl))) (pg_name (i := 2) nd rfl (by first | exact Or.inl rfl | exact Or.inr rfl)) go_nm (is_one (is_if (it_cmp op_gt s_gt (ie_ix ix_seq s_ix (ie_var 2) ie_int (fun _ _ => rfl)) (ie_var 1) (nomark _)) (is_one (is_asg 1 nd (ie_ix ix_seq s_ix (ie_var 2) ie_int (fun _ _ => rfl)))) is_nil)))
    (is_one (is_ret (ie_var 1)))))
theorem ar_law_span : Ar m_law_span 1 := ar_fn
theorem sc_law_nothing : FnScope N_law_nothing ["_law_parts"] (defScope s_law_nothing) := ⟨rfl, rfl, rfl, by decide +kernel, rfl, by decide +kernel, by decide +kernel⟩
theorem ok_law_nothing (T : Tt P K mg cl base) : FnOk P w K mg base (CXm K P w) 2 T.f_law_nothing T.fd_law_nothing ["_law_parts"] (spM ⟨K, cl⟩ 1 m_law_nothing) := by
  refine fun_ok (md := .tr) (mb := b_law_nothing) T.F_law_nothing sc_law_nothing rfl rfl (fun cdv A outer st H E hr => ?_)
  have nd := sc_law_nothing.nd
  have tk : Mz.Takes (cxOf (CXm K P w) P w K mg base N_law_nothing "_law_nothing" (defScope s_law_nothing) T.f_law_nothing cdv A outer st H E) (fun c d _ H' => E c d H') := Mz.takes_of rfl rfl rfl rfl
  exact (is_one (is_ret (ie_lc (own := [("_law_mask", 1)]) rfl nd (ii_range1 rfl T.z_range (ia_cons (ie_ix ix_seq s_ix (ie_lst (ia_cons ie_int (ia_cons ie_int (ia_cons ie_int (ia_cons ie_int (ia_cons ie_int ia_nil)))))) (ie_call (ok_law_span T) ar_law_span tk (hr.mono (by decide)) rfl T.g_law_span T.F_law_span.kp T.b_law_span (ia_cons (ie_var 0) ia_nil)) (fun _ _ => rfl)) ia_nil)) (blkOk_by (own := [("_law_mask", 1)]) (N := N_law_nothing) (sc := defScope s_law_nothing) (by decide +kernel)) (fun _ _ _ _ _ => (pg_name (i := 1) nd rfl (by first | exact Or.inl rfl | exact Or.inr rfl))) go_nm (fun _ _ _ _ _ => its_nil) (fun _ _ _ _ _ => ie_int) (by decide))))
theorem ar_law_nothing : Ar m_law_nothing 1 := ar_fn
theorem sc_law_pool : FnScope N_law_pool ["_law_cell_here"] (defScope s_law_pool) := ⟨rfl, rfl, rfl, by decide +kernel, rfl, by decide +kernel, by decide +kernel⟩
theorem ok_law_pool (T : Tt P K mg cl base) : FnOk P w K mg base (CXm K P w) 1 T.f_law_pool T.fd_law_pool ["_law_cell_here"] (spM ⟨K, cl⟩ 1 m_law_pool) := by
  refine fun_ok (md := .kp) (mb := b_law_pool) T.F_law_pool sc_law_pool rfl rfl (fun cdv A outer st H E hr => ?_)
  have nd := sc_law_pool.nd
  have tk : Mz.Takes (cxOf (CXm K P w) P w K mg base N_law_pool "_law_pool" (defScope s_law_pool) T.f_law_pool cdv A outer st H E) (fun c d _ H' => E c d H') := Mz.takes_of rfl rfl rfl rfl
  exact (is_cons (is_if (it_cmp op_ge s_ge (ie_var 0) (ie_op op_pow s_pow ie_int ie_int) (nomark _)) (is_one (is_ret (ie_lstM (ia_cons (ie_var 0) (ia_cons (ie_var 0) (ia_cons ie_int ia_nil)))))) is_nil)
    (is_one (is_ret (ie_lstM (ia_cons ie_int (ia_cons (ie_var 0) (ia_cons ie_int ia_nil)))))))
theorem ar_law_pool : Ar m_law_pool 1 := ar_fn
theorem sc_law_words : FnScope N_law_words ["_law_pool_here", "_law_many"] (defScope s_law_words) := ⟨rfl, rfl, rfl, by decide +kernel, rfl, by decide +kernel, by decide +kernel⟩
theorem ok_law_words (T : Tt P K mg cl base) : FnOk P w K mg base (CXm K P w) 3 T.f_law_words T.fd_law_words ["_law_pool_here", "_law_many"] (spM ⟨K, cl⟩ 2 m_law_words) := by
  refine fun_ok (md := .tr) (mb := b_law_words) T.F_law_words sc_law_words rfl rfl (fun cdv A outer st H E hr => ?_)
  have nd := sc_law_words.nd
  have tk : Mz.Takes (cxOf (CXm K P w) P w K mg base N_law_words "_law_words" (defScope s_law_words) T.f_law_words cdv A outer st H E) (fun c d _ H' => E c d H') := Mz.takes_of rfl rfl rfl rfl
  exact (is_cons (is_asg 2 nd ie_str)
    (is_cons (is_if (it_cmp (op_eqAll hr.units) s_eq (ie_call (ok_law_take T) ar_law_take tk (hr.mono (by decide)) rfl T.g_law_take T.F_law_take.kp T.b_law_take (ia_cons (ie_var 0) (ia_cons ie_int ia_nil))) ie_int (nomark _)) (is_one (is_ret (ie_call (ok_law_names T) ar_law_names tk (hr.mono (by decide)) rfl T.g_law_names T.F_law_names.kp T.b_law_names (ia_cons (ie_var 0) (ia_cons (ie_var 1) ia_nil))))) is_nil)
    (is_cons (is_asg 3 nd (ie_lstM ia_nil))
    (is_cons (is_for (passes_of rfl) rfl (ii_range1 rfl T.z_range (ia_cons (ie_var 1) ia_nil)) (pg_name (i := 4) nd rfl (by first | exact Or.inl rfl | exact Or.inr rfl)) go_nm (is_cons (is_setLcM (i := 5) (own := [("_law_place", 8)]) rfl nd rfl rfl (sw_true rfl rfl rfl (by decide +kernel)) (ii_range1 rfl T.z_range (ia_cons (ie_op op_addAll s_add ie_int (ie_call (ok_law_take T) ar_law_take tk (hr.mono (by decide)) rfl T.g_law_take T.F_law_take.kp T.b_law_take (ia_cons (ie_var 0) (ia_cons ie_int ia_nil)))) ia_nil)) (blkOk_by (own := [("_law_place", 8)]) (N := N_law_words) (sc := defScope s_law_words) (by decide +kernel)) (fun _ _ _ _ _ => (pg_name (i := 8) nd rfl (by first | exact Or.inl rfl | exact Or.inr rfl))) go_nm (fun _ _ _ _ _ => its_nil) (fun _ _ _ _ _ => (ie_ix ix_seq s_ix (ie_var 2) (ie_call (ok_law_take T) ar_law_take Mz.takes0 (hr.mono (by decide)) rfl T.g_law_take T.F_law_take.kp T.b_law_take (ia_cons (ie_var 0) (ia_cons ie_int ia_nil))) (fun _ _ => rfl))) (by decide))
    (is_cons (is_asg 6 nd (ie_sidx (ie_var 2) (ia_cons (ie_ix ix_seq s_ix (ie_var 5) ie_int (fun _ _ => rfl)) ia_nil)))
    (is_cons (is_for (passes_of rfl) rfl (ii_range1 rfl T.z_range (ia_cons ie_int ia_nil)) (pg_name (i := 7) nd rfl (by first | exact Or.inl rfl | exact Or.inr rfl)) go_nm (is_cons (is_setI (ie_ix ix_seq s_ix (ie_var 2) (ie_op op_mod s_mod (ie_callTy call_int1 s_int rfl T.z_int (by decide +kernel) (ia_cons (ie_op op_addAll s_add (ie_var 6) (ie_var 7)) ia_nil)) ie_int) (fun _ _ => rfl)) (ie_var 5) ie_int (pg_sub (ie_var 5) ie_int set_list))
    (is_one (is_if (it_cmp op_notIn_seq s_in (ie_join ie_str (ie_var 5)) (ie_var 3) (by rfl)) (is_one is_brk) is_nil))))
    (is_one (is_expr (ie_lm lm_append PySem.F.slot_list_append PySem.F.type_list_append mt_append (ie_var 3) (ia_cons (ie_join ie_str (ie_var 5)) ia_nil))))))))
    (is_one (is_ret (ie_var 3)))))))
theorem ar_law_words : Ar m_law_words 2 := ar_fn
theorem sc_law_batches : FnScope N_law_batches ["_law_pool_here", "_law_words_here", "_law_kinds", "_law_many", "_law_sizes"] (defScope s_law_batches) := ⟨rfl, rfl, rfl, by decide +kernel, rfl, by decide +kernel, by decide +kernel⟩
theorem ok_law_batches (T : Tt P K mg cl base) : FnOk P w K mg base (CXm K P w) 4 T.f_law_batches T.fd_law_batches ["_law_pool_here", "_law_words_here", "_law_kinds", "_law_many", "_law_sizes"] (spM ⟨K, cl⟩ 5 m_law_batches) := by
  refine fun_ok (md := .tr) (mb := b_law_batches) T.F_law_batches sc_law_batches rfl rfl (fun cdv A outer st H E hr => ?_)
  have nd := sc_law_batches.nd
  have tk : Mz.Takes (cxOf (CXm K P w) P w K mg base N_law_batches "_law_batches" (defScope s_law_batches) T.f_law_batches cdv A outer st H E) (fun c d _ H' => E c d H') := Mz.takes_of rfl rfl rfl rfl
  exact (is_cons (is_asg 5 nd (ie_lstM ia_nil))
    (is_cons (is_for (passes_of rfl) rfl (ii_seq (ie_call (ok_law_words T) ar_law_words tk (hr.mono (by decide)) rfl T.g_law_words T.F_law_words.kp T.b_law_words (ia_cons (ie_var 1) (ia_cons (ie_var 3) ia_nil)))) (pg_name (i := 6) nd rfl (by first | exact Or.inl rfl | exact Or.inr rfl)) go_nm (is_cons (is_asg 7 nd (ie_ix ix_seq s_ix (ie_var 4) (ie_call (ok_law_take T) ar_law_take tk (hr.mono (by decide)) rfl T.g_law_take T.F_law_take.kp T.b_law_take (ia_cons (ie_var 0) (ia_cons (ie_callB c_len s_len rfl T.z_len (by decide +kernel) (ia_cons (ie_var 4) ia_nil)) ia_nil))) (fun _ _ => rfl)))
    (is_one (is_expr (ie_lm lm_append PySem.F.slot_list_append PySem.F.type_list_append mt_append (ie_var 5) (ia_cons (ie_tup (ia_cons (ie_var 6) (ia_cons (ie_lc (own := [("_law_k", 8)]) rfl nd (ii_range1 rfl T.z_range (ia_cons (ie_var 7) ia_nil)) (blkOk_by (own := [("_law_k", 8)]) (N := N_law_batches) (sc := defScope s_law_batches) (by decide +kernel)) (fun _ _ _ _ _ => (pg_name (i := 8) nd rfl (by first | exact Or.inl rfl | exact Or.inr rfl))) go_nm (fun _ _ _ _ _ => its_nil) (fun _ _ _ _ _ => (ie_ix ix_seq s_ix (ie_ix ix_seq s_ix (ie_var 2) (ie_call (ok_law_take T) ar_law_take Mz.takes0 (hr.mono (by decide)) rfl T.g_law_take T.F_law_take.kp T.b_law_take (ia_cons (ie_var 0) (ia_cons (ie_callB c_len s_len rfl T.z_len (by decide +kernel) (ia_cons (ie_var 2) ia_nil)) ia_nil))) (fun _ _ => rfl)) ie_int (fun _ _ => rfl))) (by decide)) ia_nil))) ia_nil))))))
    (is_one (is_ret (ie_var 5)))))
theorem ar_law_batches : Ar m_law_batches 5 := ar_fn
theorem sc_law_lot : FnScope N_law_lot ["_law_pool_here", "_law_words_here", "_law_many", "_law_longest", "_law_hard"] (defScope s_law_lot) := ⟨rfl, rfl, rfl, by decide +kernel, rfl, by decide +kernel, by decide +kernel⟩
theorem ok_law_lot (T : Tt P K mg cl base) : FnOk P w K mg base (CXm K P w) 4 T.f_law_lot T.fd_law_lot ["_law_pool_here", "_law_words_here", "_law_many", "_law_longest", "_law_hard"] (spM ⟨K, cl⟩ 5 m_law_lot) := by
  refine fun_ok (md := .tr) (mb := b_law_lot) T.F_law_lot sc_law_lot rfl rfl (fun cdv A outer st H E hr => ?_)
  have nd := sc_law_lot.nd
  have tk : Mz.Takes (cxOf (CXm K P w) P w K mg base N_law_lot "_law_lot" (defScope s_law_lot) T.f_law_lot cdv A outer st H E) (fun c d _ H' => E c d H') := Mz.takes_of rfl rfl rfl rfl
  exact (is_cons (is_asg 5 nd (ie_lstM ia_nil))
    (is_cons (is_for (passes_of rfl) rfl (ii_seq (ie_call (ok_law_words T) ar_law_words tk (hr.mono (by decide)) rfl T.g_law_words T.F_law_words.kp T.b_law_words (ia_cons (ie_var 1) (ia_cons (ie_var 2) ia_nil)))) (pg_name (i := 6) nd rfl (by first | exact Or.inl rfl | exact Or.inr rfl)) go_nm (is_cons (is_asg 7 nd (ie_op op_addAll s_add ie_int (ie_call (ok_law_take T) ar_law_take tk (hr.mono (by decide)) rfl T.g_law_take T.F_law_take.kp T.b_law_take (ia_cons (ie_var 0) (ia_cons (ie_var 3) ia_nil)))))
    (is_cons (is_asg 8 nd ie_int)
    (is_cons (is_if (it_cmp (op_eqAll hr.units) s_eq (ie_call (ok_law_take T) ar_law_take tk (hr.mono (by decide)) rfl T.g_law_take T.F_law_take.kp T.b_law_take (ia_cons (ie_var 0) (ia_cons (ie_var 4) ia_nil))) ie_int (nomark _)) (is_one (is_asg 8 nd (ie_op op_addAll s_add ie_int (ie_call (ok_law_take T) ar_law_take tk (hr.mono (by decide)) rfl T.g_law_take T.F_law_take.kp T.b_law_take (ia_cons (ie_var 0) (ia_cons (ie_var 7) ia_nil)))))) is_nil)
    (is_one (is_expr (ie_lm lm_append PySem.F.slot_list_append PySem.F.type_list_append mt_append (ie_var 5) (ia_cons (ie_tup (ia_cons (ie_var 6) (ia_cons (ie_var 7) (ia_cons (ie_var 8) ia_nil)))) ia_nil))))))))
    (is_one (is_ret (ie_var 5)))))
theorem ar_law_lot : Ar m_law_lot 5 := ar_fn
theorem sc_law_lean : FnScope N_law_lean ["_law_pool_here", "_law_words_here", "_law_width", "_law_stays"] (defScope s_law_lean) := ⟨rfl, rfl, rfl, by decide +kernel, rfl, by decide +kernel, by decide +kernel⟩
theorem ok_law_lean (T : Tt P K mg cl base) : FnOk P w K mg base (CXm K P w) 5 T.f_law_lean T.fd_law_lean ["_law_pool_here", "_law_words_here", "_law_width", "_law_stays"] (spM ⟨K, cl⟩ 4 m_law_lean) := by
  refine fun_ok (md := .tr) (mb := b_law_lean) T.F_law_lean sc_law_lean rfl rfl (fun cdv A outer st H E hr => ?_)
  have nd := sc_law_lean.nd
  have tk : Mz.Takes (cxOf (CXm K P w) P w K mg base N_law_lean "_law_lean" (defScope s_law_lean) T.f_law_lean cdv A outer st H E) (fun c d _ H' => E c d H') := Mz.takes_of rfl rfl rfl rfl
  exact (is_cons (is_asg 4 nd (ie_op op_addAll s_add ie_int (ie_call (ok_law_take T) ar_law_take tk (hr.mono (by decide)) rfl T.g_law_take T.F_law_take.kp T.b_law_take (ia_cons (ie_var 0) (ia_cons ie_int ia_nil)))))
    (is_cons (is_asg 5 nd (ie_ix ix_seq s_ix (ie_var 3) (ie_call (ok_law_take T) ar_law_take tk (hr.mono (by decide)) rfl T.g_law_take T.F_law_take.kp T.b_law_take (ia_cons (ie_var 0) (ia_cons (ie_callB c_len s_len rfl T.z_len (by decide +kernel) (ia_cons (ie_var 3) ia_nil)) ia_nil))) (fun _ _ => rfl)))
    (is_cons (is_asg 6 nd (ie_call (ok_law_lot T) ar_law_lot tk (hr.mono (by decide)) rfl T.g_law_lot T.F_law_lot.kp T.b_law_lot (ia_cons (ie_var 0) (ia_cons (ie_var 1) (ia_cons (ie_var 4) (ia_cons (ie_var 5) (ia_cons ie_int ia_nil)))))))
    (is_cons (is_asg 7 nd (ie_lst (ia_cons (ie_var 2) (ia_cons (ie_op op_addAll s_add (ie_var 2) ie_int) (ia_cons (ie_op op_addAll s_add (ie_var 2) ie_int) (ia_cons (ie_op op_addAll s_add (ie_var 2) ie_int) ia_nil))))))
    (is_one (is_ret (ie_lst (ia_cons (ie_var 2) (ia_cons (ie_var 6) (ia_cons (ie_call (ok_law_batches T) ar_law_batches tk (hr.mono (by decide)) rfl T.g_law_batches T.F_law_batches.kp T.b_law_batches (ia_cons (ie_var 0) (ia_cons (ie_var 1) (ia_cons (ie_var 6) (ia_cons (ie_op op_addAll s_add ie_int (ie_call (ok_law_take T) ar_law_take tk (hr.mono (by decide)) rfl T.g_law_take T.F_law_take.kp T.b_law_take (ia_cons (ie_var 0) (ia_cons ie_int ia_nil)))) (ia_cons (ie_var 7) ia_nil)))))) ia_nil))))))))))
theorem ar_law_lean : Ar m_law_lean 4 := ar_fn
theorem sc_law_wide : FnScope N_law_wide ["_law_pool_here", "_law_words_here", "_law_widest", "_law_longest"] (defScope s_law_wide) := ⟨rfl, rfl, rfl, by decide +kernel, rfl, by decide +kernel, by decide +kernel⟩
theorem ok_law_wide (T : Tt P K mg cl base) : FnOk P w K mg base (CXm K P w) 5 T.f_law_wide T.fd_law_wide ["_law_pool_here", "_law_words_here", "_law_widest", "_law_longest"] (spM ⟨K, cl⟩ 4 m_law_wide) := by
  refine fun_ok (md := .tr) (mb := b_law_wide) T.F_law_wide sc_law_wide rfl rfl (fun cdv A outer st H E hr => ?_)
  have nd := sc_law_wide.nd
  have tk : Mz.Takes (cxOf (CXm K P w) P w K mg base N_law_wide "_law_wide" (defScope s_law_wide) T.f_law_wide cdv A outer st H E) (fun c d _ H' => E c d H') := Mz.takes_of rfl rfl rfl rfl
  exact (is_cons (is_asg 4 nd (ie_op op_addAll s_add ie_int (ie_call (ok_law_take T) ar_law_take tk (hr.mono (by decide)) rfl T.g_law_take T.F_law_take.kp T.b_law_take (ia_cons (ie_var 0) (ia_cons (ie_var 2) ia_nil)))))
    (is_cons (is_asg 5 nd (ie_call (ok_law_lot T) ar_law_lot tk (hr.mono (by decide)) rfl T.g_law_lot T.F_law_lot.kp T.b_law_lot (ia_cons (ie_var 0) (ia_cons (ie_var 1) (ia_cons (ie_op op_addAll s_add ie_int (ie_call (ok_law_take T) ar_law_take tk (hr.mono (by decide)) rfl T.g_law_take T.F_law_take.kp T.b_law_take (ia_cons (ie_var 0) (ia_cons ie_int ia_nil)))) (ia_cons (ie_var 3) (ia_cons ie_int ia_nil)))))))
    (is_one (is_ret (ie_lst (ia_cons (ie_var 4) (ia_cons (ie_var 5) (ia_cons (ie_call (ok_law_batches T) ar_law_batches tk (hr.mono (by decide)) rfl T.g_law_batches T.F_law_batches.kp T.b_law_batches (ia_cons (ie_var 0) (ia_cons (ie_var 1) (ia_cons (ie_var 5) (ia_cons (ie_op op_addAll s_add ie_int (ie_call (ok_law_take T) ar_law_take tk (hr.mono (by decide)) rfl T.g_law_take T.F_law_take.kp T.b_law_take (ia_cons (ie_var 0) (ia_cons ie_int ia_nil)))) (ia_cons (ie_lst (ia_cons ie_int (ia_cons ie_int (ia_cons ie_int ia_nil)))) ia_nil)))))) ia_nil))))))))
theorem ar_law_wide : Ar m_law_wide 4 := ar_fn
theorem sc_law_yard : FnScope N_law_yard ["_law_pool_here", "_law_words_here"] (defScope s_law_yard) := ⟨rfl, rfl, rfl, by decide +kernel, rfl, by decide +kernel, by decide +kernel⟩
theorem ok_law_yard (T : Tt P K mg cl base) : FnOk P w K mg base (CXm K P w) 6 T.f_law_yard T.fd_law_yard ["_law_pool_here", "_law_words_here"] (spM ⟨K, cl⟩ 2 m_law_yard) := by
  refine fun_ok (md := .tr) (mb := b_law_yard) T.F_law_yard sc_law_yard rfl rfl (fun cdv A outer st H E hr => ?_)
  have nd := sc_law_yard.nd
  have tk : Mz.Takes (cxOf (CXm K P w) P w K mg base N_law_yard "_law_yard" (defScope s_law_yard) T.f_law_yard cdv A outer st H E) (fun c d _ H' => E c d H') := Mz.takes_of rfl rfl rfl rfl
  exact (is_cons (is_if (it_cmp (op_eqAll hr.units) s_eq (ie_call (ok_law_take T) ar_law_take tk (hr.mono (by decide)) rfl T.g_law_take T.F_law_take.kp T.b_law_take (ia_cons (ie_var 0) (ia_cons ie_int ia_nil))) ie_int (nomark _)) (is_one (is_ret (ie_call (ok_law_wide T) ar_law_wide tk (hr.mono (by decide)) rfl T.g_law_wide T.F_law_wide.kp T.b_law_wide (ia_cons (ie_var 0) (ia_cons (ie_var 1) (ia_cons ie_int (ia_cons ie_int ia_nil))))))) is_nil)
    (is_cons (is_asg 2 nd (ie_op op_addAll s_add ie_int (ie_call (ok_law_take T) ar_law_take tk (hr.mono (by decide)) rfl T.g_law_take T.F_law_take.kp T.b_law_take (ia_cons (ie_var 0) (ia_cons ie_int ia_nil)))))
    (is_one (is_ret (ie_call (ok_law_lean T) ar_law_lean tk (hr.mono (by decide)) rfl T.g_law_lean T.F_law_lean.kp T.b_law_lean (ia_cons (ie_var 0) (ia_cons (ie_var 1) (ia_cons (ie_var 2) (ia_cons (ie_lst (ia_cons ie_int (ia_cons ie_int (ia_cons ie_int (ia_cons ie_int ia_nil))))) ia_nil)))))))))
theorem ar_law_yard : Ar m_law_yard 2 := ar_fn
theorem sc_law : FnScope N_law ["_law_script"] (defScope s_law) := ⟨rfl, rfl, rfl, by decide +kernel, rfl, by decide +kernel, by decide +kernel⟩
theorem ok_law (T : Tt P K mg cl base) : FnOk P w K mg base (CXm K P w) 15 T.f_law T.fd_law ["_law_script"] (spM ⟨K, cl⟩ 1 m_law) := by
  refine fun_ok (md := .tr) (mb := b_law) T.F_law sc_law rfl rfl (fun cdv A outer st H E hr => ?_)
  have nd := sc_law.nd
  have tk : Mz.Takes (cxOf (CXm K P w) P w K mg base N_law "law" (defScope s_law) T.f_law cdv A outer st H E) (fun c d _ H' => E c d H') := Mz.takes_of rfl rfl rfl rfl
  exact (is_cons (is_asg 1 nd (ie_call (ok_law_take T) ar_law_take tk (hr.mono (by decide)) rfl T.g_law_take T.F_law_take.kp T.b_law_take (ia_cons (ie_call (ok_law_pool T) ar_law_pool tk (hr.mono (by decide)) rfl T.g_law_pool T.F_law_pool.kp T.b_law_pool (ia_cons (ie_call (ok_law_cell T) ar_law_cell tk (hr.mono (by decide)) rfl T.g_law_cell T.F_law_cell.kp T.b_law_cell (ia_cons (ie_var 0) (ia_cons ie_int ia_nil))) ia_nil)) (ia_cons ie_int ia_nil))))
    (is_cons (is_asg 2 nd (ie_call (ok_law_pool T) ar_law_pool tk (hr.mono (by decide)) rfl T.g_law_pool T.F_law_pool.kp T.b_law_pool (ia_cons (ie_call (ok_law_cell T) ar_law_cell tk (hr.mono (by decide)) rfl T.g_law_cell T.F_law_cell.kp T.b_law_cell (ia_cons (ie_var 0) (ia_cons ie_int ia_nil))) ia_nil)))
    (is_cons (is_asg 3 nd (ie_call (ok_law_foe T) ar_law_foe tk (hr.mono (by decide)) rfl T.g_law_foe T.F_law_foe.kp T.b_law_foe (ia_cons (ie_var 2) ia_nil)))
    (is_cons (is_asg 4 nd ie_int)
    (is_cons (is_if (it_cmp (op_eqAll hr.units) s_eq (ie_var 1) ie_int (nomark _)) (is_cons (is_asg 3 nd (ie_call (ok_law_yard T) ar_law_yard tk (hr.mono (by decide)) rfl T.g_law_yard T.F_law_yard.kp T.b_law_yard (ia_cons (ie_call (ok_law_pool T) ar_law_pool tk (hr.mono (by decide)) rfl T.g_law_pool T.F_law_pool.kp T.b_law_pool (ia_cons (ie_call (ok_law_cell T) ar_law_cell tk (hr.mono (by decide)) rfl T.g_law_cell T.F_law_cell.kp T.b_law_cell (ia_cons (ie_var 0) (ia_cons ie_int ia_nil))) ia_nil)) (ia_cons (ie_call (ok_law_pool T) ar_law_pool tk (hr.mono (by decide)) rfl T.g_law_pool T.F_law_pool.kp T.b_law_pool (ia_cons (ie_call (ok_law_cell T) ar_law_cell tk (hr.mono (by decide)) rfl T.g_law_cell T.F_law_cell.kp T.b_law_cell (ia_cons (ie_var 0) (ia_cons ie_int ia_nil))) ia_nil)) ia_nil))))
    (is_one (is_asg 4 nd ie_int))) is_nil)
    (is_cons (is_asg 5 nd ie_non)
    (is_cons (is_asg 6 nd ie_int)
    (is_cons (is_asg 7 nd ie_non)
    (is_cons (is_tryAs (k := 31) (i := 8) [(31, true)] rfl rfl nd rfl rfl ⟨rfl, by decide, .inl T.gx_31⟩ tk (lk_cons T.xm_31_31 lk_nil) (fun W pn xe tk po => (is_cons (is_if (it_cmp (op_eqAll hr.units) s_eq (ie_var 1) ie_int (nomark _)) (is_one (is_asg 5 nd (ie_makeW (c := 11) T.mk_11 (ok_Gameu_initu T) ar_Gameu_initu tk (hr.mono (by decide)) rfl T.gc_11 T.kb_Gameu_initu_2_most (ia_cons (ie_call (ok_law_made T) ar_law_made tk (hr.mono (by decide)) rfl T.g_law_made T.F_law_made.kp T.b_law_made (ia_cons (ie_var 3) ia_nil)) ia_nil) (ik_cons ie_int ik_nil)))) (is_one (is_asg 5 nd (ie_makeW (c := 11) T.mk_11 (ok_Gameu_initu T) ar_Gameu_initu tk (hr.mono (by decide)) rfl T.gc_11 T.kb_Gameu_initu_2 (ia_cons (ie_call (ok_law_made T) ar_law_made tk (hr.mono (by decide)) rfl T.g_law_made T.F_law_made.kp T.b_law_made (ia_cons (ie_var 3) ia_nil)) ia_nil) ik_nil))))
    (is_one (is_asg 6 nd (ie_callBM (cam_or (oneIs 11) (cam_len (c := 11) T.mt_Gameu_lenu.at_ T.mt_Gameu_lenu.fn (ok_Gameu_lenu T) (hr.mono (by decide)) T.b_Gameu_lenu) (cam_std c_len s_len)) rfl T.z_len (by decide +kernel) (ia_cons (ie_var 5) ia_nil)))))) (fun a oe cls d pn hz hf => (xs_one (x_asg 7 (by decide) nd (x_fld (lk_cons (fun _ => ⟨T.xc_31.xf, T.nf_31_most⟩) lk_nil) hz hf rfl (by first | exact Or.inl rfl | exact Or.inr (Or.inl rfl) | exact Or.inr (Or.inr rfl)))))))
    (is_cons (is_if (it_cmp op_notAll s_isnot (ie_var 7) ie_non (nomark _)) (is_one (is_ret (ie_and (ie_call (ok_law_same T) ar_law_same tk (hr.mono (by decide)) rfl T.g_law_same T.F_law_same.kp T.b_law_same (ia_cons (ie_var 7) (ia_cons (ie_var 4) ia_nil))) (ie_one (ie_or (ie_cmp (op_eqAll hr.units) s_eq (ie_var 1) ie_int (nomark _)) (ie_one (ie_cmp op_gt s_gt (ie_callB c_len s_len rfl T.z_len (by decide +kernel) (ia_cons (ie_ix ix_seq s_ix (ie_var 3) ie_int (fun _ _ => rfl)) ia_nil)) ie_int (nomark _)))))))) is_nil)
    (is_cons (is_asg 9 nd (ie_lstM (ia_cons (ie_lst (ia_cons (ie_lst ia_nil) (ia_cons (ie_call (ok_law_nothing T) ar_law_nothing tk (hr.mono (by decide)) rfl T.g_law_nothing T.F_law_nothing.kp T.b_law_nothing (ia_cons (ie_var 3) ia_nil)) ia_nil))) ia_nil)))
    (is_cons (is_asg 10 nd (ie_call (ok_law_rank T) ar_law_rank tk (hr.mono (by decide)) rfl T.g_law_rank T.F_law_rank.kp T.b_law_rank (ia_cons (ie_var 5) (ia_cons (ie_call (ok_law_state T) ar_law_state tk (hr.mono (by decide)) rfl T.g_law_state T.F_law_state.kp T.b_law_state (ia_cons (ie_ix ix_seq s_ix (ie_var 9) ie_int (fun _ _ => rfl)) ia_nil)) ia_nil))))
    (is_cons (is_if (PW.pt (iw_or (it_cmp op_isAll s_is (ie_var 10) ie_non (nomark _)) (iw_or1 (it_not (it_val (ie_call (ok_law_same T) ar_law_same tk (hr.mono (by decide)) rfl T.g_law_same T.F_law_same.kp T.b_law_same (ia_cons (ie_prop (c := 11) (ie_var 5) T.C_11 T.pp_Game_holds (ok_Game_holds T) (hr.mono (by decide)) T.b_Game_holds) (ia_cons (ie_cmp (op_eqAll hr.units) s_eq (ie_var 10) ie_int (nomark _)) ia_nil)))))))) (is_one (is_ret ie_bl)) is_nil)
    (is_cons (is_if (PW.pt (iw_and (it_cmp (op_eqAll hr.units) s_eq (ie_var 1) ie_int (nomark _)) (iw_and1 (PW.pt (iw_or (it_cmp op_lt s_lt (ie_var 10) ie_int (nomark _)) (iw_or1 (it_cmp op_gt s_gt (ie_var 10) ie_int (nomark _)))))))) (is_one (is_ret ie_bl)) is_nil)
    (is_cons (is_for (passes_of rfl) rfl (ii_range1 rfl T.z_range (ia_cons ie_int ia_nil)) (pg_name (i := 11) nd rfl (by first | exact Or.inl rfl | exact Or.inr rfl)) go_nm (is_cons (is_if (it_cmp op_ge s_ge (ie_var 11) (ie_callB c_len s_len rfl T.z_len (by decide +kernel) (ia_cons (ie_var 9) ia_nil)) (nomark _)) (is_one is_brk) is_nil)
    (is_cons (is_asg 12 nd (ie_call (ok_law_judged T) ar_law_judged tk (hr.mono (by decide)) rfl T.g_law_judged T.F_law_judged.kp T.b_law_judged (ia_cons (ie_var 5) (ia_cons (ie_var 3) (ia_cons (ie_ix ix_seq s_ix (ie_var 9) (ie_var 11) (fun _ _ => rfl)) ia_nil)))))
    (is_cons (is_if (it_cmp op_isAll s_is (ie_var 12) ie_non (nomark _)) (is_one (is_ret ie_bl)) is_nil)
    (is_one (is_for (passes_of rfl) rfl (ii_seq (ie_var 12)) (pg_name (i := 13) nd rfl (by first | exact Or.inl rfl | exact Or.inr rfl)) go_nm (is_one (is_if (it_cmp (op_notInD (u65 hr)) s_notInD (ie_var 13) (ie_var 9) (by rfl)) (is_one (is_expr (ie_lm lm_append PySem.F.slot_list_append PySem.F.type_list_append mt_append (ie_var 9) (ia_cons (ie_var 13) ia_nil)))) is_nil))))))))
    (is_one (is_ret (ie_and (ie_cmp op_lt s_lt ie_int (ie_var 6) (nomark _)) (ie_one (ie_cmp op_le s_le (ie_var 6) (ie_var 4) (nomark _)))))))))))))))))))))
end
theorem all_mk {P : Program} {w : World} {K : PySem.W.Frag} {h : Heap} {mg : Str → Option Value} {fa : Addr} (ht : ∀ ns : List Int, ns.length ≤ 63 → ∃ st', m_law [.v (.ro (ns.map W.int))] emp = .ok (.v (.bl true)) st') (X : K.In h) (G : h.Ns mainGlobals mg) (hfa : mg "law" = some (.ref fa))  {kd24 : Addr} {kt24_most : Tok} {fx31 cda31 cc31 N31 : Addr} {nm31 qn31 : Str} {bs31 bm31 : List Value} {sn31 : List Str} {sb31 : List Value} {ab31 : Bool} {co31 : Option Bool} {dd31 od_31 an_31 cdd31 cld31 : Option Addr} {m031 m131 m231 m331 m531 : Option Value} {oc_31 doc31 pm_31 ct_31 ccl31 cl_31 : Value} {osl31 ccs31 csl31 : Array (Option Value)} {vs31 : Array Value} {fi_31 : Str} {tf31 : Tok} {cx0 : Tok} {cx1 : Tok} {cx2 : Tok} {tc0 : Tok} {tc1 : Tok} {tc2 : Tok} {q11 : Addr} {q1 : Addr} {q6 : Addr} {q5 : Addr} {q31 : Addr} {q30 : Addr} {po0 : Addr} {pr0 : List Value} {po1 : Addr} {pr1 : List Value} {po2 : Addr} {pr2 : List Value} {cp0 : Addr} {cr0 : List Value} {cp1 : Addr} {cr1 : List Value} {ov0 ow0 : Option Value}{f1 f2 f3 f4 f5 f6 f7 f8 f9 f10 f11 f12 f13 f14 f15 f16 f17 f18 f19 f20 f21 f22 f23 f24 f25 f26 f27 f28 f29 f30 f31 f32 f33 f34 f35 f36 f37 f38 f39 f40 f41 f42 f43 f44 f45 f46 f47 f48 f49 f50 f51 f52 f53 f54 f55 f56 f57 f58 f59 f60 f61 f62 f63 f64 f65 f66 f67 f68 f69 f70 : Addr} {od1 an1 od2 an2 od3 an3 od4 an4 od5 an5 od6 an6 od7 an7 od8 an8 od9 an9 od10 an10 od11 an11 od12 an12 od13 an13 od14 an14 od15 an15 od16 an16 od17 an17 od18 an18 od19 an19 od20 an20 od21 an21 od22 an22 od23 an23 od24 an24 od25 an25 od26 an26 od27 an27 od28 an28 od29 an29 od30 an30 od31 an31 od32 an32 od33 an33 od34 an34 od35 an35 od36 an36 od37 an37 od38 an38 od39 an39 od40 an40 od41 an41 od42 an42 od43 an43 od44 an44 od45 an45 od46 an46 od47 an47 od48 an48 od49 an49 od50 an50 od51 an51 od52 an52 od53 an53 od54 an54 od55 an55 od56 an56 od57 an57 od58 an58 od59 an59 od60 an60 od61 an61 od62 an62 od63 an63 od64 an64 od65 an65 od66 an66 od67 an67 od68 an68 od69 an69 od70 an70 : Option Addr} {sl1 sl2 sl3 sl4 sl5 sl6 sl7 sl8 sl9 sl10 sl11 sl12 sl13 sl14 sl15 sl16 sl17 sl18 sl19 sl20 sl21 sl22 sl23 sl24 sl25 sl26 sl27 sl28 sl29 sl30 sl31 sl32 sl33 sl34 sl35 sl36 sl37 sl38 sl39 sl40 sl41 sl42 sl43 sl44 sl45 sl46 sl47 sl48 sl49 sl50 sl51 sl52 sl53 sl54 sl55 sl56 sl57 sl58 sl59 sl60 sl61 sl62 sl63 sl64 sl65 sl66 sl67 sl68 sl69 sl70 : Array (Option Value)} {oc1 kV1 dc1 pm1 cd1 ct1 oc2 kV2 dc2 pm2 cd2 ct2 oc3 kV3 dc3 pm3 cd3 ct3 oc4 kV4 dc4 pm4 cd4 ct4 oc5 kV5 dc5 pm5 cd5 ct5 oc6 kV6 dc6 pm6 cd6 ct6 oc7 kV7 dc7 pm7 cd7 ct7 oc8 kV8 dc8 pm8 cd8 ct8 oc9 kV9 dc9 pm9 cd9 ct9 oc10 kV10 dc10 pm10 cd10 ct10 oc11 kV11 dc11 pm11 cd11 ct11 oc12 kV12 dc12 pm12 cd12 ct12 oc13 kV13 dc13 pm13 cd13 ct13 oc14 kV14 dc14 pm14 cd14 ct14 oc15 kV15 dc15 pm15 cd15 ct15 oc16 kV16 dc16 pm16 cd16 ct16 oc17 kV17 dc17 pm17 cd17 ct17 oc18 kV18 dc18 pm18 cd18 ct18 oc19 kV19 dc19 pm19 cd19 ct19 oc20 kV20 dc20 pm20 cd20 ct20 oc21 kV21 dc21 pm21 cd21 ct21 oc22 kV22 dc22 pm22 cd22 ct22 oc23 kV23 dc23 pm23 cd23 ct23 oc24 dc24 pm24 cd24 ct24 oc25 kV25 dc25 pm25 cd25 ct25 oc26 kV26 dc26 pm26 cd26 ct26 oc27 kV27 dc27 pm27 cd27 ct27 oc28 kV28 dc28 pm28 cd28 ct28 oc29 kV29 dc29 pm29 cd29 ct29 oc30 kV30 dc30 pm30 cd30 ct30 oc31 kV31 dc31 pm31 cd31 ct31 oc32 kV32 dc32 pm32 cd32 ct32 oc33 kV33 dc33 pm33 cd33 ct33 oc34 kV34 dc34 pm34 cd34 ct34 oc35 kV35 dc35 pm35 cd35 ct35 oc36 kV36 dc36 pm36 cd36 ct36 oc37 kV37 dc37 pm37 cd37 ct37 oc38 kV38 dc38 pm38 cd38 ct38 oc39 kV39 dc39 pm39 cd39 ct39 oc40 kV40 dc40 pm40 cd40 ct40 oc41 kV41 dc41 pm41 cd41 ct41 oc42 kV42 dc42 pm42 cd42 ct42 oc43 kV43 dc43 pm43 cd43 ct43 oc44 kV44 dc44 pm44 cd44 ct44 oc45 kV45 dc45 pm45 cd45 ct45 oc46 kV46 dc46 pm46 cd46 ct46 oc47 kV47 dc47 pm47 cd47 ct47 oc48 kV48 dc48 pm48 cd48 ct48 oc49 kV49 dc49 pm49 cd49 ct49 oc50 kV50 dc50 pm50 cd50 ct50 oc51 kV51 dc51 pm51 cd51 ct51 oc52 kV52 dc52 pm52 cd52 ct52 oc53 kV53 dc53 pm53 cd53 ct53 oc54 kV54 dc54 pm54 cd54 ct54 oc55 kV55 dc55 pm55 cd55 ct55 oc56 kV56 dc56 pm56 cd56 ct56 oc57 kV57 dc57 pm57 cd57 ct57 oc58 kV58 dc58 pm58 cd58 ct58 oc59 kV59 dc59 pm59 cd59 ct59 oc60 kV60 dc60 pm60 cd60 ct60 oc61 kV61 dc61 pm61 cd61 ct61 oc62 kV62 dc62 pm62 cd62 ct62 oc63 kV63 dc63 pm63 cd63 ct63 oc64 kV64 dc64 pm64 cd64 ct64 oc65 kV65 dc65 pm65 cd65 ct65 oc66 kV66 dc66 pm66 cd66 ct66 oc67 kV67 dc67 pm67 cd67 ct67 oc68 kV68 dc68 pm68 cd68 ct68 oc69 kV69 dc69 pm69 cd69 ct69 oc70 kV70 dc70 pm70 cd70 ct70 : Value}
    (qa11 : PySem.W.nsIn K mainGlobals "Game" = some (some (.ref q11))) (qb11 : PySem.W.plainGet K q11 Str.empty = true) (qc11 : PySem.W.hasDictIn K q11 = true) (qd11 : PySem.W.plainOver K q11 = true) (qe11 : PySem.W.findIn K (.ref q11) "__setattr__" = some (some (.builtin "object.__setattr__")))
    (qf11 : PySem.W.findIn K (.ref q11) "__class__" = some (some (.builtin "object.__class__"))) (qg11 : PySem.W.specialIn K (.builtin "object.__class__") "__get__" = some (some (.builtin "getset_descriptor.__get__"))) (qh11 : PySem.W.takesIn K (.builtin "object.__class__") = some true) (qi11 : PySem.W.mroIn K q11 (.type "object") = some true) (qj11 : PySem.W.selfFirst K q11 = true)
    (qa1 : PySem.W.nsIn K mainGlobals "Claims" = some (some (.ref q1))) (qb1 : PySem.W.plainGet K q1 Str.empty = true) (qc1 : PySem.W.hasDictIn K q1 = true) (qd1 : PySem.W.plainOver K q1 = true) (qe1 : PySem.W.findIn K (.ref q1) "__setattr__" = some (some (.builtin "object.__setattr__")))
    (qf1 : PySem.W.findIn K (.ref q1) "__class__" = some (some (.builtin "object.__class__"))) (qg1 : PySem.W.specialIn K (.builtin "object.__class__") "__get__" = some (some (.builtin "getset_descriptor.__get__"))) (qh1 : PySem.W.takesIn K (.builtin "object.__class__") = some true) (qi1 : PySem.W.mroIn K q1 (.type "object") = some true) (qj1 : PySem.W.selfFirst K q1 = true)
    (qa6 : PySem.W.nsIn K mainGlobals "Yard" = some (some (.ref q6))) (qb6 : PySem.W.plainGet K q6 Str.empty = true) (qc6 : PySem.W.hasDictIn K q6 = true) (qd6 : PySem.W.plainOver K q6 = true) (qe6 : PySem.W.findIn K (.ref q6) "__setattr__" = some (some (.builtin "object.__setattr__")))
    (qf6 : PySem.W.findIn K (.ref q6) "__class__" = some (some (.builtin "object.__class__"))) (qg6 : PySem.W.specialIn K (.builtin "object.__class__") "__get__" = some (some (.builtin "getset_descriptor.__get__"))) (qh6 : PySem.W.takesIn K (.builtin "object.__class__") = some true) (qi6 : PySem.W.mroIn K q6 (.type "object") = some true) (qj6 : PySem.W.selfFirst K q6 = true)
    (qa5 : PySem.W.nsIn K mainGlobals "Kind" = some (some (.ref q5))) (qb5 : PySem.W.plainGet K q5 Str.empty = true) (qc5 : PySem.W.hasDictIn K q5 = true) (qd5 : PySem.W.plainOver K q5 = true) (qe5 : PySem.W.findIn K (.ref q5) "__setattr__" = some (some (.builtin "object.__setattr__")))
    (qf5 : PySem.W.findIn K (.ref q5) "__class__" = some (some (.builtin "object.__class__"))) (qg5 : PySem.W.specialIn K (.builtin "object.__class__") "__get__" = some (some (.builtin "getset_descriptor.__get__"))) (qh5 : PySem.W.takesIn K (.builtin "object.__class__") = some true) (qi5 : PySem.W.mroIn K q5 (.type "object") = some true) (qj5 : PySem.W.selfFirst K q5 = true)
    (a1 : PySem.W.findIn K (.ref q1) "__init__" = some (some (.ref f1)))
    (l1 : K.lookup f1 = some ⟨oc1, od1, .func (PySem.W.fnOf "__init__" "Claims.__init__" (defArgs s_Claimsu_initu) (defBody s_Claimsu_initu) (defScope s_Claimsu_initu) .none kV1 dc1 pm1 an1 cd1 ct1), sl1⟩) (c1 : PySem.W.codeIn K cd1 "Claims.__init__" = true) (k1 : PySem.W.keepIn K (.ref f1) = true)
    (a2 : PySem.W.isFn K (.ref f2) = true)
    (l2 : K.lookup f2 = some ⟨oc2, od2, .func (PySem.W.fnOf "none" "Claims.none" (defArgs s_Claims_none) (defBody s_Claims_none) (defScope s_Claims_none) .none kV2 dc2 pm2 an2 cd2 ct2), sl2⟩) (c2 : PySem.W.codeIn K cd2 "Claims.none" = true) (k2 : PySem.W.keepIn K (.ref f2) = true)
    (a3 : PySem.W.findIn K (.ref q5) "car" = some (some (.ref f3)))
    (l3 : K.lookup f3 = some ⟨oc3, od3, .func (PySem.W.fnOf "car" "Kind.car" (defArgs s_Kind_car) (defBody s_Kind_car) (defScope s_Kind_car) .none kV3 dc3 pm3 an3 cd3 ct3), sl3⟩) (c3 : PySem.W.codeIn K cd3 "Kind.car" = true) (k3 : PySem.W.keepIn K (.ref f3) = true)
    (a4 : PySem.W.findIn K (.ref q6) "kind" = some (some (.ref f4)))
    (l4 : K.lookup f4 = some ⟨oc4, od4, .func (PySem.W.fnOf "kind" "Yard.kind" (defArgs s_Yard_kind) (defBody s_Yard_kind) (defScope s_Yard_kind) .none kV4 dc4 pm4 an4 cd4 ct4), sl4⟩) (c4 : PySem.W.codeIn K cd4 "Yard.kind" = true) (k4 : PySem.W.keepIn K (.ref f4) = true)
    (a5 : PySem.W.isFn K (.ref f5) = true)
    (l5 : K.lookup f5 = some ⟨oc5, od5, .func (PySem.W.fnOf "letter_count" "Yard.letter_count" (defArgs s_Yard_letter_count) (defBody s_Yard_letter_count) (defScope s_Yard_letter_count) .none kV5 dc5 pm5 an5 cd5 ct5), sl5⟩) (c5 : PySem.W.codeIn K cd5 "Yard.letter_count" = true) (k5 : PySem.W.keepIn K (.ref f5) = true)
    (a6 : PySem.W.findIn K (.ref q6) "batch" = some (some (.ref f6)))
    (l6 : K.lookup f6 = some ⟨oc6, od6, .func (PySem.W.fnOf "batch" "Yard.batch" (defArgs s_Yard_batch) (defBody s_Yard_batch) (defScope s_Yard_batch) .none kV6 dc6 pm6 an6 cd6 ct6), sl6⟩) (c6 : PySem.W.codeIn K cd6 "Yard.batch" = true) (k6 : PySem.W.keepIn K (.ref f6) = true)
    (a7 : PySem.W.nsIn K mainGlobals "after_answer" = some (some (.ref f7)))
    (l7 : K.lookup f7 = some ⟨oc7, od7, .func (PySem.W.fnOf "after_answer" "after_answer" (defArgs s_after_answer) (defBody s_after_answer) (defScope s_after_answer) .none kV7 dc7 pm7 an7 cd7 ct7), sl7⟩) (c7 : PySem.W.codeIn K cd7 "after_answer" = true) (k7 : PySem.W.keepIn K (.ref f7) = true)
    (a8 : PySem.W.nsIn K mainGlobals "all_answers" = some (some (.ref f8)))
    (l8 : K.lookup f8 = some ⟨oc8, od8, .func (PySem.W.fnOf "all_answers" "all_answers" (defArgs s_all_answers) (defBody s_all_answers) (defScope s_all_answers) .none kV8 dc8 pm8 an8 cd8 ct8), sl8⟩) (c8 : PySem.W.codeIn K cd8 "all_answers" = true) (k8 : PySem.W.keepIn K (.ref f8) = true)
    (a9 : PySem.W.findIn K (.ref q1) "__add__" = some (some (.ref f9)))
    (l9 : K.lookup f9 = some ⟨oc9, od9, .func (PySem.W.fnOf "__add__" "Claims.__add__" (defArgs s_Claimsu_addu) (defBody s_Claimsu_addu) (defScope s_Claimsu_addu) .none kV9 dc9 pm9 an9 cd9 ct9), sl9⟩) (c9 : PySem.W.codeIn K cd9 "Claims.__add__" = true) (k9 : PySem.W.keepIn K (.ref f9) = true)
    (a10 : PySem.W.findIn K (.ref q1) "__rshift__" = some (some (.ref f10)))
    (l10 : K.lookup f10 = some ⟨oc10, od10, .func (PySem.W.fnOf "__rshift__" "Claims.__rshift__" (defArgs s_Claimsu_rshiftu) (defBody s_Claimsu_rshiftu) (defScope s_Claimsu_rshiftu) .none kV10 dc10 pm10 an10 cd10 ct10), sl10⟩) (c10 : PySem.W.codeIn K cd10 "Claims.__rshift__" = true) (k10 : PySem.W.keepIn K (.ref f10) = true)
    (a11 : PySem.W.nsIn K mainGlobals "hours_in" = some (some (.ref f11)))
    (l11 : K.lookup f11 = some ⟨oc11, od11, .func (PySem.W.fnOf "hours_in" "hours_in" (defArgs s_hours_in) (defBody s_hours_in) (defScope s_hours_in) .none kV11 dc11 pm11 an11 cd11 ct11), sl11⟩) (c11 : PySem.W.codeIn K cd11 "hours_in" = true) (k11 : PySem.W.keepIn K (.ref f11) = true)
    (a12 : PySem.W.findIn K (.ref q1) "over" = some (some (.ref f12)))
    (l12 : K.lookup f12 = some ⟨oc12, od12, .func (PySem.W.fnOf "over" "Claims.over" (defArgs s_Claims_over) (defBody s_Claims_over) (defScope s_Claims_over) .none kV12 dc12 pm12 an12 cd12 ct12), sl12⟩) (c12 : PySem.W.codeIn K cd12 "Claims.over" = true) (k12 : PySem.W.keepIn K (.ref f12) = true)
    (a13 : PySem.W.findIn K (.ref q1) "fits" = some (some (.ref f13)))
    (l13 : K.lookup f13 = some ⟨oc13, od13, .func (PySem.W.fnOf "fits" "Claims.fits" (defArgs s_Claims_fits) (defBody s_Claims_fits) (defScope s_Claims_fits) .none kV13 dc13 pm13 an13 cd13 ct13), sl13⟩) (c13 : PySem.W.codeIn K cd13 "Claims.fits" = true) (k13 : PySem.W.keepIn K (.ref f13) = true)
    (a14 : PySem.W.nsIn K mainGlobals "car_demand" = some (some (.ref f14)))
    (l14 : K.lookup f14 = some ⟨oc14, od14, .func (PySem.W.fnOf "car_demand" "car_demand" (defArgs s_car_demand) (defBody s_car_demand) (defScope s_car_demand) .none kV14 dc14 pm14 an14 cd14 ct14), sl14⟩) (c14 : PySem.W.codeIn K cd14 "car_demand" = true) (k14 : PySem.W.keepIn K (.ref f14) = true)
    (a15 : PySem.W.isFn K (.ref f15) = true)
    (l15 : K.lookup f15 = some ⟨oc15, od15, .func (PySem.W.fnOf "of" "Claims.of" (defArgs s_Claims_of) (defBody s_Claims_of) (defScope s_Claims_of) .none kV15 dc15 pm15 an15 cd15 ct15), sl15⟩) (c15 : PySem.W.codeIn K cd15 "Claims.of" = true) (k15 : PySem.W.keepIn K (.ref f15) = true)
    (a16 : PySem.W.isFn K (.ref f16) = true)
    (l16 : K.lookup f16 = some ⟨oc16, od16, .func (PySem.W.fnOf "span" "Yard.span" (defArgs s_Yard_span) (defBody s_Yard_span) (defScope s_Yard_span) .none kV16 dc16 pm16 an16 cd16 ct16), sl16⟩) (c16 : PySem.W.codeIn K cd16 "Yard.span" = true) (k16 : PySem.W.keepIn K (.ref f16) = true)
    (a17 : PySem.W.nsIn K mainGlobals "next_claims" = some (some (.ref f17)))
    (l17 : K.lookup f17 = some ⟨oc17, od17, .func (PySem.W.fnOf "next_claims" "next_claims" (defArgs s_next_claims) (defBody s_next_claims) (defScope s_next_claims) .none kV17 dc17 pm17 an17 cd17 ct17), sl17⟩) (c17 : PySem.W.codeIn K cd17 "next_claims" = true) (k17 : PySem.W.keepIn K (.ref f17) = true)
    (a18 : PySem.W.nsIn K mainGlobals "pairs_of" = some (some (.ref f18)))
    (l18 : K.lookup f18 = some ⟨oc18, od18, .func (PySem.W.fnOf "pairs_of" "pairs_of" (defArgs s_pairs_of) (defBody s_pairs_of) (defScope s_pairs_of) .none kV18 dc18 pm18 an18 cd18 ct18), sl18⟩) (c18 : PySem.W.codeIn K cd18 "pairs_of" = true) (k18 : PySem.W.keepIn K (.ref f18) = true)
    (a19 : PySem.W.findIn K (.ref q11) "_answers_of" = some (some (.ref f19)))
    (l19 : K.lookup f19 = some ⟨oc19, od19, .func (PySem.W.fnOf "_answers_of" "Game._answers_of" (defArgs s_Gameuanswers_of) (defBody s_Gameuanswers_of) (defScope s_Gameuanswers_of) .none kV19 dc19 pm19 an19 cd19 ct19), sl19⟩) (c19 : PySem.W.codeIn K cd19 "Game._answers_of" = true) (k19 : PySem.W.keepIn K (.ref f19) = true)
    (a20 : PySem.W.findIn K (.ref q11) "_explore" = some (some (.ref f20)))
    (l20 : K.lookup f20 = some ⟨oc20, od20, .func (PySem.W.fnOf "_explore" "Game._explore" (defArgs s_Gameuexplore) (defBody s_Gameuexplore) (defScope s_Gameuexplore) .none kV20 dc20 pm20 an20 cd20 ct20), sl20⟩) (c20 : PySem.W.codeIn K cd20 "Game._explore" = true) (k20 : PySem.W.keepIn K (.ref f20) = true)
    (a21 : PySem.W.findIn K (.ref q11) "_threat_of" = some (some (.ref f21)))
    (l21 : K.lookup f21 = some ⟨oc21, od21, .func (PySem.W.fnOf "_threat_of" "Game._threat_of" (defArgs s_Gameuthreat_of) (defBody s_Gameuthreat_of) (defScope s_Gameuthreat_of) .none kV21 dc21 pm21 an21 cd21 ct21), sl21⟩) (c21 : PySem.W.codeIn K cd21 "Game._threat_of" = true) (k21 : PySem.W.keepIn K (.ref f21) = true)
    (a22 : PySem.W.findIn K (.ref q11) "_new_threats" = some (some (.ref f22)))
    (l22 : K.lookup f22 = some ⟨oc22, od22, .func (PySem.W.fnOf "_new_threats" "Game._new_threats" (defArgs s_Gameunew_threats) (defBody s_Gameunew_threats) (defScope s_Gameunew_threats) .none kV22 dc22 pm22 an22 cd22 ct22), sl22⟩) (c22 : PySem.W.codeIn K cd22 "Game._new_threats" = true) (k22 : PySem.W.keepIn K (.ref f22) = true)
    (a23 : PySem.W.findIn K (.ref q11) "_rank_states" = some (some (.ref f23)))
    (l23 : K.lookup f23 = some ⟨oc23, od23, .func (PySem.W.fnOf "_rank_states" "Game._rank_states" (defArgs s_Gameurank_states) (defBody s_Gameurank_states) (defScope s_Gameurank_states) .none kV23 dc23 pm23 an23 cd23 ct23), sl23⟩) (c23 : PySem.W.codeIn K cd23 "Game._rank_states" = true) (k23 : PySem.W.keepIn K (.ref f23) = true)
    (a24 : PySem.W.findIn K (.ref q11) "__init__" = some (some (.ref f24)))
    (l24 : K.lookup f24 = some ⟨oc24, od24, .func (PySem.W.fnOf "__init__" "Game.__init__" (defArgs s_Gameu_initu) (defBody s_Gameu_initu) (defScope s_Gameu_initu) .none (.ref kd24) dc24 pm24 an24 cd24 ct24), sl24⟩) (c24 : PySem.W.codeIn K cd24 "Game.__init__" = true) (k24 : PySem.W.keepIn K (.ref f24) = true)
    (a25 : PySem.W.findIn K (.ref q11) "__len__" = some (some (.ref f25)))
    (l25 : K.lookup f25 = some ⟨oc25, od25, .func (PySem.W.fnOf "__len__" "Game.__len__" (defArgs s_Gameu_lenu) (defBody s_Gameu_lenu) (defScope s_Gameu_lenu) .none kV25 dc25 pm25 an25 cd25 ct25), sl25⟩) (c25 : PySem.W.codeIn K cd25 "Game.__len__" = true) (k25 : PySem.W.keepIn K (.ref f25) = true)
    (a26 : PySem.W.isFn K (.ref f26) = true)
    (l26 : K.lookup f26 = some ⟨oc26, od26, .func (PySem.W.fnOf "holds" "Game.holds" (defArgs s_Game_holds) (defBody s_Game_holds) (defScope s_Game_holds) .none kV26 dc26 pm26 an26 cd26 ct26), sl26⟩) (c26 : PySem.W.codeIn K cd26 "Game.holds" = true) (k26 : PySem.W.keepIn K (.ref f26) = true)
    (a27 : PySem.W.nsIn K mainGlobals "_law_cell" = some (some (.ref f27)))
    (l27 : K.lookup f27 = some ⟨oc27, od27, .func (PySem.W.fnOf "_law_cell" "_law_cell" (defArgs s_law_cell) (defBody s_law_cell) (defScope s_law_cell) .none kV27 dc27 pm27 an27 cd27 ct27), sl27⟩) (c27 : PySem.W.codeIn K cd27 "_law_cell" = true) (k27 : PySem.W.keepIn K (.ref f27) = true)
    (a28 : PySem.W.nsIn K mainGlobals "_law_take" = some (some (.ref f28)))
    (l28 : K.lookup f28 = some ⟨oc28, od28, .func (PySem.W.fnOf "_law_take" "_law_take" (defArgs s_law_take) (defBody s_law_take) (defScope s_law_take) .none kV28 dc28 pm28 an28 cd28 ct28), sl28⟩) (c28 : PySem.W.codeIn K cd28 "_law_take" = true) (k28 : PySem.W.keepIn K (.ref f28) = true)
    (a29 : PySem.W.nsIn K mainGlobals "_law_names" = some (some (.ref f29)))
    (l29 : K.lookup f29 = some ⟨oc29, od29, .func (PySem.W.fnOf "_law_names" "_law_names" (defArgs s_law_names) (defBody s_law_names) (defScope s_law_names) .none kV29 dc29 pm29 an29 cd29 ct29), sl29⟩) (c29 : PySem.W.codeIn K cd29 "_law_names" = true) (k29 : PySem.W.keepIn K (.ref f29) = true)
    (a30 : PySem.W.nsIn K mainGlobals "_law_foe" = some (some (.ref f30)))
    (l30 : K.lookup f30 = some ⟨oc30, od30, .func (PySem.W.fnOf "_law_foe" "_law_foe" (defArgs s_law_foe) (defBody s_law_foe) (defScope s_law_foe) .none kV30 dc30 pm30 an30 cd30 ct30), sl30⟩) (c30 : PySem.W.codeIn K cd30 "_law_foe" = true) (k30 : PySem.W.keepIn K (.ref f30) = true)
    (a31 : PySem.W.findIn K (.ref q11) "_check" = some (some (.ref f31)))
    (l31 : K.lookup f31 = some ⟨oc31, od31, .func (PySem.W.fnOf "_check" "Game._check" (defArgs s_Gameucheck) (defBody s_Gameucheck) (defScope s_Gameucheck) .none kV31 dc31 pm31 an31 cd31 ct31), sl31⟩) (c31 : PySem.W.codeIn K cd31 "Game._check" = true) (k31 : PySem.W.keepIn K (.ref f31) = true)
    (a32 : PySem.W.findIn K (.ref q11) "threat" = some (some (.ref f32)))
    (l32 : K.lookup f32 = some ⟨oc32, od32, .func (PySem.W.fnOf "threat" "Game.threat" (defArgs s_Game_threat) (defBody s_Game_threat) (defScope s_Game_threat) .none kV32 dc32 pm32 an32 cd32 ct32), sl32⟩) (c32 : PySem.W.codeIn K cd32 "Game.threat" = true) (k32 : PySem.W.keepIn K (.ref f32) = true)
    (a33 : PySem.W.nsIn K mainGlobals "_law_falls" = some (some (.ref f33)))
    (l33 : K.lookup f33 = some ⟨oc33, od33, .func (PySem.W.fnOf "_law_falls" "_law_falls" (defArgs s_law_falls) (defBody s_law_falls) (defScope s_law_falls) .none kV33 dc33 pm33 an33 cd33 ct33), sl33⟩) (c33 : PySem.W.codeIn K cd33 "_law_falls" = true) (k33 : PySem.W.keepIn K (.ref f33) = true)
    (a34 : PySem.W.findIn K (.ref q11) "__contains__" = some (some (.ref f34)))
    (l34 : K.lookup f34 = some ⟨oc34, od34, .func (PySem.W.fnOf "__contains__" "Game.__contains__" (defArgs s_Gameu_containsu) (defBody s_Gameu_containsu) (defScope s_Gameu_containsu) .none kV34 dc34 pm34 an34 cd34 ct34), sl34⟩) (c34 : PySem.W.codeIn K cd34 "Game.__contains__" = true) (k34 : PySem.W.keepIn K (.ref f34) = true)
    (a35 : PySem.W.findIn K (.ref q11) "rank" = some (some (.ref f35)))
    (l35 : K.lookup f35 = some ⟨oc35, od35, .func (PySem.W.fnOf "rank" "Game.rank" (defArgs s_Game_rank) (defBody s_Game_rank) (defScope s_Game_rank) .none kV35 dc35 pm35 an35 cd35 ct35), sl35⟩) (c35 : PySem.W.codeIn K cd35 "Game.rank" = true) (k35 : PySem.W.keepIn K (.ref f35) = true)
    (a36 : PySem.W.nsIn K mainGlobals "_law_rank" = some (some (.ref f36)))
    (l36 : K.lookup f36 = some ⟨oc36, od36, .func (PySem.W.fnOf "_law_rank" "_law_rank" (defArgs s_law_rank) (defBody s_law_rank) (defScope s_law_rank) .none kV36 dc36 pm36 an36 cd36 ct36), sl36⟩) (c36 : PySem.W.codeIn K cd36 "_law_rank" = true) (k36 : PySem.W.keepIn K (.ref f36) = true)
    (a37 : PySem.W.nsIn K mainGlobals "_law_state" = some (some (.ref f37)))
    (l37 : K.lookup f37 = some ⟨oc37, od37, .func (PySem.W.fnOf "_law_state" "_law_state" (defArgs s_law_state) (defBody s_law_state) (defScope s_law_state) .none kV37 dc37 pm37 an37 cd37 ct37), sl37⟩) (c37 : PySem.W.codeIn K cd37 "_law_state" = true) (k37 : PySem.W.keepIn K (.ref f37) = true)
    (a38 : PySem.W.nsIn K mainGlobals "_law_next_ranks" = some (some (.ref f38)))
    (l38 : K.lookup f38 = some ⟨oc38, od38, .func (PySem.W.fnOf "_law_next_ranks" "_law_next_ranks" (defArgs s_law_next_ranks) (defBody s_law_next_ranks) (defScope s_law_next_ranks) .none kV38 dc38 pm38 an38 cd38 ct38), sl38⟩) (c38 : PySem.W.codeIn K cd38 "_law_next_ranks" = true) (k38 : PySem.W.keepIn K (.ref f38) = true)
    (a39 : PySem.W.nsIn K mainGlobals "_law_one_less" = some (some (.ref f39)))
    (l39 : K.lookup f39 = some ⟨oc39, od39, .func (PySem.W.fnOf "_law_one_less" "_law_one_less" (defArgs s_law_one_less) (defBody s_law_one_less) (defScope s_law_one_less) .none kV39 dc39 pm39 an39 cd39 ct39), sl39⟩) (c39 : PySem.W.codeIn K cd39 "_law_one_less" = true) (k39 : PySem.W.keepIn K (.ref f39) = true)
    (a40 : PySem.W.nsIn K mainGlobals "_law_same" = some (some (.ref f40)))
    (l40 : K.lookup f40 = some ⟨oc40, od40, .func (PySem.W.fnOf "_law_same" "_law_same" (defArgs s_law_same) (defBody s_law_same) (defScope s_law_same) .none kV40 dc40 pm40 an40 cd40 ct40), sl40⟩) (c40 : PySem.W.codeIn K cd40 "_law_same" = true) (k40 : PySem.W.keepIn K (.ref f40) = true)
    (a41 : PySem.W.nsIn K mainGlobals "_law_ahead" = some (some (.ref f41)))
    (l41 : K.lookup f41 = some ⟨oc41, od41, .func (PySem.W.fnOf "_law_ahead" "_law_ahead" (defArgs s_law_ahead) (defBody s_law_ahead) (defScope s_law_ahead) .none kV41 dc41 pm41 an41 cd41 ct41), sl41⟩) (c41 : PySem.W.codeIn K cd41 "_law_ahead" = true) (k41 : PySem.W.keepIn K (.ref f41) = true)
    (a42 : PySem.W.nsIn K mainGlobals "_law_pairs" = some (some (.ref f42)))
    (l42 : K.lookup f42 = some ⟨oc42, od42, .func (PySem.W.fnOf "_law_pairs" "_law_pairs" (defArgs s_law_pairs) (defBody s_law_pairs) (defScope s_law_pairs) .none kV42 dc42 pm42 an42 cd42 ct42), sl42⟩) (c42 : PySem.W.codeIn K cd42 "_law_pairs" = true) (k42 : PySem.W.keepIn K (.ref f42) = true)
    (a43 : PySem.W.nsIn K mainGlobals "_law_answered" = some (some (.ref f43)))
    (l43 : K.lookup f43 = some ⟨oc43, od43, .func (PySem.W.fnOf "_law_answered" "_law_answered" (defArgs s_law_answered) (defBody s_law_answered) (defScope s_law_answered) .none kV43 dc43 pm43 an43 cd43 ct43), sl43⟩) (c43 : PySem.W.codeIn K cd43 "_law_answered" = true) (k43 : PySem.W.keepIn K (.ref f43) = true)
    (a44 : PySem.W.nsIn K mainGlobals "_law_answers" = some (some (.ref f44)))
    (l44 : K.lookup f44 = some ⟨oc44, od44, .func (PySem.W.fnOf "_law_answers" "_law_answers" (defArgs s_law_answers) (defBody s_law_answers) (defScope s_law_answers) .none kV44 dc44 pm44 an44 cd44 ct44), sl44⟩) (c44 : PySem.W.codeIn K cd44 "_law_answers" = true) (k44 : PySem.W.keepIn K (.ref f44) = true)
    (a45 : PySem.W.nsIn K mainGlobals "_law_coming" = some (some (.ref f45)))
    (l45 : K.lookup f45 = some ⟨oc45, od45, .func (PySem.W.fnOf "_law_coming" "_law_coming" (defArgs s_law_coming) (defBody s_law_coming) (defScope s_law_coming) .none kV45 dc45 pm45 an45 cd45 ct45), sl45⟩) (c45 : PySem.W.codeIn K cd45 "_law_coming" = true) (k45 : PySem.W.keepIn K (.ref f45) = true)
    (a46 : PySem.W.nsIn K mainGlobals "_law_joined" = some (some (.ref f46)))
    (l46 : K.lookup f46 = some ⟨oc46, od46, .func (PySem.W.fnOf "_law_joined" "_law_joined" (defArgs s_law_joined) (defBody s_law_joined) (defScope s_law_joined) .none kV46 dc46 pm46 an46 cd46 ct46), sl46⟩) (c46 : PySem.W.codeIn K cd46 "_law_joined" = true) (k46 : PySem.W.keepIn K (.ref f46) = true)
    (a47 : PySem.W.nsIn K mainGlobals "_law_after" = some (some (.ref f47)))
    (l47 : K.lookup f47 = some ⟨oc47, od47, .func (PySem.W.fnOf "_law_after" "_law_after" (defArgs s_law_after) (defBody s_law_after) (defScope s_law_after) .none kV47 dc47 pm47 an47 cd47 ct47), sl47⟩) (c47 : PySem.W.codeIn K cd47 "_law_after" = true) (k47 : PySem.W.keepIn K (.ref f47) = true)
    (a48 : PySem.W.nsIn K mainGlobals "_law_ones" = some (some (.ref f48)))
    (l48 : K.lookup f48 = some ⟨oc48, od48, .func (PySem.W.fnOf "_law_ones" "_law_ones" (defArgs s_law_ones) (defBody s_law_ones) (defScope s_law_ones) .none kV48 dc48 pm48 an48 cd48 ct48), sl48⟩) (c48 : PySem.W.codeIn K cd48 "_law_ones" = true) (k48 : PySem.W.keepIn K (.ref f48) = true)
    (a49 : PySem.W.nsIn K mainGlobals "_law_over" = some (some (.ref f49)))
    (l49 : K.lookup f49 = some ⟨oc49, od49, .func (PySem.W.fnOf "_law_over" "_law_over" (defArgs s_law_over) (defBody s_law_over) (defScope s_law_over) .none kV49 dc49 pm49 an49 cd49 ct49), sl49⟩) (c49 : PySem.W.codeIn K cd49 "_law_over" = true) (k49 : PySem.W.keepIn K (.ref f49) = true)
    (a50 : PySem.W.nsIn K mainGlobals "_law_asks" = some (some (.ref f50)))
    (l50 : K.lookup f50 = some ⟨oc50, od50, .func (PySem.W.fnOf "_law_asks" "_law_asks" (defArgs s_law_asks) (defBody s_law_asks) (defScope s_law_asks) .none kV50 dc50 pm50 an50 cd50 ct50), sl50⟩) (c50 : PySem.W.codeIn K cd50 "_law_asks" = true) (k50 : PySem.W.keepIn K (.ref f50) = true)
    (a51 : PySem.W.nsIn K mainGlobals "_law_with" = some (some (.ref f51)))
    (l51 : K.lookup f51 = some ⟨oc51, od51, .func (PySem.W.fnOf "_law_with" "_law_with" (defArgs s_law_with) (defBody s_law_with) (defScope s_law_with) .none kV51 dc51 pm51 an51 cd51 ct51), sl51⟩) (c51 : PySem.W.codeIn K cd51 "_law_with" = true) (k51 : PySem.W.keepIn K (.ref f51) = true)
    (a52 : PySem.W.nsIn K mainGlobals "_law_next" = some (some (.ref f52)))
    (l52 : K.lookup f52 = some ⟨oc52, od52, .func (PySem.W.fnOf "_law_next" "_law_next" (defArgs s_law_next) (defBody s_law_next) (defScope s_law_next) .none kV52 dc52 pm52 an52 cd52 ct52), sl52⟩) (c52 : PySem.W.codeIn K cd52 "_law_next" = true) (k52 : PySem.W.keepIn K (.ref f52) = true)
    (a53 : PySem.W.nsIn K mainGlobals "_law_turn" = some (some (.ref f53)))
    (l53 : K.lookup f53 = some ⟨oc53, od53, .func (PySem.W.fnOf "_law_turn" "_law_turn" (defArgs s_law_turn) (defBody s_law_turn) (defScope s_law_turn) .none kV53 dc53 pm53 an53 cd53 ct53), sl53⟩) (c53 : PySem.W.codeIn K cd53 "_law_turn" = true) (k53 : PySem.W.keepIn K (.ref f53) = true)
    (a54 : PySem.W.nsIn K mainGlobals "_law_judged" = some (some (.ref f54)))
    (l54 : K.lookup f54 = some ⟨oc54, od54, .func (PySem.W.fnOf "_law_judged" "_law_judged" (defArgs s_law_judged) (defBody s_law_judged) (defScope s_law_judged) .none kV54 dc54 pm54 an54 cd54 ct54), sl54⟩) (c54 : PySem.W.codeIn K cd54 "_law_judged" = true) (k54 : PySem.W.keepIn K (.ref f54) = true)
    (a55 : PySem.W.nsIn K mainGlobals "is_name" = some (some (.ref f55)))
    (l55 : K.lookup f55 = some ⟨oc55, od55, .func (PySem.W.fnOf "is_name" "is_name" (defArgs s_is_name) (defBody s_is_name) (defScope s_is_name) .none kV55 dc55 pm55 an55 cd55 ct55), sl55⟩) (c55 : PySem.W.codeIn K cd55 "is_name" = true) (k55 : PySem.W.keepIn K (.ref f55) = true)
    (a56 : PySem.W.findIn K (.ref q5) "__init__" = some (some (.ref f56)))
    (l56 : K.lookup f56 = some ⟨oc56, od56, .func (PySem.W.fnOf "__init__" "Kind.__init__" (defArgs s_Kindu_initu) (defBody s_Kindu_initu) (defScope s_Kindu_initu) .none kV56 dc56 pm56 an56 cd56 ct56), sl56⟩) (c56 : PySem.W.codeIn K cd56 "Kind.__init__" = true) (k56 : PySem.W.keepIn K (.ref f56) = true)
    (a57 : PySem.W.findIn K (.ref q6) "_check_kinds" = some (some (.ref f57)))
    (l57 : K.lookup f57 = some ⟨oc57, od57, .func (PySem.W.fnOf "_check_kinds" "Yard._check_kinds" (defArgs s_Yarducheck_kinds) (defBody s_Yarducheck_kinds) (defScope s_Yarducheck_kinds) .none kV57 dc57 pm57 an57 cd57 ct57), sl57⟩) (c57 : PySem.W.codeIn K cd57 "Yard._check_kinds" = true) (k57 : PySem.W.keepIn K (.ref f57) = true)
    (a58 : PySem.W.findIn K (.ref q6) "_check_menu" = some (some (.ref f58)))
    (l58 : K.lookup f58 = some ⟨oc58, od58, .func (PySem.W.fnOf "_check_menu" "Yard._check_menu" (defArgs s_Yarducheck_menu) (defBody s_Yarducheck_menu) (defScope s_Yarducheck_menu) .none kV58 dc58 pm58 an58 cd58 ct58), sl58⟩) (c58 : PySem.W.codeIn K cd58 "Yard._check_menu" = true) (k58 : PySem.W.keepIn K (.ref f58) = true)
    (a59 : PySem.W.findIn K (.ref q6) "__init__" = some (some (.ref f59)))
    (l59 : K.lookup f59 = some ⟨oc59, od59, .func (PySem.W.fnOf "__init__" "Yard.__init__" (defArgs s_Yardu_initu) (defBody s_Yardu_initu) (defScope s_Yardu_initu) .none kV59 dc59 pm59 an59 cd59 ct59), sl59⟩) (c59 : PySem.W.codeIn K cd59 "Yard.__init__" = true) (k59 : PySem.W.keepIn K (.ref f59) = true)
    (a60 : PySem.W.nsIn K mainGlobals "_law_made" = some (some (.ref f60)))
    (l60 : K.lookup f60 = some ⟨oc60, od60, .func (PySem.W.fnOf "_law_made" "_law_made" (defArgs s_law_made) (defBody s_law_made) (defScope s_law_made) .none kV60 dc60 pm60 an60 cd60 ct60), sl60⟩) (c60 : PySem.W.codeIn K cd60 "_law_made" = true) (k60 : PySem.W.keepIn K (.ref f60) = true)
    (a61 : PySem.W.nsIn K mainGlobals "_law_span" = some (some (.ref f61)))
    (l61 : K.lookup f61 = some ⟨oc61, od61, .func (PySem.W.fnOf "_law_span" "_law_span" (defArgs s_law_span) (defBody s_law_span) (defScope s_law_span) .none kV61 dc61 pm61 an61 cd61 ct61), sl61⟩) (c61 : PySem.W.codeIn K cd61 "_law_span" = true) (k61 : PySem.W.keepIn K (.ref f61) = true)
    (a62 : PySem.W.nsIn K mainGlobals "_law_nothing" = some (some (.ref f62)))
    (l62 : K.lookup f62 = some ⟨oc62, od62, .func (PySem.W.fnOf "_law_nothing" "_law_nothing" (defArgs s_law_nothing) (defBody s_law_nothing) (defScope s_law_nothing) .none kV62 dc62 pm62 an62 cd62 ct62), sl62⟩) (c62 : PySem.W.codeIn K cd62 "_law_nothing" = true) (k62 : PySem.W.keepIn K (.ref f62) = true)
    (a63 : PySem.W.nsIn K mainGlobals "_law_pool" = some (some (.ref f63)))
    (l63 : K.lookup f63 = some ⟨oc63, od63, .func (PySem.W.fnOf "_law_pool" "_law_pool" (defArgs s_law_pool) (defBody s_law_pool) (defScope s_law_pool) .none kV63 dc63 pm63 an63 cd63 ct63), sl63⟩) (c63 : PySem.W.codeIn K cd63 "_law_pool" = true) (k63 : PySem.W.keepIn K (.ref f63) = true)
    (a64 : PySem.W.nsIn K mainGlobals "_law_words" = some (some (.ref f64)))
    (l64 : K.lookup f64 = some ⟨oc64, od64, .func (PySem.W.fnOf "_law_words" "_law_words" (defArgs s_law_words) (defBody s_law_words) (defScope s_law_words) .none kV64 dc64 pm64 an64 cd64 ct64), sl64⟩) (c64 : PySem.W.codeIn K cd64 "_law_words" = true) (k64 : PySem.W.keepIn K (.ref f64) = true)
    (a65 : PySem.W.nsIn K mainGlobals "_law_batches" = some (some (.ref f65)))
    (l65 : K.lookup f65 = some ⟨oc65, od65, .func (PySem.W.fnOf "_law_batches" "_law_batches" (defArgs s_law_batches) (defBody s_law_batches) (defScope s_law_batches) .none kV65 dc65 pm65 an65 cd65 ct65), sl65⟩) (c65 : PySem.W.codeIn K cd65 "_law_batches" = true) (k65 : PySem.W.keepIn K (.ref f65) = true)
    (a66 : PySem.W.nsIn K mainGlobals "_law_lot" = some (some (.ref f66)))
    (l66 : K.lookup f66 = some ⟨oc66, od66, .func (PySem.W.fnOf "_law_lot" "_law_lot" (defArgs s_law_lot) (defBody s_law_lot) (defScope s_law_lot) .none kV66 dc66 pm66 an66 cd66 ct66), sl66⟩) (c66 : PySem.W.codeIn K cd66 "_law_lot" = true) (k66 : PySem.W.keepIn K (.ref f66) = true)
    (a67 : PySem.W.nsIn K mainGlobals "_law_lean" = some (some (.ref f67)))
    (l67 : K.lookup f67 = some ⟨oc67, od67, .func (PySem.W.fnOf "_law_lean" "_law_lean" (defArgs s_law_lean) (defBody s_law_lean) (defScope s_law_lean) .none kV67 dc67 pm67 an67 cd67 ct67), sl67⟩) (c67 : PySem.W.codeIn K cd67 "_law_lean" = true) (k67 : PySem.W.keepIn K (.ref f67) = true)
    (a68 : PySem.W.nsIn K mainGlobals "_law_wide" = some (some (.ref f68)))
    (l68 : K.lookup f68 = some ⟨oc68, od68, .func (PySem.W.fnOf "_law_wide" "_law_wide" (defArgs s_law_wide) (defBody s_law_wide) (defScope s_law_wide) .none kV68 dc68 pm68 an68 cd68 ct68), sl68⟩) (c68 : PySem.W.codeIn K cd68 "_law_wide" = true) (k68 : PySem.W.keepIn K (.ref f68) = true)
    (a69 : PySem.W.nsIn K mainGlobals "_law_yard" = some (some (.ref f69)))
    (l69 : K.lookup f69 = some ⟨oc69, od69, .func (PySem.W.fnOf "_law_yard" "_law_yard" (defArgs s_law_yard) (defBody s_law_yard) (defScope s_law_yard) .none kV69 dc69 pm69 an69 cd69 ct69), sl69⟩) (c69 : PySem.W.codeIn K cd69 "_law_yard" = true) (k69 : PySem.W.keepIn K (.ref f69) = true)
    (a70 : PySem.W.nsIn K mainGlobals "law" = some (some (.ref f70)))
    (l70 : K.lookup f70 = some ⟨oc70, od70, .func (PySem.W.fnOf "law" "law" (defArgs s_law) (defBody s_law) (defScope s_law) .none kV70 dc70 pm70 an70 cd70 ct70), sl70⟩) (c70 : PySem.W.codeIn K cd70 "law" = true) (k70 : PySem.W.keepIn K (.ref f70) = true)
    (ma11 : PySem.W.makesIn K q11 = true)
    (mb11 : PySem.W.isFn K (.ref f24) = true)
    (mc11 : PySem.W.keepIn K (.ref q11) = true)
    (ma1 : PySem.W.makesIn K q1 = true)
    (mb1 : PySem.W.isFn K (.ref f1) = true)
    (mc1 : PySem.W.keepIn K (.ref q1) = true)
    (ma5 : PySem.W.makesIn K q5 = true)
    (mb5 : PySem.W.isFn K (.ref f56) = true)
    (mc5 : PySem.W.keepIn K (.ref q5) = true)
    (ma6 : PySem.W.makesIn K q6 = true)
    (mb6 : PySem.W.isFn K (.ref f59) = true)
    (mc6 : PySem.W.keepIn K (.ref q6) = true)
    (na0 : PySem.W.findIn K (.ref q1) "table" = some none)
    (na1 : PySem.W.findIn K (.ref q11) "_answers" = some none)
    (na2 : PySem.W.findIn K (.ref q11) "_found" = some none)
    (na3 : PySem.W.findIn K (.ref q11) "_numbers" = some none)
    (na4 : PySem.W.findIn K (.ref q11) "_ranks" = some none)
    (na5 : PySem.W.findIn K (.ref q11) "_states" = some none)
    (na6 : PySem.W.findIn K (.ref q11) "_threats" = some none)
    (na7 : PySem.W.findIn K (.ref q11) "yard" = some none)
    (na8 : PySem.W.findIn K (.ref q5) "name" = some none)
    (na9 : PySem.W.findIn K (.ref q5) "need" = some none)
    (na10 : PySem.W.findIn K (.ref q5) "stay" = some none)
    (na11 : PySem.W.findIn K (.ref q6) "kinds" = some none)
    (na12 : PySem.W.findIn K (.ref q6) "menu" = some none)
    (na13 : PySem.W.findIn K (.ref q6) "width" = some none)
    (me0 : PySem.W.isFn K (.ref f25) = true)
    (me1 : PySem.W.isFn K (.ref f20) = true)
    (me2 : PySem.W.isFn K (.ref f23) = true)
    (me3 : PySem.W.isFn K (.ref f19) = true)
    (me4 : PySem.W.isFn K (.ref f6) = true)
    (me5 : PySem.W.isFn K (.ref f3) = true)
    (me6 : PySem.W.isFn K (.ref f4) = true)
    (me7 : PySem.W.isFn K (.ref f9) = true)
    (me8 : PySem.W.isFn K (.ref f13) = true)
    (me9 : PySem.W.isFn K (.ref f10) = true)
    (me10 : PySem.W.isFn K (.ref f12) = true)
    (me11 : PySem.W.isFn K (.ref f22) = true)
    (me12 : PySem.W.isFn K (.ref f21) = true)
    (me13 : PySem.W.isFn K (.ref f32) = true)
    (me14 : PySem.W.isFn K (.ref f31) = true)
    (me15 : PySem.W.isFn K (.ref f34) = true)
    (me16 : PySem.W.isFn K (.ref f35) = true)
    (me17 : PySem.W.isFn K (.ref f57) = true)
    (me18 : PySem.W.isFn K (.ref f58) = true)
    (kw24_most : PySem.W.nsIn K kd24 "most" = some (some (.int 400 kt24_most)))
    (pa0 : PySem.W.findIn K (.ref q11) "holds" = some (some (.ref po0)))
    (pb0 : PySem.W.specialIn K (.ref po0) "__get__" = some (some (.builtin "property.__get__")))
    (pc0 : PySem.W.takesIn K (.ref po0) = some true)
    (pd0 : PySem.W.recIn K po0 "property" = some (.ref f26 :: pr0))
    (pa1 : PySem.W.findIn K (.ref q6) "span" = some (some (.ref po1)))
    (pb1 : PySem.W.specialIn K (.ref po1) "__get__" = some (some (.builtin "property.__get__")))
    (pc1 : PySem.W.takesIn K (.ref po1) = some true)
    (pd1 : PySem.W.recIn K po1 "property" = some (.ref f16 :: pr1))
    (pa2 : PySem.W.findIn K (.ref q6) "letter_count" = some (some (.ref po2)))
    (pb2 : PySem.W.specialIn K (.ref po2) "__get__" = some (some (.builtin "property.__get__")))
    (pc2 : PySem.W.takesIn K (.ref po2) = some true)
    (pd2 : PySem.W.recIn K po2 "property" = some (.ref f5 :: pr2))
    (ra0 : PySem.W.readsIn K q1 (.type "type") = true)
    (rb0 : PySem.W.specialIn K (.ref q1) "__getattribute__" = some (some (.builtin "type.__getattribute__")))
    (ra1 : PySem.W.readsIn K q6 (.type "type") = true)
    (rb1 : PySem.W.specialIn K (.ref q6) "__getattribute__" = some (some (.builtin "type.__getattribute__")))
    (cy0 : PySem.W.findCls K (.ref q6) (.type "type") "MOST_KINDS" = some (.val (.int 6 cx0)))
    (cy1 : PySem.W.findCls K (.ref q6) (.type "type") "MOST_BATCHES" = some (.val (.int 4 cx1)))
    (cy2 : PySem.W.findCls K (.ref q6) (.type "type") "MOST_CARS" = some (.val (.int 3 cx2)))
    (ua0 : PySem.W.findCls K (.ref q1) (.type "type") "none" = some (.get (.builtin "classmethod.__get__") (.ref cp0) .none (.ref q1)))
    (ub0 : PySem.W.recIn K cp0 "classmethod" = some (.ref f2 :: cr0))
    (uc0 : PySem.W.fnIn K f2 = true)
    (ua1 : PySem.W.findCls K (.ref q1) (.type "type") "of" = some (.get (.builtin "classmethod.__get__") (.ref cp1) .none (.ref q1)))
    (ub1 : PySem.W.recIn K cp1 "classmethod" = some (.ref f15 :: cr1))
    (uc1 : PySem.W.fnIn K f15 = true)
    (qt1 : PySem.W.typeIn K (.ref q1) = some (.type "type"))
    (kt0 : PySem.W.subIn K (.type "NoneType") (.ref q1) = some false)
    (kt1 : PySem.W.subIn K (.type "int") (.ref q1) = some false)
    (or0 : PySem.W.findIn K (.ref q1) (PySem.dunderR (Operator.RShift).info.2) = some none)
    (of0 : PySem.W.findIn K (.type "int") (PySem.dunder (Operator.RShift).info.2) = some ov0)
    (og0 : PySem.W.findIn K (.type "int") (PySem.dunderR (Operator.RShift).info.2) = some ow0)
    (os0 : PySem.W.subIn K (.type "int") (.ref q1) = some false)
    (kx0 : PySem.W.nsIn K mainGlobals "LONGEST_STAY" = some (some (.int 4 tc0)))
    (kx1 : PySem.W.nsIn K mainGlobals "LONGEST_NAME" = some (some (.int 8 tc1)))
    (kx2 : PySem.W.nsIn K mainGlobals "SMALL_LETTERS" = some (some (.str (PySem.Str.ofString "abcdefghijklmnopqrstuvwxyz") tc2)))
    (eL31 : K.lookup q31 = some (PySem.excClassObj nm31 qn31 q31 N31 bs31 bm31 true sn31 sb31 ab31 co31 dd31 m031 m131 m231 m331 m531 "ValueError.__new__"))
    (eM31 : PySem.HandSPX.refsVE bm31 = true)
    (es31 : PySem.W.findIn K (.ref q31) "__setattr__" = some (some (.builtin "object.__setattr__")))
    (ea31 : PySem.W.findIn K (.ref q31) "__init__" = some (some (.ref fx31)))
    (et31 : PySem.W.typeIn K (.ref fx31) = some (.type "function"))
    (ev31 : PySem.W.subIn K (.ref q31) (.type "ValueError") = some true)
    (eu31 : PySem.W.ks_superIn K q31 q31 "__init__" = some (some (.builtin "ValueError.__init__")))
    (ek31 : PySem.W.mroIn K q31 (.ref q31) = some true)
    (eo31 : PySem.W.nsIn K PySem.cStatics "thirdparty.any" = some none)
    (ep31 : (P.main.scope.names.lookup ("super" : Str)).isSome = false)
    (en31 : PySem.W.findIn K (.ref q31) "most" = some none)
    (el31 : K.lookup fx31 = some ⟨oc_31, od_31, .func (PySem.W.ksFn "__init__" "TooManyStates.__init__" (defArgs s_TooManyStatesu_initu) (defBody s_TooManyStatesu_initu) (defScope s_TooManyStatesu_initu) .none .none doc31 pm_31 an_31 (.ref cda31) ct_31 cc31), osl31⟩)
    (ec31 : PySem.W.codeIn K (.ref cda31) "TooManyStates.__init__" = true)
    (ed31 : K.lookup cda31 = some ⟨ccl31, cdd31, .fields vs31, ccs31⟩)
    (ef31 : vs31[2]? = some (.str fi_31 tf31))
    (eg31 : ((P.main.file : Str) == fi_31) = true)
    (eh31 : K.lookup cc31 = some ⟨cl_31, cld31, .cell (some (.ref q31)), csl31⟩)
    (ya31 : PySem.W.findIn K (.ref q31) "__getattribute__" = some (some (.builtin "BaseException.__getattribute__")))
    (yb31 : PySem.W.findIn K (.ref q31) "__getattr__" = some none)
    (yc31 : PySem.W.findIn K (.ref q31) "__class__" = some (some (.builtin "object.__class__")))
    (yd31 : PySem.W.specialIn K (.builtin "object.__class__") "__get__" = some (some (.builtin "getset_descriptor.__get__")))
    (ye31 : PySem.W.takesIn K (.builtin "object.__class__") = some true)
    (yf31 : PySem.W.mroIn K q31 (.type "object") = some true)
    (yn0 : PySem.W.findIn K (.ref q31) "most" = some none)
    (xa31 : PySem.W.nsIn K mainGlobals "TooManyStates" = some (some (.ref q31)))
    (xc31 : PySem.W.keepIn K (.ref q31) = true)
    (xd31 : PySem.W.subIn K (.ref q31) (.type "BaseException") = some true)
    (xe31 : PySem.W.typeIn K (.ref q31) = some (.type "type"))
    (xf31 : PySem.W.hasDictIn K q31 = true)
    (xa30 : PySem.W.nsIn K mainGlobals "UnknownState" = some (some (.ref q30)))
    (xb30 : PySem.W.excIn K q30 [.type "ValueError", .type "Exception", .type "BaseException", .type "object"] "ValueError.__new__" = true)
    (xc30 : PySem.W.keepIn K (.ref q30) = true)
    (xd30 : PySem.W.subIn K (.ref q30) (.type "BaseException") = some true)
    (xe30 : PySem.W.typeIn K (.ref q30) = some (.type "type"))
    (xf30 : PySem.W.hasDictIn K q30 = true)
    (xm0 : PySem.W.subIn K (.ref q31) (.ref q31) = some true)
    (z1 : PySem.W.nsIn K mainGlobals "abs" = some none)
    (z2 : PySem.W.nsIn K mainGlobals "all" = some none)
    (z3 : PySem.W.nsIn K mainGlobals "bool" = some none)
    (z4 : PySem.W.nsIn K mainGlobals "enumerate" = some none)
    (z5 : PySem.W.nsIn K mainGlobals "int" = some none)
    (z6 : PySem.W.nsIn K mainGlobals "isinstance" = some none)
    (z7 : PySem.W.nsIn K mainGlobals "len" = some none)
    (z8 : PySem.W.nsIn K mainGlobals "list" = some none)
    (z9 : PySem.W.nsIn K mainGlobals "max" = some none)
    (z10 : PySem.W.nsIn K mainGlobals "min" = some none)
    (z11 : PySem.W.nsIn K mainGlobals "range" = some none)
    (z12 : PySem.W.nsIn K mainGlobals "sorted" = some none)
    (z13 : PySem.W.nsIn K mainGlobals "str" = some none)
    (z14 : PySem.W.nsIn K mainGlobals "sum" = some none)
    (z15 : PySem.W.nsIn K mainGlobals "super" = some none)
    (z16 : PySem.W.nsIn K mainGlobals "tuple" = some none)
    (z17 : PySem.W.nsIn K mainGlobals "zip" = some none)
    : ∃ fd : FuncData, (∀ (s : Shared) (v : Value), BindsTo s fd ⟨[v], []⟩ [("_law_script", v)]) ∧ ∀ base : Heap, K.In base → base.Ns mainGlobals mg → FnOk P w K mg base (CXm K P w) 15 fa fd ["_law_script"] (spLaw K) := by
  have e := hfa.symm.trans (PySem.W.mg_of X G a70)
  cases e
  have F1 := fun_mk (st := s_Claimsu_initu) l1 c1 k1
  have b1 := F1.binds (ps := ["self", "table"]) fun _ _ _ _ _ _ us hl => match us, hl with | [_, _], _ => rfl
  have F2 := fun_mk (st := s_Claims_none) l2 c2 k2
  have b2 := F2.binds (ps := ["cls", "span"]) fun _ _ _ _ _ _ us hl => match us, hl with | [_, _], _ => rfl
  have F3 := fun_mk (st := s_Kind_car) l3 c3 k3
  have b3 := F3.binds (ps := ["self"]) fun _ _ _ _ _ _ us hl => match us, hl with | [_], _ => rfl
  have F4 := fun_mk (st := s_Yard_kind) l4 c4 k4
  have b4 := F4.binds (ps := ["self", "name"]) fun _ _ _ _ _ _ us hl => match us, hl with | [_, _], _ => rfl
  have F5 := fun_mk (st := s_Yard_letter_count) l5 c5 k5
  have b5 := F5.binds (ps := ["self"]) fun _ _ _ _ _ _ us hl => match us, hl with | [_], _ => rfl
  have F6 := fun_mk (st := s_Yard_batch) l6 c6 k6
  have b6 := F6.binds (ps := ["self", "letter"]) fun _ _ _ _ _ _ us hl => match us, hl with | [_, _], _ => rfl
  have F7 := fun_mk (st := s_after_answer) l7 c7 k7
  have b7 := F7.binds (ps := ["pairs", "answer"]) fun _ _ _ _ _ _ us hl => match us, hl with | [_, _], _ => rfl
  have F8 := fun_mk (st := s_all_answers) l8 c8 k8
  have b8 := F8.binds (ps := ["pairs", "width"]) fun _ _ _ _ _ _ us hl => match us, hl with | [_, _], _ => rfl
  have F9 := fun_mk (st := s_Claimsu_addu) l9 c9 k9
  have b9 := F9.binds (ps := ["self", "other"]) fun _ _ _ _ _ _ us hl => match us, hl with | [_, _], _ => rfl
  have F10 := fun_mk (st := s_Claimsu_rshiftu) l10 c10 k10
  have b10 := F10.binds (ps := ["self", "width"]) fun _ _ _ _ _ _ us hl => match us, hl with | [_, _], _ => rfl
  have F11 := fun_mk (st := s_hours_in) l11 c11 k11
  have b11 := F11.binds (ps := ["mask"]) fun _ _ _ _ _ _ us hl => match us, hl with | [_], _ => rfl
  have F12 := fun_mk (st := s_Claims_over) l12 c12 k12
  have b12 := F12.binds (ps := ["self", "width"]) fun _ _ _ _ _ _ us hl => match us, hl with | [_, _], _ => rfl
  have F13 := fun_mk (st := s_Claims_fits) l13 c13 k13
  have b13 := F13.binds (ps := ["self", "width"]) fun _ _ _ _ _ _ us hl => match us, hl with | [_, _], _ => rfl
  have F14 := fun_mk (st := s_car_demand) l14 c14 k14
  have b14 := F14.binds (ps := ["car", "mask"]) fun _ _ _ _ _ _ us hl => match us, hl with | [_, _], _ => rfl
  have F15 := fun_mk (st := s_Claims_of) l15 c15 k15
  have b15 := F15.binds (ps := ["cls", "span", "cars"]) fun _ _ _ _ _ _ us hl => match us, hl with | [_, _, _], _ => rfl
  have F16 := fun_mk (st := s_Yard_span) l16 c16 k16
  have b16 := F16.binds (ps := ["self"]) fun _ _ _ _ _ _ us hl => match us, hl with | [_], _ => rfl
  have F17 := fun_mk (st := s_next_claims) l17 c17 k17
  have b17 := F17.binds (ps := ["yard", "claims", "letter"]) fun _ _ _ _ _ _ us hl => match us, hl with | [_, _, _], _ => rfl
  have F18 := fun_mk (st := s_pairs_of) l18 c18 k18
  have b18 := F18.binds (ps := ["cars"]) fun _ _ _ _ _ _ us hl => match us, hl with | [_], _ => rfl
  have F19 := fun_mk (st := s_Gameuanswers_of) l19 c19 k19
  have b19 := F19.binds (ps := ["self", "state", "letter"]) fun _ _ _ _ _ _ us hl => match us, hl with | [_, _, _], _ => rfl
  have F20 := fun_mk (st := s_Gameuexplore) l20 c20 k20
  have b20 := F20.binds (ps := ["self", "state", "most"]) fun _ _ _ _ _ _ us hl => match us, hl with | [_, _, _], _ => rfl
  have F21 := fun_mk (st := s_Gameuthreat_of) l21 c21 k21
  have b21 := F21.binds (ps := ["self", "state"]) fun _ _ _ _ _ _ us hl => match us, hl with | [_, _], _ => rfl
  have F22 := fun_mk (st := s_Gameunew_threats) l22 c22 k22
  have b22 := F22.binds (ps := ["self"]) fun _ _ _ _ _ _ us hl => match us, hl with | [_], _ => rfl
  have F23 := fun_mk (st := s_Gameurank_states) l23 c23 k23
  have b23 := F23.binds (ps := ["self"]) fun _ _ _ _ _ _ us hl => match us, hl with | [_], _ => rfl
  have F24 := fun_mk (st := s_Gameu_initu) l24 c24 k24
  have F25 := fun_mk (st := s_Gameu_lenu) l25 c25 k25
  have b25 := F25.binds (ps := ["self"]) fun _ _ _ _ _ _ us hl => match us, hl with | [_], _ => rfl
  have F26 := fun_mk (st := s_Game_holds) l26 c26 k26
  have b26 := F26.binds (ps := ["self"]) fun _ _ _ _ _ _ us hl => match us, hl with | [_], _ => rfl
  have F27 := fun_mk (st := s_law_cell) l27 c27 k27
  have b27 := F27.binds (ps := ["_law_script", "_law_at"]) fun _ _ _ _ _ _ us hl => match us, hl with | [_, _], _ => rfl
  have F28 := fun_mk (st := s_law_take) l28 c28 k28
  have b28 := F28.binds (ps := ["_law_pool_here", "_law_many"]) fun _ _ _ _ _ _ us hl => match us, hl with | [_, _], _ => rfl
  have F29 := fun_mk (st := s_law_names) l29 c29 k29
  have b29 := F29.binds (ps := ["_law_pool_here", "_law_many"]) fun _ _ _ _ _ _ us hl => match us, hl with | [_, _], _ => rfl
  have F30 := fun_mk (st := s_law_foe) l30 c30 k30
  have b30 := F30.binds (ps := ["_law_pool_here"]) fun _ _ _ _ _ _ us hl => match us, hl with | [_], _ => rfl
  have F31 := fun_mk (st := s_Gameucheck) l31 c31 k31
  have b31 := F31.binds (ps := ["self", "state"]) fun _ _ _ _ _ _ us hl => match us, hl with | [_, _], _ => rfl
  have F32 := fun_mk (st := s_Game_threat) l32 c32 k32
  have b32 := F32.binds (ps := ["self", "state"]) fun _ _ _ _ _ _ us hl => match us, hl with | [_, _], _ => rfl
  have F33 := fun_mk (st := s_law_falls) l33 c33 k33
  have b33 := F33.binds (ps := ["_law_ranks", "_law_rank_here"]) fun _ _ _ _ _ _ us hl => match us, hl with | [_, _], _ => rfl
  have F34 := fun_mk (st := s_Gameu_containsu) l34 c34 k34
  have b34 := F34.binds (ps := ["self", "state"]) fun _ _ _ _ _ _ us hl => match us, hl with | [_, _], _ => rfl
  have F35 := fun_mk (st := s_Game_rank) l35 c35 k35
  have b35 := F35.binds (ps := ["self", "state"]) fun _ _ _ _ _ _ us hl => match us, hl with | [_, _], _ => rfl
  have F36 := fun_mk (st := s_law_rank) l36 c36 k36
  have b36 := F36.binds (ps := ["_law_told", "_law_state_here"]) fun _ _ _ _ _ _ us hl => match us, hl with | [_, _], _ => rfl
  have F37 := fun_mk (st := s_law_state) l37 c37 k37
  have b37 := F37.binds (ps := ["_law_state_here"]) fun _ _ _ _ _ _ us hl => match us, hl with | [_], _ => rfl
  have F38 := fun_mk (st := s_law_next_ranks) l38 c38 k38
  have b38 := F38.binds (ps := ["_law_told", "_law_rows"]) fun _ _ _ _ _ _ us hl => match us, hl with | [_, _], _ => rfl
  have F39 := fun_mk (st := s_law_one_less) l39 c39 k39
  have b39 := F39.binds (ps := ["_law_ranks", "_law_rank_here"]) fun _ _ _ _ _ _ us hl => match us, hl with | [_, _], _ => rfl
  have F40 := fun_mk (st := s_law_same) l40 c40 k40
  have b40 := F40.binds (ps := ["_law_told", "_law_due"]) fun _ _ _ _ _ _ us hl => match us, hl with | [_, _], _ => rfl
  have F41 := fun_mk (st := s_law_ahead) l41 c41 k41
  have b41 := F41.binds (ps := ["_law_one", "_law_two"]) fun _ _ _ _ _ _ us hl => match us, hl with | [_, _], _ => rfl
  have F42 := fun_mk (st := s_law_pairs) l42 c42 k42
  have b42 := F42.binds (ps := ["_law_cars"]) fun _ _ _ _ _ _ us hl => match us, hl with | [_], _ => rfl
  have F43 := fun_mk (st := s_law_answered) l43 c43 k43
  have b43 := F43.binds (ps := ["_law_pairs_here", "_law_answer"]) fun _ _ _ _ _ _ us hl => match us, hl with | [_, _], _ => rfl
  have F44 := fun_mk (st := s_law_answers) l44 c44 k44
  have b44 := F44.binds (ps := ["_law_pairs_here", "_law_width"]) fun _ _ _ _ _ _ us hl => match us, hl with | [_, _], _ => rfl
  have F45 := fun_mk (st := s_law_coming) l45 c45 k45
  have b45 := F45.binds (ps := ["_law_parts", "_law_letter"]) fun _ _ _ _ _ _ us hl => match us, hl with | [_, _], _ => rfl
  have F46 := fun_mk (st := s_law_joined) l46 c46 k46
  have b46 := F46.binds (ps := ["_law_parts", "_law_pairs_here", "_law_letter"]) fun _ _ _ _ _ _ us hl => match us, hl with | [_, _, _], _ => rfl
  have F47 := fun_mk (st := s_law_after) l47 c47 k47
  have b47 := F47.binds (ps := ["_law_table", "_law_width"]) fun _ _ _ _ _ _ us hl => match us, hl with | [_, _], _ => rfl
  have F48 := fun_mk (st := s_law_ones) l48 c48 k48
  have b48 := F48.binds (ps := ["_law_mask"]) fun _ _ _ _ _ _ us hl => match us, hl with | [_], _ => rfl
  have F49 := fun_mk (st := s_law_over) l49 c49 k49
  have b49 := F49.binds (ps := ["_law_table", "_law_width"]) fun _ _ _ _ _ _ us hl => match us, hl with | [_, _], _ => rfl
  have F50 := fun_mk (st := s_law_asks) l50 c50 k50
  have b50 := F50.binds (ps := ["_law_left", "_law_want", "_law_mask"]) fun _ _ _ _ _ _ us hl => match us, hl with | [_, _, _], _ => rfl
  have F51 := fun_mk (st := s_law_with) l51 c51 k51
  have b51 := F51.binds (ps := ["_law_table", "_law_cars"]) fun _ _ _ _ _ _ us hl => match us, hl with | [_, _], _ => rfl
  have F52 := fun_mk (st := s_law_next) l52 c52 k52
  have b52 := F52.binds (ps := ["_law_parts", "_law_table", "_law_letter"]) fun _ _ _ _ _ _ us hl => match us, hl with | [_, _, _], _ => rfl
  have F53 := fun_mk (st := s_law_turn) l53 c53 k53
  have b53 := F53.binds (ps := ["_law_parts", "_law_state_here", "_law_letter"]) fun _ _ _ _ _ _ us hl => match us, hl with | [_, _, _], _ => rfl
  have F54 := fun_mk (st := s_law_judged) l54 c54 k54
  have b54 := F54.binds (ps := ["_law_told", "_law_parts", "_law_here"]) fun _ _ _ _ _ _ us hl => match us, hl with | [_, _, _], _ => rfl
  have F55 := fun_mk (st := s_is_name) l55 c55 k55
  have b55 := F55.binds (ps := ["text"]) fun _ _ _ _ _ _ us hl => match us, hl with | [_], _ => rfl
  have F56 := fun_mk (st := s_Kindu_initu) l56 c56 k56
  have b56 := F56.binds (ps := ["self", "name", "stay", "need"]) fun _ _ _ _ _ _ us hl => match us, hl with | [_, _, _, _], _ => rfl
  have F57 := fun_mk (st := s_Yarducheck_kinds) l57 c57 k57
  have b57 := F57.binds (ps := ["self"]) fun _ _ _ _ _ _ us hl => match us, hl with | [_], _ => rfl
  have F58 := fun_mk (st := s_Yarducheck_menu) l58 c58 k58
  have b58 := F58.binds (ps := ["self"]) fun _ _ _ _ _ _ us hl => match us, hl with | [_], _ => rfl
  have F59 := fun_mk (st := s_Yardu_initu) l59 c59 k59
  have b59 := F59.binds (ps := ["self", "width", "kinds", "menu"]) fun _ _ _ _ _ _ us hl => match us, hl with | [_, _, _, _], _ => rfl
  have F60 := fun_mk (st := s_law_made) l60 c60 k60
  have b60 := F60.binds (ps := ["_law_parts"]) fun _ _ _ _ _ _ us hl => match us, hl with | [_], _ => rfl
  have F61 := fun_mk (st := s_law_span) l61 c61 k61
  have b61 := F61.binds (ps := ["_law_parts"]) fun _ _ _ _ _ _ us hl => match us, hl with | [_], _ => rfl
  have F62 := fun_mk (st := s_law_nothing) l62 c62 k62
  have b62 := F62.binds (ps := ["_law_parts"]) fun _ _ _ _ _ _ us hl => match us, hl with | [_], _ => rfl
  have F63 := fun_mk (st := s_law_pool) l63 c63 k63
  have b63 := F63.binds (ps := ["_law_cell_here"]) fun _ _ _ _ _ _ us hl => match us, hl with | [_], _ => rfl
  have F64 := fun_mk (st := s_law_words) l64 c64 k64
  have b64 := F64.binds (ps := ["_law_pool_here", "_law_many"]) fun _ _ _ _ _ _ us hl => match us, hl with | [_, _], _ => rfl
  have F65 := fun_mk (st := s_law_batches) l65 c65 k65
  have b65 := F65.binds (ps := ["_law_pool_here", "_law_words_here", "_law_kinds", "_law_many", "_law_sizes"]) fun _ _ _ _ _ _ us hl => match us, hl with | [_, _, _, _, _], _ => rfl
  have F66 := fun_mk (st := s_law_lot) l66 c66 k66
  have b66 := F66.binds (ps := ["_law_pool_here", "_law_words_here", "_law_many", "_law_longest", "_law_hard"]) fun _ _ _ _ _ _ us hl => match us, hl with | [_, _, _, _, _], _ => rfl
  have F67 := fun_mk (st := s_law_lean) l67 c67 k67
  have b67 := F67.binds (ps := ["_law_pool_here", "_law_words_here", "_law_width", "_law_stays"]) fun _ _ _ _ _ _ us hl => match us, hl with | [_, _, _, _], _ => rfl
  have F68 := fun_mk (st := s_law_wide) l68 c68 k68
  have b68 := F68.binds (ps := ["_law_pool_here", "_law_words_here", "_law_widest", "_law_longest"]) fun _ _ _ _ _ _ us hl => match us, hl with | [_, _, _, _], _ => rfl
  have F69 := fun_mk (st := s_law_yard) l69 c69 k69
  have b69 := F69.binds (ps := ["_law_pool_here", "_law_words_here"]) fun _ _ _ _ _ _ us hl => match us, hl with | [_, _], _ => rfl
  have F70 := fun_mk (st := s_law) l70 c70 k70
  have b70 := F70.binds (ps := ["_law_script"]) fun _ _ _ _ _ _ us hl => match us, hl with | [_], _ => rfl
  let T : ∀ base : Heap, Tt P K mg (fun n => [0, q1, 0, 0, 0, q5, q6, 0, 0, 0, 0, q11, 0, 0, 0, 0, 0, 0, 0, 0, 0, 0, 0, 0, 0, 0, 0, 0, 0, 0, q30, q31].getD n 0) base := fun base => ⟨_, _, F1, b1, _, _, F2, b2, _, _, F3, b3, _, _, F4, b4, _, _, F5, b5, _, _, F6, b6, _, _, F7, b7, PySem.W.mg_of X G a7, _, _, F8, b8, PySem.W.mg_of X G a8, _, _, F9, b9, _, _, F10, b10, _, _, F11, b11, PySem.W.mg_of X G a11, _, _, F12, b12, _, _, F13, b13, _, _, F14, b14, PySem.W.mg_of X G a14, _, _, F15, b15, _, _, F16, b16, _, _, F17, b17, PySem.W.mg_of X G a17, _, _, F18, b18, PySem.W.mg_of X G a18, _, _, F19, b19, _, _, F20, b20, _, _, F21, b21, _, _, F22, b22, _, _, F23, b23, _, _, F24, _, _, F25, b25, _, _, F26, b26, _, _, F27, b27, PySem.W.mg_of X G a27, _, _, F28, b28, PySem.W.mg_of X G a28, _, _, F29, b29, PySem.W.mg_of X G a29, _, _, F30, b30, PySem.W.mg_of X G a30, _, _, F31, b31, _, _, F32, b32, _, _, F33, b33, PySem.W.mg_of X G a33, _, _, F34, b34, _, _, F35, b35, _, _, F36, b36, PySem.W.mg_of X G a36, _, _, F37, b37, PySem.W.mg_of X G a37, _, _, F38, b38, PySem.W.mg_of X G a38, _, _, F39, b39, PySem.W.mg_of X G a39, _, _, F40, b40, PySem.W.mg_of X G a40, _, _, F41, b41, PySem.W.mg_of X G a41, _, _, F42, b42, PySem.W.mg_of X G a42, _, _, F43, b43, PySem.W.mg_of X G a43, _, _, F44, b44, PySem.W.mg_of X G a44, _, _, F45, b45, PySem.W.mg_of X G a45, _, _, F46, b46, PySem.W.mg_of X G a46, _, _, F47, b47, PySem.W.mg_of X G a47, _, _, F48, b48, PySem.W.mg_of X G a48, _, _, F49, b49, PySem.W.mg_of X G a49, _, _, F50, b50, PySem.W.mg_of X G a50, _, _, F51, b51, PySem.W.mg_of X G a51, _, _, F52, b52, PySem.W.mg_of X G a52, _, _, F53, b53, PySem.W.mg_of X G a53, _, _, F54, b54, PySem.W.mg_of X G a54, _, _, F55, b55, PySem.W.mg_of X G a55, _, _, F56, b56, _, _, F57, b57, _, _, F58, b58, _, _, F59, b59, _, _, F60, b60, PySem.W.mg_of X G a60, _, _, F61, b61, PySem.W.mg_of X G a61, _, _, F62, b62, PySem.W.mg_of X G a62, _, _, F63, b63, PySem.W.mg_of X G a63, _, _, F64, b64, PySem.W.mg_of X G a64, _, _, F65, b65, PySem.W.mg_of X G a65, _, _, F66, b66, PySem.W.mg_of X G a66, _, _, F67, b67, PySem.W.mg_of X G a67, _, _, F68, b68, PySem.W.mg_of X G a68, _, _, F69, b69, PySem.W.mg_of X G a69, _, _, F70, b70, PySem.W.mg_of X G a70, PySem.W.mg_none_of X G z1, PySem.W.mg_none_of X G z2, PySem.W.mg_none_of X G z3, PySem.W.mg_none_of X G z4, PySem.W.mg_none_of X G z5, PySem.W.mg_none_of X G z6, PySem.W.mg_none_of X G z7, PySem.W.mg_none_of X G z8, PySem.W.mg_none_of X G z9, PySem.W.mg_none_of X G z10, PySem.W.mg_none_of X G z11, PySem.W.mg_none_of X G z12, PySem.W.mg_none_of X G z13, PySem.W.mg_none_of X G z14, PySem.W.mg_none_of X G z15, PySem.W.mg_none_of X G z16, PySem.W.mg_none_of X G z17, ⟨⟨qb11, qc11, qd11, qe11⟩, qf11, qg11, qh11, qi11, qj11⟩, PySem.W.mg_of X G qa11, ⟨⟨qb1, qc1, qd1, qe1⟩, qf1, qg1, qh1, qi1, qj1⟩, PySem.W.mg_of X G qa1, ⟨⟨qb6, qc6, qd6, qe6⟩, qf6, qg6, qh6, qi6, qj6⟩, PySem.W.mg_of X G qa6, ⟨⟨qb5, qc5, qd5, qe5⟩, qf5, qg5, qh5, qi5, qj5⟩, PySem.W.mg_of X G qa5, ⟨ma11, a24, mb11, mc11⟩, ⟨ma1, a1, mb1, mc1⟩, ⟨ma5, a56, mb5, mc5⟩, ⟨ma6, a59, mb6, mc6⟩, na0, na1, na2, na3, na4, na5, na6, na7, na8, na9, na10, na11, na12, na13, ⟨a25, me0, k25⟩, ⟨a20, me1, k20⟩, ⟨a23, me2, k23⟩, ⟨a19, me3, k19⟩, ⟨a6, me4, k6⟩, ⟨a3, me5, k3⟩, ⟨a4, me6, k4⟩, ⟨a9, me7, k9⟩, ⟨a13, me8, k13⟩, ⟨a10, me9, k10⟩, ⟨a12, me10, k12⟩, ⟨a22, me11, k22⟩, ⟨a21, me12, k21⟩, ⟨a32, me13, k32⟩, ⟨a31, me14, k31⟩, ⟨a34, me15, k34⟩, ⟨a35, me16, k35⟩, ⟨a57, me17, k57⟩, ⟨a58, me18, k58⟩, kb_all fun us ws h1 h2 => match us, ws, h1, h2 with | [_, _], [_], _, _ => rfl, kb_some (pre := [("most", 400)]) (post := []) (List.forall_mem_cons.mpr ⟨⟨_, kw24_most⟩, (List.forall_mem_nil _)⟩) fun us mp ws mq h1 h2 h3 h4 => match us, mp, ws, mq, h1, h2, h3, h4 with | [_, _], [_], [], [], _, _, _, _ => ⟨_, _, _, _, _, _, rfl, rfl, rfl⟩, po0, ⟨pa0, pb0, pc0, _, pd0⟩, po1, ⟨pa1, pb1, pc1, _, pd1⟩, po2, ⟨pa2, pb2, pc2, _, pd2⟩, (.type "type"), ⟨ra0, rb0⟩, (.type "type"), ⟨ra1, rb1⟩, cx0, ⟨cy0, ⟨_, rfl⟩⟩, cx1, ⟨cy1, ⟨_, rfl⟩⟩, cx2, ⟨cy2, ⟨_, rfl⟩⟩, cp0, ⟨ua0, ⟨_, ub0⟩, uc0⟩, cp1, ⟨ua1, ⟨_, ub1⟩, uc1⟩, kit_self, kit_sub ty_ne qc1 qt1 kt0, kit_sub ty_ne qc1 qt1 kt1, tc0, PySem.W.mg_of X G kx0, tc1, PySem.W.mg_of X G kx1, tc2, PySem.W.mg_of X G kx2, fx31, ⟨⟨⟨_, _, _, _, _, _, _, _, _, _, _, _, _, _, _, eL31, eM31⟩, es31, ea31, et31, xc31, xd31, ev31, xe31, eu31, ek31, eo31, PySem.W.mg_none_of X G z15, ep31⟩, ⟨rfl, rfl, rfl, rfl, by decide, fun _ _ => rfl, fun _ _ => rfl, by decide⟩, en31, ⟨oc_31, od_31, doc31, pm_31, an_31, cda31, cc31, ct_31, osl31, _, _, _, _, _, _, _, _, _, _, _, _, _, ccl31, cdd31, vs31, ccs31, fi_31, tf31, cl_31, cld31, csl31, el31, ec31, ed31, ef31, eg31, eh31, fun s a v => BindsTo.of_eq rfl, fun env => rfl, ⟨_, fun L => rfl⟩⟩⟩, ⟨⟨ya31, yb31, xd31, xf31⟩, cls_some xf31, yc31, yd31, ye31, yf31⟩, yn0, PySem.W.mg_of X G xa31, xc31, xd31, xe31, PySem.W.mg_of X G xa30, xb30, xc30, xd30, xe30, PySem.W.exm_ref xd31 xf31 xe31 xm0, or0, ov0, ow0, of0, og0, os0⟩
  exact ⟨fdOf F70, fun s v => .of_eq rfl, fun base _ _ => (ok_law (P := P) (w := w) (base := base) (T base)).imp (law_imp (fun j hj => match j, hj with | 0, _ => rfl | 1, _ => rfl | n + 2, hn => absurd hn (by omega)) ht)⟩
end K77

open PySem PySem.W PyProof.Rows
set_option maxRecDepth 100000 in
set_option maxHeartbeats 0 in
theorem HXD : ∀ e, HX.D e := by
  intro e
  unfold HX
  dsimp (config := { zeta := false, iota := false, eta := false, zetaDelta := false }) only
  w_on; k_fill
  refine Mz.walk (l := PySem.Challenge.rw_onecable_k77_whole_ranks_fall_whatever_i) (k := 15) (x := "_law_script") rfl rfl ⟨rfl, by decide, by decide⟩ (fun w h Y => by first | exact PySem.W.kIn_of Y | exact PySem.W.km_in_of Y) ?F
  case F =>
    intro w mg fa h KX G hmg
    skip
    refine' K77.all_mk K77.law_true KX G hmg ?qa11 ?qb11 ?qc11 ?qd11 ?qe11 ?qf11 ?qg11 ?qh11 ?qi11 ?qj11 ?qa1 ?qb1 ?qc1 ?qd1 ?qe1 ?qf1 ?qg1 ?qh1 ?qi1 ?qj1 ?qa6 ?qb6 ?qc6 ?qd6 ?qe6 ?qf6 ?qg6 ?qh6 ?qi6 ?qj6 ?qa5 ?qb5 ?qc5 ?qd5 ?qe5 ?qf5 ?qg5 ?qh5 ?qi5 ?qj5 ?a1 ?l1 ?c1 ?k1 ?a2 ?l2 ?c2 ?k2 ?a3 ?l3 ?c3 ?k3 ?a4 ?l4 ?c4 ?k4 ?a5 ?l5 ?c5 ?k5 ?a6 ?l6 ?c6 ?k6 ?a7 ?l7 ?c7 ?k7 ?a8 ?l8 ?c8 ?k8 ?a9 ?l9 ?c9 ?k9 ?a10 ?l10 ?c10 ?k10 ?a11 ?l11 ?c11 ?k11 ?a12 ?l12 ?c12 ?k12 ?a13 ?l13 ?c13 ?k13 ?a14 ?l14 ?c14 ?k14 ?a15 ?l15 ?c15 ?k15 ?a16 ?l16 ?c16 ?k16 ?a17 ?l17 ?c17 ?k17 ?a18 ?l18 ?c18 ?k18 ?a19 ?l19 ?c19 ?k19 ?a20 ?l20 ?c20 ?k20 ?a21 ?l21 ?c21 ?k21 ?a22 ?l22 ?c22 ?k22 ?a23 ?l23 ?c23 ?k23 ?a24 ?l24 ?c24 ?k24 ?a25 ?l25 ?c25 ?k25 ?a26 ?l26 ?c26 ?k26 ?a27 ?l27 ?c27 ?k27 ?a28 ?l28 ?c28 ?k28 ?a29 ?l29 ?c29 ?k29 ?a30 ?l30 ?c30 ?k30 ?a31 ?l31 ?c31 ?k31 ?a32 ?l32 ?c32 ?k32 ?a33 ?l33 ?c33 ?k33 ?a34 ?l34 ?c34 ?k34 ?a35 ?l35 ?c35 ?k35 ?a36 ?l36 ?c36 ?k36 ?a37 ?l37 ?c37 ?k37 ?a38 ?l38 ?c38 ?k38 ?a39 ?l39 ?c39 ?k39 ?a40 ?l40 ?c40 ?k40 ?a41 ?l41 ?c41 ?k41 ?a42 ?l42 ?c42 ?k42 ?a43 ?l43 ?c43 ?k43 ?a44 ?l44 ?c44 ?k44 ?a45 ?l45 ?c45 ?k45 ?a46 ?l46 ?c46 ?k46 ?a47 ?l47 ?c47 ?k47 ?a48 ?l48 ?c48 ?k48 ?a49 ?l49 ?c49 ?k49 ?a50 ?l50 ?c50 ?k50 ?a51 ?l51 ?c51 ?k51 ?a52 ?l52 ?c52 ?k52 ?a53 ?l53 ?c53 ?k53 ?a54 ?l54 ?c54 ?k54 ?a55 ?l55 ?c55 ?k55 ?a56 ?l56 ?c56 ?k56 ?a57 ?l57 ?c57 ?k57 ?a58 ?l58 ?c58 ?k58 ?a59 ?l59 ?c59 ?k59 ?a60 ?l60 ?c60 ?k60 ?a61 ?l61 ?c61 ?k61 ?a62 ?l62 ?c62 ?k62 ?a63 ?l63 ?c63 ?k63 ?a64 ?l64 ?c64 ?k64 ?a65 ?l65 ?c65 ?k65 ?a66 ?l66 ?c66 ?k66 ?a67 ?l67 ?c67 ?k67 ?a68 ?l68 ?c68 ?k68 ?a69 ?l69 ?c69 ?k69 ?a70 ?l70 ?c70 ?k70 ?ma11 ?mb11 ?mc11 ?ma1 ?mb1 ?mc1 ?ma5 ?mb5 ?mc5 ?ma6 ?mb6 ?mc6 ?na0 ?na1 ?na2 ?na3 ?na4 ?na5 ?na6 ?na7 ?na8 ?na9 ?na10 ?na11 ?na12 ?na13 ?me0 ?me1 ?me2 ?me3 ?me4 ?me5 ?me6 ?me7 ?me8 ?me9 ?me10 ?me11 ?me12 ?me13 ?me14 ?me15 ?me16 ?me17 ?me18 ?kw24_most ?pa0 ?pb0 ?pc0 ?pd0 ?pa1 ?pb1 ?pc1 ?pd1 ?pa2 ?pb2 ?pc2 ?pd2 ?ra0 ?rb0 ?ra1 ?rb1 ?cy0 ?cy1 ?cy2 ?ua0 ?ub0 ?uc0 ?ua1 ?ub1 ?uc1 ?qt1 ?kt0 ?kt1 ?or0 ?of0 ?og0 ?os0 ?kx0 ?kx1 ?kx2 ?eL31 ?eM31 ?es31 ?ea31 ?et31 ?ev31 ?eu31 ?ek31 ?eo31 ?ep31 ?en31 ?el31 ?ec31 ?ed31 ?ef31 ?eg31 ?eh31 ?ya31 ?yb31 ?yc31 ?yd31 ?ye31 ?yf31 ?yn0 ?xa31 ?xc31 ?xd31 ?xe31 ?xf31 ?xa30 ?xb30 ?xc30 ?xd30 ?xe30 ?xf30 ?xm0 ?z1 ?z2 ?z3 ?z4 ?z5 ?z6 ?z7 ?z8 ?z9 ?z10 ?z11 ?z12 ?z13 ?z14 ?z15 ?z16 ?z17
    (case qa11 => k_is)
    (case qa1 => k_is)
    (case qa6 => k_is)
    (case qa5 => k_is)
    (case xa31 => k_is)
    (case xa30 => k_is)
    (case ea31 => k_is)
    (case el31 => k_is)
    (case eL31 => k_is)
    (case ed31 => k_is)
    (case pa0 => k_is)
    (case pa1 => k_is)
    (case pa2 => k_is)
    (case ua0 => k_is)
    (case ua1 => k_is)
    (case pd0 => k_is)
    (case pd1 => k_is)
    (case pd2 => k_is)
    (case ub0 => k_is)
    (case ub1 => k_is)
    (case qb11 => k_is)
    (case qc11 => k_is)
    (case qd11 => k_is)
    (case qe11 => k_is)
    (case qf11 => k_is)
    (case qg11 => k_is)
    (case qh11 => k_is)
    (case qi11 => k_is)
    (case qj11 => k_is)
    (case qb1 => k_is)
    (case qc1 => k_is)
    (case qd1 => k_is)
    (case qe1 => k_is)
    (case qf1 => k_is)
    (case qg1 => k_is)
    (case qh1 => k_is)
    (case qi1 => k_is)
    (case qj1 => k_is)
    (case qb6 => k_is)
    (case qc6 => k_is)
    (case qd6 => k_is)
    (case qe6 => k_is)
    (case qf6 => k_is)
    (case qg6 => k_is)
    (case qh6 => k_is)
    (case qi6 => k_is)
    (case qj6 => k_is)
    (case qb5 => k_is)
    (case qc5 => k_is)
    (case qd5 => k_is)
    (case qe5 => k_is)
    (case qf5 => k_is)
    (case qg5 => k_is)
    (case qh5 => k_is)
    (case qi5 => k_is)
    (case qj5 => k_is)
    (case a1 => k_is)
    (case l1 => k_is)
    (case c1 => k_is)
    (case k1 => k_is)
    (case a2 => k_is)
    (case l2 => k_is)
    (case c2 => k_is)
    (case k2 => k_is)
    (case a3 => k_is)
    (case l3 => k_is)
    (case c3 => k_is)
    (case k3 => k_is)
    (case a4 => k_is)
    (case l4 => k_is)
    (case c4 => k_is)
    (case k4 => k_is)
    (case a5 => k_is)
    (case l5 => k_is)
    (case c5 => k_is)
    (case k5 => k_is)
    (case a6 => k_is)
    (case l6 => k_is)
    (case c6 => k_is)
    (case k6 => k_is)
    (case a7 => k_is)
    (case l7 => k_is)
    (case c7 => k_is)
    (case k7 => k_is)
    (case a8 => k_is)
    (case l8 => k_is)
    (case c8 => k_is)
    (case k8 => k_is)
    (case a9 => k_is)
    (case l9 => k_is)
    (case c9 => k_is)
    (case k9 => k_is)
    (case a10 => k_is)
    (case l10 => k_is)
    (case c10 => k_is)
    (case k10 => k_is)
    (case a11 => k_is)
    (case l11 => k_is)
    (case c11 => k_is)
    (case k11 => k_is)
    (case a12 => k_is)
    (case l12 => k_is)
    (case c12 => k_is)
    (case k12 => k_is)
    (case a13 => k_is)
    (case l13 => k_is)
    (case c13 => k_is)
    (case k13 => k_is)
    (case a14 => k_is)
    (case l14 => k_is)
    (case c14 => k_is)
    (case k14 => k_is)
    (case a15 => k_is)
    (case l15 => k_is)
    (case c15 => k_is)
    (case k15 => k_is)
    (case a16 => k_is)
    (case l16 => k_is)
    (case c16 => k_is)
    (case k16 => k_is)
    (case a17 => k_is)
    (case l17 => k_is)
    (case c17 => k_is)
    (case k17 => k_is)
    (case a18 => k_is)
    (case l18 => k_is)
    (case c18 => k_is)
    (case k18 => k_is)
    (case a19 => k_is)
    (case l19 => k_is)
    (case c19 => k_is)
    (case k19 => k_is)
    (case a20 => k_is)
    (case l20 => k_is)
    (case c20 => k_is)
    (case k20 => k_is)
    (case a21 => k_is)
    (case l21 => k_is)
    (case c21 => k_is)
    (case k21 => k_is)
    (case a22 => k_is)
    (case l22 => k_is)
    (case c22 => k_is)
    (case k22 => k_is)
    (case a23 => k_is)
    (case l23 => k_is)
    (case c23 => k_is)
    (case k23 => k_is)
    (case a24 => k_is)
    (case l24 => k_is)
    (case c24 => k_is)
    (case k24 => k_is)
    (case a25 => k_is)
    (case l25 => k_is)
    (case c25 => k_is)
    (case k25 => k_is)
    (case a26 => k_is)
    (case l26 => k_is)
    (case c26 => k_is)
    (case k26 => k_is)
    (case a27 => k_is)
    (case l27 => k_is)
    (case c27 => k_is)
    (case k27 => k_is)
    (case a28 => k_is)
    (case l28 => k_is)
    (case c28 => k_is)
    (case k28 => k_is)
    (case a29 => k_is)
    (case l29 => k_is)
    (case c29 => k_is)
    (case k29 => k_is)
    (case a30 => k_is)
    (case l30 => k_is)
    (case c30 => k_is)
    (case k30 => k_is)
    (case a31 => k_is)
    (case l31 => k_is)
    (case c31 => k_is)
    (case k31 => k_is)
    (case a32 => k_is)
    (case l32 => k_is)
    (case c32 => k_is)
    (case k32 => k_is)
    (case a33 => k_is)
    (case l33 => k_is)
    (case c33 => k_is)
    (case k33 => k_is)
    (case a34 => k_is)
    (case l34 => k_is)
    (case c34 => k_is)
    (case k34 => k_is)
    (case a35 => k_is)
    (case l35 => k_is)
    (case c35 => k_is)
    (case k35 => k_is)
    (case a36 => k_is)
    (case l36 => k_is)
    (case c36 => k_is)
    (case k36 => k_is)
    (case a37 => k_is)
    (case l37 => k_is)
    (case c37 => k_is)
    (case k37 => k_is)
    (case a38 => k_is)
    (case l38 => k_is)
    (case c38 => k_is)
    (case k38 => k_is)
    (case a39 => k_is)
    (case l39 => k_is)
    (case c39 => k_is)
    (case k39 => k_is)
    (case a40 => k_is)
    (case l40 => k_is)
    (case c40 => k_is)
    (case k40 => k_is)
    (case a41 => k_is)
    (case l41 => k_is)
    (case c41 => k_is)
    (case k41 => k_is)
    (case a42 => k_is)
    (case l42 => k_is)
    (case c42 => k_is)
    (case k42 => k_is)
    (case a43 => k_is)
    (case l43 => k_is)
    (case c43 => k_is)
    (case k43 => k_is)
    (case a44 => k_is)
    (case l44 => k_is)
    (case c44 => k_is)
    (case k44 => k_is)
    (case a45 => k_is)
    (case l45 => k_is)
    (case c45 => k_is)
    (case k45 => k_is)
    (case a46 => k_is)
    (case l46 => k_is)
    (case c46 => k_is)
    (case k46 => k_is)
    (case a47 => k_is)
    (case l47 => k_is)
    (case c47 => k_is)
    (case k47 => k_is)
    (case a48 => k_is)
    (case l48 => k_is)
    (case c48 => k_is)
    (case k48 => k_is)
    (case a49 => k_is)
    (case l49 => k_is)
    (case c49 => k_is)
    (case k49 => k_is)
    (case a50 => k_is)
    (case l50 => k_is)
    (case c50 => k_is)
    (case k50 => k_is)
    (case a51 => k_is)
    (case l51 => k_is)
    (case c51 => k_is)
    (case k51 => k_is)
    (case a52 => k_is)
    (case l52 => k_is)
    (case c52 => k_is)
    (case k52 => k_is)
    (case a53 => k_is)
    (case l53 => k_is)
    (case c53 => k_is)
    (case k53 => k_is)
    (case a54 => k_is)
    (case l54 => k_is)
    (case c54 => k_is)
    (case k54 => k_is)
    (case a55 => k_is)
    (case l55 => k_is)
    (case c55 => k_is)
    (case k55 => k_is)
    (case a56 => k_is)
    (case l56 => k_is)
    (case c56 => k_is)
    (case k56 => k_is)
    (case a57 => k_is)
    (case l57 => k_is)
    (case c57 => k_is)
    (case k57 => k_is)
    (case a58 => k_is)
    (case l58 => k_is)
    (case c58 => k_is)
    (case k58 => k_is)
    (case a59 => k_is)
    (case l59 => k_is)
    (case c59 => k_is)
    (case k59 => k_is)
    (case a60 => k_is)
    (case l60 => k_is)
    (case c60 => k_is)
    (case k60 => k_is)
    (case a61 => k_is)
    (case l61 => k_is)
    (case c61 => k_is)
    (case k61 => k_is)
    (case a62 => k_is)
    (case l62 => k_is)
    (case c62 => k_is)
    (case k62 => k_is)
    (case a63 => k_is)
    (case l63 => k_is)
    (case c63 => k_is)
    (case k63 => k_is)
    (case a64 => k_is)
    (case l64 => k_is)
    (case c64 => k_is)
    (case k64 => k_is)
    (case a65 => k_is)
    (case l65 => k_is)
    (case c65 => k_is)
    (case k65 => k_is)
    (case a66 => k_is)
    (case l66 => k_is)
    (case c66 => k_is)
    (case k66 => k_is)
    (case a67 => k_is)
    (case l67 => k_is)
    (case c67 => k_is)
    (case k67 => k_is)
    (case a68 => k_is)
    (case l68 => k_is)
    (case c68 => k_is)
    (case k68 => k_is)
    (case a69 => k_is)
    (case l69 => k_is)
    (case c69 => k_is)
    (case k69 => k_is)
    (case a70 => k_is)
    (case l70 => k_is)
    (case c70 => k_is)
    (case k70 => k_is)
    (case ma11 => k_is)
    (case mb11 => k_is)
    (case mc11 => k_is)
    (case ma1 => k_is)
    (case mb1 => k_is)
    (case mc1 => k_is)
    (case ma5 => k_is)
    (case mb5 => k_is)
    (case mc5 => k_is)
    (case ma6 => k_is)
    (case mb6 => k_is)
    (case mc6 => k_is)
    (case na0 => k_is)
    (case na1 => k_is)
    (case na2 => k_is)
    (case na3 => k_is)
    (case na4 => k_is)
    (case na5 => k_is)
    (case na6 => k_is)
    (case na7 => k_is)
    (case na8 => k_is)
    (case na9 => k_is)
    (case na10 => k_is)
    (case na11 => k_is)
    (case na12 => k_is)
    (case na13 => k_is)
    (case me0 => k_is)
    (case me1 => k_is)
    (case me2 => k_is)
    (case me3 => k_is)
    (case me4 => k_is)
    (case me5 => k_is)
    (case me6 => k_is)
    (case me7 => k_is)
    (case me8 => k_is)
    (case me9 => k_is)
    (case me10 => k_is)
    (case me11 => k_is)
    (case me12 => k_is)
    (case me13 => k_is)
    (case me14 => k_is)
    (case me15 => k_is)
    (case me16 => k_is)
    (case me17 => k_is)
    (case me18 => k_is)
    (case kw24_most => k_is)
    (case pb0 => k_is)
    (case pc0 => k_is)
    (case pb1 => k_is)
    (case pc1 => k_is)
    (case pb2 => k_is)
    (case pc2 => k_is)
    (case ra0 => k_is)
    (case rb0 => k_is)
    (case ra1 => k_is)
    (case rb1 => k_is)
    (case cy0 => k_is)
    (case cy1 => k_is)
    (case cy2 => k_is)
    (case uc0 => k_is)
    (case uc1 => k_is)
    (case qt1 => k_is)
    (case kt0 => k_is)
    (case kt1 => k_is)
    (case or0 => k_is)
    (case of0 => k_is)
    (case og0 => k_is)
    (case os0 => k_is)
    (case kx0 => k_is)
    (case kx1 => k_is)
    (case kx2 => k_is)
    (case eM31 => rfl)
    (case es31 => k_is)
    (case et31 => k_is)
    (case ev31 => k_is)
    (case eu31 => ks_is)
    (case ek31 => k_is)
    (case eo31 => k_is)
    (case ep31 => rfl)
    (case en31 => k_is)
    (case ec31 => k_is)
    (case ef31 => rfl)
    (case eg31 => first | rfl | decide +kernel)
    (case eh31 => k_is)
    (case ya31 => k_is)
    (case yb31 => k_is)
    (case yc31 => k_is)
    (case yd31 => k_is)
    (case ye31 => k_is)
    (case yf31 => k_is)
    (case yn0 => k_is)
    (case xc31 => k_is)
    (case xd31 => k_is)
    (case xe31 => k_is)
    (case xf31 => k_is)
    (case xb30 => k_exc)
    (case xc30 => k_is)
    (case xd30 => k_is)
    (case xe30 => k_is)
    (case xf30 => k_is)
    (case xm0 => k_is)
    (case z1 => k_is)
    (case z2 => k_is)
    (case z3 => k_is)
    (case z4 => k_is)
    (case z5 => k_is)
    (case z6 => k_is)
    (case z7 => k_is)
    (case z8 => k_is)
    (case z9 => k_is)
    (case z10 => k_is)
    (case z11 => k_is)
    (case z12 => k_is)
    (case z13 => k_is)
    (case z14 => k_is)
    (case z15 => k_is)
    (case z16 => k_is)
    (case z17 => k_is)
theorem PySem.Challenge.cw_onecable_k77_whole_ranks_fall_whatever_i_holds : PySem.Challenge.rw_onecable_k77_whole_ranks_fall_whatever_i.Holds :=
  HX.ok (fun w os => (HX0 w os).1) (fun w os => (HX0 w os).2.1) (fun w os => (HX2 w os)) (fun w os => (HX0 w os).2.2.1) (fun w os => (HX1 w os).1) (fun w os => (HX3 w os)) (fun w os => (HX0 w os).2.2.2.1) (fun w os => (HX4 w os)) (fun w os => (HX0 w os).2.2.2.2.1) (fun w os => (HX1 w os).2) (fun w os => (HX0 w os).2.2.2.2.2) HXD HXE

