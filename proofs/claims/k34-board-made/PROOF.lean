import PyProof.Rows.All
import Wide.All
import OpenK.AllK
import Wide.FinOn
import KE.KStateDown
import Lean
import HandS.ForMost
import HandS.ForExc
import HandS.EndBits
import HandS.Wide
import HandS.WideBits
import HandS.IsInst
import HandS.Defaults
import HandS.Zip
import HandS.Flow
import HandS.StrMore
import HandS.TupLe
import HandS.Head0
import HandS.Head1
import HandS.Head2
import HandS.HeadEnd
import HandS.HeadHook1
import HandS.HeadHook2
import HandS.ExcCtx
import HandS.TupLen
import HandS.Steps
import HandS.Conv
import HandS.SortInts
import HandS.Deep
import HandS.Rev
import HandS.RevRange
import PyProof.StrBlock2
import HandS.Codes
import HandS.TryOnly
import HandS.ExcIs
import HandS.ExcOwn
import HandS.WordsExc
import HandS.TryMany
import HandS.Iter
import HandS.More
import KE.KDictWalk
import KE.KDictCopyH
import HandS.HotCalls
import KE.KeyNested
import HandS.SetFor
import HandS.Strs
import KE.KBits
import KE.BitLaws
import PySem.Challenge.RW_gatefold_k34_board_made
set_option Elab.async false
set_option linter.all false
set_option maxRecDepth 100000
/-! GA: judgements with owned cells over the hand layer. A state is a list of slot values G (what each local name holds, where known) and a list of owned objects T (address, content); all else is frozen in F. -/
namespace G
open PySem L2

abbrev Cell := Addr × HO
def isTup : HO → Bool | .tup _ => true | _ => false
/-- the heap H holds the frozen F and, apart from it, the cells L -/
structure Own (F : Hp) (L : List Cell) (H : Hp) : Prop where
  sub : Same F H
  cel : ∀ c ∈ L, H c.1 = some c.2
  out : ∀ c ∈ L, F c.1 = none
  nd : (L.map (·.1)).Nodup
  nt : ∀ c ∈ L, isTup c.2 = false

section
variable {F F' H H' : Hp} {L L' L1 L2 : List Cell} {p : Addr} {o o' : HO}
theorem Own.perm (h : Own F L H) (e : L.Perm L') : Own F L' H :=
  ⟨h.sub, fun c m => h.cel c (e.mem_iff.mpr m), fun c m => h.out c (e.mem_iff.mpr m), (e.map _).nodup_iff.mp h.nd, fun c m => h.nt c (e.mem_iff.mpr m)⟩
theorem Own.left (h : Own F (L1 ++ L2) H) : Own F L1 H :=
  ⟨h.sub, fun c m => h.cel c (List.mem_append_left _ m), fun c m => h.out c (List.mem_append_left _ m), by
    have := h.nd; rw [List.map_append] at this; exact (List.nodup_append.mp this).1, fun c m => h.nt c (List.mem_append_left _ m)⟩
theorem Own.right (h : Own F (L1 ++ L2) H) : Own F L2 H :=
  ⟨h.sub, fun c m => h.cel c (List.mem_append_right _ m), fun c m => h.out c (List.mem_append_right _ m), by
    have := h.nd; rw [List.map_append] at this; exact (List.nodup_append.mp this).2.1, fun c m => h.nt c (List.mem_append_right _ m)⟩
theorem Own.fresh (h : Own F L H) (hp : H p = none) : F p = none ∧ p ∉ L.map (·.1) := by
  refine ⟨h.sub.free hp, fun m => ?_⟩
  obtain ⟨c, hc, e⟩ := List.mem_map.mp m
  have := h.cel c hc
  rw [e, hp] at this
  cases this
/-- a new object is frozen at once -/
theorem Own.ice (h : Own F L H) (hp : H p = none) : Own (upd F p o) L (upd H p o) := by
  obtain ⟨f, m⟩ := h.fresh hp
  have ne : ∀ c ∈ L, c.1 ≠ p := fun c hc e => m (List.mem_map.mpr ⟨c, hc, e⟩)
  refine ⟨fun b u e => ?_, fun c hc => by rw [upd_ne (ne c hc)]; exact h.cel c hc, fun c hc => by rw [upd_ne (ne c hc)]; exact h.out c hc, h.nd, h.nt⟩
  by_cases q : b = p
  · subst q; rw [upd_same] at e ⊢; exact e
  · rw [upd_ne q] at e ⊢; exact h.sub _ _ e
/-- a new object is owned -/
theorem Own.born (h : Own F L H) (hp : H p = none) (ho : isTup o = false := by rfl) : Own F ((p, o) :: L) (upd H p o) := by
  obtain ⟨f, m⟩ := h.fresh hp
  have ne : ∀ c ∈ L, c.1 ≠ p := fun c hc e => m (List.mem_map.mpr ⟨c, hc, e⟩)
  refine ⟨fun b u e => ?_, fun c hc => ?_, fun c hc => ?_, ?_, fun c hc => ?_⟩
  · rw [upd_ne (ne_of_none (h.sub _ _ e) hp)]; exact h.sub _ _ e
  · rcases List.mem_cons.mp hc with rfl | hc
    · exact upd_same
    · rw [upd_ne (ne c hc)]; exact h.cel c hc
  · rcases List.mem_cons.mp hc with rfl | hc
    · exact f
    · exact h.out c hc
  · exact List.nodup_cons.mpr ⟨m, h.nd⟩
  · rcases List.mem_cons.mp hc with rfl | hc
    · exact ho
    · exact h.nt c hc
theorem same_upd (hp : F p = none) : Same F (upd F p o) := fun b u e => by rw [upd_ne (ne_of_none e hp)]; exact e
/-- an owned object becomes frozen -/
theorem Own.freeze (h : Own F ((p, o) :: L) H) : Own (upd F p o) L H ∧ Same F (upd F p o) := by
  have m := (List.nodup_cons.mp h.nd).1
  have ne : ∀ c ∈ L, c.1 ≠ p := fun c hc e => m (List.mem_map.mpr ⟨c, hc, e⟩)
  refine ⟨⟨fun b u e => ?_, fun c hc => h.cel c (List.mem_cons_of_mem _ hc), fun c hc => by rw [upd_ne (ne c hc)]; exact h.out c (List.mem_cons_of_mem _ hc), (List.nodup_cons.mp h.nd).2, fun c hc => h.nt c (List.mem_cons_of_mem _ hc)⟩, same_upd (h.out _ (List.mem_cons_self ..))⟩
  by_cases q : b = p
  · subst q; rw [upd_same] at e; rw [← e]; exact h.cel _ (List.mem_cons_self ..)
  · rw [upd_ne q] at e; exact h.sub _ _ e
/-- an owned object is changed -/
theorem Own.put (h : Own F ((p, o) :: L) H) (ho : isTup o' = false := by rfl) : Own F ((p, o') :: L) (upd H p o') := by
  have m := (List.nodup_cons.mp h.nd).1
  have ne : ∀ c ∈ L, c.1 ≠ p := fun c hc e => m (List.mem_map.mpr ⟨c, hc, e⟩)
  have fo := h.out _ (List.mem_cons_self ..)
  refine ⟨fun b u e => ?_, fun c hc => ?_, fun c hc => ?_, h.nd, fun c hc => ?_⟩
  · rw [upd_ne (ne_of_none e fo)]; exact h.sub _ _ e
  · rcases List.mem_cons.mp hc with rfl | hc
    · exact upd_same
    · rw [upd_ne (ne c hc)]; exact h.cel c (List.mem_cons_of_mem _ hc)
  · rcases List.mem_cons.mp hc with rfl | hc
    · exact fo
    · exact h.out c (List.mem_cons_of_mem _ hc)
  · rcases List.mem_cons.mp hc with rfl | hc
    · exact ho
    · exact h.nt c (List.mem_cons_of_mem _ hc)
theorem Own.at (h : Own F ((p, o) :: L) H) : H p = some o := h.cel _ (List.mem_cons_self ..)
/-- a tuple that stands may be taken as frozen -/
theorem Own.adopt {vs : List V} (h : Own F L H) (hp : H p = some (.tup vs)) : ∃ F', Same F F' ∧ Own F' L H ∧ F' p = some (.tup vs) := by
  cases q : F p with
  | some u =>
    have := h.sub _ _ q
    rw [hp] at this
    cases this
    exact ⟨F, fun _ _ e => e, h, q⟩
  | none =>
    have ne : ∀ c ∈ L, c.1 ≠ p := fun c hc e => by
      have a := h.cel c hc
      rw [e, hp] at a
      have b := h.nt c hc
      rw [← Option.some.inj a] at b
      cases b
    refine ⟨upd F p (.tup vs), fun b u e => by rw [upd_ne (ne_of_none e q)]; exact e, ⟨fun b u e => ?_, h.cel, fun c hc => by rw [upd_ne (ne c hc)]; exact h.out c hc, h.nd, h.nt⟩, upd_same⟩
    by_cases z : b = p
    · subst z; rw [upd_same] at e; rw [← e]; exact hp
    · rw [upd_ne z] at e; exact h.sub _ _ e
theorem Own.tail (h : Own F ((p, o) :: L) H) : Own F L H := Own.right (L1 := [(p, o)]) h
end

/-! ### frozen data -/
class Rp (α : Type) where
  rep : Hp → V → α → Prop
  mono : ∀ {F F' : Hp} {v : V} {a : α}, Same F F' → rep F v a → rep F' v a
open Rp (rep)
theorem rd_mono {F F' : Hp} {a : Addr} {u : HO} (e : Same F F') (h : Rd F a u) : Rd F' a u := by
  rcases h with h | ⟨o, h⟩
  · exact .inl (e _ _ h)
  · exact .inr ⟨o, e _ _ h⟩
theorem Paired.mono {α β : Type} {R S : α → β → Prop} (f : ∀ a b, R a b → S a b) : ∀ {xs : List α} {ys : List β}, Paired R xs ys → Paired S xs ys
  | _, _, .nil => .nil
  | _, _, .cons h t => .cons (f _ _ h) (Paired.mono f t)
instance : Rp Int := ⟨fun _ v i => v = .int i, fun _ h => h⟩
instance : Rp Bool := ⟨fun _ v b => v = .bl b, fun _ h => h⟩
instance : Rp Str := ⟨fun _ v s => v = .str s, fun _ h => h⟩
instance : Rp Unit := ⟨fun _ v _ => v = .non, fun _ h => h⟩
instance {α : Type} [Rp α] : Rp (Option α) := ⟨fun F v o => match o with | none => v = .non | some a => rep F v a, fun {F F' v o} e h => by
  cases o with
  | none => exact h
  | some a => exact Rp.mono e h⟩
instance {α : Type} [Rp α] : Rp (List α) := ⟨fun F v xs => ∃ p vs, v = .ref p ∧ F p = some (.lst vs) ∧ Paired (rep F) vs xs, fun e ⟨p, vs, h1, h2, h3⟩ => ⟨p, vs, h1, e _ _ h2, Paired.mono (fun _ _ => Rp.mono e) h3⟩⟩
instance {α β : Type} [Rp α] [Rp β] : Rp (α × β) := ⟨fun F v ab => ∃ p x y, v = .ref p ∧ F p = some (.tup [x, y]) ∧ rep F x ab.1 ∧ rep F y ab.2, fun e ⟨p, x, y, h1, h2, h3, h4⟩ => ⟨p, x, y, h1, e _ _ h2, Rp.mono e h3, Rp.mono e h4⟩⟩
/-- a tuple of three -/
structure T3 (α β γ : Type) where
  (a : α) (b : β) (c : γ)
  deriving DecidableEq
instance {α β γ : Type} [Rp α] [Rp β] [Rp γ] : Rp (T3 α β γ) := ⟨fun F v t => ∃ p x y z, v = .ref p ∧ F p = some (.tup [x, y, z]) ∧ rep F x t.a ∧ rep F y t.b ∧ rep F z t.c,
  fun e ⟨p, x, y, z, h1, h2, h3, h4, h5⟩ => ⟨p, x, y, z, h1, e _ _ h2, Rp.mono e h3, Rp.mono e h4, Rp.mono e h5⟩⟩

/-! ### what a value may be: data, or the address of an owned object -/
structure VR where
  rel : Hp → V → Prop
  mono : ∀ {F F' : Hp} {v : V}, Same F F' → rel F v → rel F' v
def Dat {α : Type} [Rp α] (a : α) : VR := ⟨fun F v => rep F v a, fun e h => Rp.mono e h⟩
def Ref (p : Addr) : VR := ⟨fun _ v => v = .ref p, fun _ h => h⟩
abbrev Slots := List (Option VR)
def slotOk (F : Hp) : Option VR → Option V → Prop
  | none, _ => True
  | some ρ, o => ∃ v, o = some v ∧ ρ.rel F v
abbrev SR (F : Hp) (Γ : Slots) (σ : St) : Prop := Paired (slotOk F) Γ σ
theorem slotOk.mono {F F' : Hp} (e : Same F F') : ∀ {s : Option VR} {o : Option V}, slotOk F s o → slotOk F' s o
  | none, _, h => h
  | some ρ, _, ⟨v, h1, h2⟩ => ⟨v, h1, ρ.mono e h2⟩
theorem SR.mono {F F' : Hp} {Γ : Slots} {σ : St} (e : Same F F') (h : SR F Γ σ) : SR F' Γ σ := Paired.mono (fun _ _ => slotOk.mono e) h
theorem SR.get {F : Hp} : ∀ {Γ : Slots} {σ : St} {i : Nat} {ρ : VR}, SR F Γ σ → Γ[i]? = some (some ρ) → ∃ v, σ[i]? = some (some v) ∧ ρ.rel F v
  | _, _, i, _, .nil, e => by simp at e
  | _, _, 0, _, .cons h _, e => by
    simp only [List.getElem?_cons_zero, Option.some.injEq] at e
    subst e
    obtain ⟨v, h1, h2⟩ := h
    exact ⟨v, by rw [List.getElem?_cons_zero, h1], h2⟩
  | _, _, i + 1, _, .cons _ t, e => by
    rw [List.getElem?_cons_succ] at e ⊢
    exact SR.get t e
theorem SR.set {F : Hp} {s : Option VR} {o : Option V} (h : slotOk F s o) : ∀ {Γ : Slots} {σ : St} (i : Nat), SR F Γ σ → SR F (Γ.set i s) (σ.set i o)
  | _, _, _, .nil => .nil
  | _, _, 0, .cons _ t => .cons h t
  | _, _, i + 1, .cons q t => .cons q (SR.set h i t)
theorem SR.wipe {F : Hp} {Γ : Slots} {σ : St} (h : SR F Γ σ) : ∀ vs : List Nat, SR F (vs.foldr (fun v g => g.set v none) Γ) (wipe σ vs)
  | [] => h
  | v :: vs => SR.set (s := none) (o := none) True.intro v (SR.wipe h vs)
/-- fewer things known -/
inductive Wk : Slots → Slots → Prop
  | nil : Wk [] []
  | keep {s Γ Γ'} : Wk Γ Γ' → Wk (s :: Γ) (s :: Γ')
  | drop {s Γ Γ'} : Wk Γ Γ' → Wk (s :: Γ) (none :: Γ')
theorem Wk.refl : ∀ Γ : Slots, Wk Γ Γ
  | [] => .nil
  | _ :: Γ => .keep (Wk.refl Γ)
theorem SR.wk {F : Hp} {Γ Γ' : Slots} {σ : St} (w : Wk Γ Γ') (h : SR F Γ σ) : SR F Γ' σ := by
  induction w generalizing σ with
  | nil => exact h
  | keep _ ih => cases h with | cons a t => exact .cons a (ih t)
  | drop _ ih => cases h with | cons a t => exact .cons True.intro (ih t)

/-! ### owned objects -/
structure OV where
  rel : Hp → Addr → List Cell → Prop
  mono : ∀ {F F' : Hp} {p : Addr} {L : List Cell}, Same F F' → rel F p L → rel F' p L
abbrev Th := List (Addr × OV)
inductive TR (F : Hp) : Th → List Cell → Prop
  | nil : TR F [] []
  | cons {p o T L1 L2} : o.rel F p L1 → TR F T L2 → TR F ((p, o) :: T) (L1 ++ L2)
theorem TR.mono {F F' : Hp} {T : Th} {L : List Cell} (e : Same F F') (h : TR F T L) : TR F' T L := by
  induction h with
  | nil => exact .nil
  | @cons p o T L1 L2 a _ ih => exact .cons (o.mono e a) ih
/-- the place of a thing that was taken out -/
def OV.emp : OV := ⟨fun _ _ L => L = [], fun _ h => h⟩
theorem TR.take {F : Hp} {T : Th} {L : List Cell} (h : TR F T L) : ∀ {k : Nat} {p : Addr} {o : OV}, T[k]? = some (p, o) → ∃ Lk Lr, o.rel F p Lk ∧ TR F (T.set k (p, .emp)) Lr ∧ L.Perm (Lk ++ Lr) := by
  induction h with
  | nil => intro k p o e; simp at e
  | @cons q u T L1 L2 a t ih =>
    intro k p o e
    cases k with
    | zero =>
      simp only [List.getElem?_cons_zero, Option.some.injEq, Prod.mk.injEq] at e
      obtain ⟨rfl, rfl⟩ := e
      exact ⟨L1, [] ++ L2, a, .cons (o := .emp) rfl t, .refl _⟩
    | succ k =>
      rw [List.getElem?_cons_succ] at e
      obtain ⟨Lk, Lr, h1, h2, h3⟩ := ih e
      refine ⟨Lk, L1 ++ Lr, h1, .cons a h2, ?_⟩
      refine (List.Perm.append_left L1 h3).trans ?_
      rw [← List.append_assoc, ← List.append_assoc]
      exact List.Perm.append_right Lr List.perm_append_comm
theorem TR.put {F : Hp} {T : Th} {p : Addr} {o : OV} {L Lr : List Cell} (h : TR F T Lr) (ho : ∀ {L' : List Cell}, L' = L → o.rel F p L') : ∀ {k : Nat}, T[k]? = some (p, .emp) → ∃ L', L'.Perm (L ++ Lr) ∧ TR F (T.set k (p, o)) L' := by
  induction h with
  | nil => intro k e; simp at e
  | @cons q u T L1 L2 a t ih =>
    intro k e
    cases k with
    | zero =>
      simp only [List.getElem?_cons_zero, Option.some.injEq, Prod.mk.injEq] at e
      obtain ⟨rfl, rfl⟩ := e
      have : L1 = [] := a
      subst this
      exact ⟨L ++ L2, .refl _, .cons (ho rfl) t⟩
    | succ k =>
      rw [List.getElem?_cons_succ] at e
      obtain ⟨L', h1, h2⟩ := ih e
      refine ⟨L1 ++ L', ?_, .cons a h2⟩
      refine (List.Perm.append_left L1 h1).trans ?_
      rw [← List.append_assoc, ← List.append_assoc]
      exact List.Perm.append_right L2 List.perm_append_comm
theorem TR.app {F : Hp} {T1 T2 : Th} {L1 L2 : List Cell} (h : TR F T1 L1) (h2 : TR F T2 L2) : TR F (T1 ++ T2) (L1 ++ L2) := by
  induction h with
  | nil => exact h2
  | cons a _ ih => rw [List.append_assoc]; exact .cons a ih
theorem TR.split {F : Hp} : ∀ {T1 T2 : Th} {L : List Cell}, TR F (T1 ++ T2) L → ∃ L1 L2, L = L1 ++ L2 ∧ TR F T1 L1 ∧ TR F T2 L2
  | [], _, L, h => ⟨[], L, rfl, .nil, h⟩
  | (p, o) :: T1, T2, _, .cons a t => by
    obtain ⟨L1, L2, rfl, h1, h2⟩ := TR.split t
    exact ⟨_, L2, by rw [List.append_assoc], .cons a h1, h2⟩
theorem TR.perm {F : Hp} {T T' : Th} (e : T.Perm T') : ∀ {L : List Cell}, TR F T L → ∃ L', L'.Perm L ∧ TR F T' L' := by
  induction e with
  | nil => intro L h; exact ⟨L, .refl _, h⟩
  | cons x _ ih =>
    intro L h
    cases h with
    | cons a t =>
      obtain ⟨L', h1, h2⟩ := ih t
      exact ⟨_, List.Perm.append_left _ h1, .cons a h2⟩
  | swap x y l =>
    intro L h
    cases h with
    | @cons _ _ _ A1 _ a t => cases t with
      | @cons _ _ _ B1 C1 b t =>
        refine ⟨B1 ++ (A1 ++ C1), ?_, .cons b (.cons a t)⟩
        rw [← List.append_assoc, ← List.append_assoc]
        exact List.Perm.append_right _ List.perm_append_comm
  | trans _ _ ih1 ih2 =>
    intro L h
    obtain ⟨L1, h1, h2⟩ := ih1 h
    obtain ⟨L2, h3, h4⟩ := ih2 h2
    exact ⟨L2, h3.trans h1, h4⟩

/-! ### signs of a form -/
def noStar : Expr → Bool
  | .Starred _ _ => false
  | _ => true
theorem star1 {e : Expr} {es : List Expr} {env : Env} (h : noStar e = true) : starEach (e :: es) env = (false, eval e env) :: starEach es env := by
  cases e <;> first | (cases h; done) | rfl
theorem stars {env : Env} : ∀ {es : List Expr}, es.all noStar = true → (starEach es env).any (·.1) = false
  | [], _ => rfl
  | e :: es, h => by
    rw [List.all_cons, Bool.and_eq_true] at h
    rw [star1 h.1, List.any_cons, stars h.2]
    rfl
theorem backTo_any {pos : Pos} : ∀ {l : List (Bool × Sem Value)}, l.any (·.1) = false → (backTo pos l).any (·.1) = false
  | [], _ => rfl
  | a :: l, h => by
    rw [List.any_cons, Bool.or_eq_false_iff] at h
    have ih : (backTo pos l).any (·.1) = false := backTo_any h.2
    show (a.1 || (backTo pos l).any (·.1)) = false
    rw [h.1, ih]
    rfl
theorem star1n {e : Expr} {env : Env} (h : noStar e = true) : starEach [e] env = [(false, eval e env)] := star1 h
theorem star2n {a b : Expr} {env : Env} (h : noStar a = true) (h2 : noStar b = true) : starEach [a, b] env = [(false, eval a env), (false, eval b env)] := (star1 h).trans (by rw [star1n h2])
def noComp : Expr → Bool
  | .ListComp _ _ _ _ => false
  | .SetComp _ _ _ _ => false
  | .DictComp _ _ _ _ _ => false
  | _ => true
theorem swaps_no {e : Expr} {t : Option Expr} {l : Nat} {env : Env} (h : noComp e = true) : swapsWith e t l env = pure false := by
  cases e <;> first | (cases h; done) | rfl
theorem sole_no {tg e : Expr} {l : Nat} {env : Env} (h : noComp e = true) : swapsWithSole [tg] e l env = pure false := swaps_no h
def noSet : Expr → Bool
  | .Set _ _ _ => false
  | _ => true
theorem folded_no {e : Expr} {env : Env} (h : noSet e = true) : ∀ x, foldedSetIterable e env x = pure x := by
  intro x
  cases e <;> first | (cases h; done) | rfl
def noTup : Expr → Bool
  | .Tuple _ _ _ => false
  | _ => true
theorem stores_no {tg e : Expr} {env : Env} (h : noTup e = true) : swappedStores [tg] e env = pure none := by
  cases e <;> first | (cases h; done) | (cases tg <;> rfl)
theorem assign_one {tg : Expr} {env : Env} (h : noStar tg = true) : (assignEach [tg] env).map (·.2) = [assign tg env] := by
  cases tg <;> first | (cases h; done) | rfl
def plainT : Expr → Bool
  | .UnaryOp _ _ _ => false
  | .BoolOp _ _ _ => false
  | .IfExp _ _ _ _ => false
  | .Compare _ _ _ _ => false
  | _ => true
theorem true_plain {e : Expr} {env : Env} (h : plainT e = true) : ∀ whole, isTrue e env whole = (do let v ← whole; standAt e.pos; holding [v] (truthy v)) := by
  intro whole
  cases e <;> first | (cases h; done) | rfl
theorem behind_no {op : CmpOp} {e : Expr} (h : noSet e = true) : behindInMarks op e = false := by
  cases e <;> first | (cases h; done) | rfl
/-! ### the machine's side: what must hold so that .. -/
structure WE (X : Cx) (e : Expr) (σ : L2.St) (H : Hp) (Q : VK) : Prop where
  run : ∀ (pins : List (Addr × Obj)) (s : Shared), Inv X pins σ H s → wpAny (model X.prog X.w) X.A (eval e X.env) (EP X pins σ Q) X.xe s
structure WT (X : Cx) (e : Expr) (σ : L2.St) (H : Hp) (Q : Bool → Hp → Prop) : Prop where
  run : ∀ (pins : List (Addr × Obj)) (s : Shared), Inv X pins σ H s → wpAny (model X.prog X.w) X.A (isTrue e X.env (eval e X.env)) (TP X pins σ Q) X.xe s
structure WTW (X : Cx) (e : Expr) (σ : L2.St) (H : Hp) (Q : Bool → Hp → Prop) : Prop where
  run : ∀ (whole : Sem Value) (pins : List (Addr × Obj)) (s : Shared), Inv X pins σ H s → wpAny (model X.prog X.w) X.A (isTrue e X.env whole) (TP X pins σ Q) X.xe s
structure WA (X : Cx) (es : List Expr) (σ : L2.St) (H : Hp) (Q : List V → Hp → Prop) : Prop where
  run : ∀ (pos : Pos) (pins : List (Addr × Obj)) (s : Shared), Inv X pins σ H s → wpAny (model X.prog X.w) X.A (spliced (backTo pos (starEach es X.env))) (AP X pins σ Q) X.xe s
structure WS (X : Cx) (st : Stmt) (D : Ends) (σ : L2.St) (H : Hp) : Prop where
  run : ∀ (pins : List (Addr × Obj)) (s : Shared), Inv X pins σ H s → wpAny (model X.prog X.w) X.A (exec st X.env) (SP X pins D) X.xe s
structure WSs (X : Cx) (st : List Stmt) (D : Ends) (σ : L2.St) (H : Hp) : Prop where
  run : ∀ (pins : List (Addr × Obj)) (s : Shared), Inv X pins σ H s → wpAny (model X.prog X.w) X.A (execs st X.env) (SP X pins D) X.xe s
section
variable {X : Cx} {e : Expr} {es : List Expr} {st : Stmt} {sts : List Stmt} {σ : St} {H : Hp}
theorem we_pe : PE X e (WE X e) := ⟨fun pins s σ H Q I h => h.run pins s I⟩
theorem we_of {t : TE} {Q : VK} (h : PE X e t) (q : t σ H Q) : WE X e σ H Q := ⟨fun pins s I => h.run pins s σ H Q I q⟩
theorem wt_pt : PT X e (WT X e) := ⟨fun pins s σ H Q I h => h.run pins s I⟩
theorem wt_of {t : TT} {Q : Bool → Hp → Prop} (h : PT X e t) (q : t σ H Q) : WT X e σ H Q := ⟨fun pins s I => h.run pins s σ H Q I q⟩
theorem wtw_pw : PW X e (WTW X e) := ⟨fun whole pins s σ H Q I h => h.run whole pins s I⟩
theorem wtw_of {t : TT} {Q : Bool → Hp → Prop} (h : PW X e t) (q : t σ H Q) : WTW X e σ H Q := ⟨fun whole pins s I => h.run whole pins s σ H Q I q⟩
theorem wa_pa : PA X es (WA X es) := ⟨fun pos pins s σ H Q I h => h.run pos pins s I⟩
theorem wa_of {t : TA} {Q : List V → Hp → Prop} (h : PA X es t) (q : t σ H Q) : WA X es σ H Q := ⟨fun pos pins s I => h.run pos pins s σ H Q I q⟩
theorem ws_ps : PS X st (WS X st) := ⟨fun pins s σ H D I h => h.run pins s I⟩
theorem ws_of {t : TS} {D : Ends} (h : PS X st t) (q : t D σ H) : WS X st D σ H := ⟨fun pins s I => h.run pins s σ H D I q⟩
theorem wss_pss : PSs X sts (WSs X sts) := ⟨fun pins s σ H D I h => h.run pins s I⟩
theorem wss_of {t : TS} {D : Ends} (h : PSs X sts t) (q : t D σ H) : WSs X sts D σ H := ⟨fun pins s I => h.run pins s σ H D I q⟩
theorem we_mono {Q Q' : VK} (h : WE X e σ H Q) (f : ∀ v H', Q v H' → Q' v H') : WE X e σ H Q' := ⟨fun pins s I =>
  thn (h.run pins s I) fun u s' ⟨v, H', I', r, q⟩ => ⟨v, H', I', r, f v H' q⟩⟩
end
end G

/-! GB: judgements on expressions and tests; scalars, lists, tuples, calls of built-ins. -/
namespace G
open PySem PySem.Spec PyProof.Rows L2
/-- * of two factors of together less than a hundred million bits -/
def CMulY (i j : Int) : Prop := i.natAbs.log2 + j.natAbs.log2 < 100000000
theorem CMulY.ok {i j : Int} (h : CMulY i j) : IntMulOk i j := by
  have b : ∀ x : Int, Builtin.Int.intBits x ≤ x.natAbs.log2 + 1 := fun x => by
    unfold Builtin.Int.intBits
    split <;> omega
  have h1 := b i
  have h2 := b j
  have h3 : i.natAbs.log2 + j.natAbs.log2 < 100000000 := h
  have e : bitsLine = 134217728 := by decide
  unfold IntMulOk
  intro z
  rw [Bool.and_eq_true] at z
  have z2 := z.2
  unfold Builtin.Int.intTooBig at z2
  have z3 := of_decide_eq_true z2
  rw [e] at z3
  omega
theorem op_mulY {X : Cx} : OpR X (binaryOp .Mult) (rI CMulY fun i j => .int (i * j)) := opI fun _ _ _ _ _ _ _ hc q => mul_int q hc.ok
open Rp (rep)

/-- what follows a value -/
abbrev Kp (F : Hp) (T : Th) (Lf : List Cell) (ρ : VR) (Q : VK) : Prop := ∀ F' M' H' v, Same F F' → TR F' T M' → Own F' (M' ++ Lf) H' → ρ.rel F' v → Q v H'
def JE (X : Cx) (Γ : Slots) (T : Th) (e : Expr) (ρ : VR) : Prop := ∀ F σ L Lf H, SR F Γ σ → TR F T L → Own F (L ++ Lf) H → ∀ Q : VK, Kp F T Lf ρ Q → WE X e σ H Q
def JT (X : Cx) (Γ : Slots) (T : Th) (e : Expr) (b : Bool) : Prop := ∀ F σ L Lf H, SR F Γ σ → TR F T L → Own F (L ++ Lf) H → ∀ Q : Bool → Hp → Prop, (∀ F' M' H', Same F F' → TR F' T M' → Own F' (M' ++ Lf) H' → Q b H') → WT X e σ H Q
def JTW (X : Cx) (Γ : Slots) (T : Th) (e : Expr) (b : Bool) : Prop := ∀ F σ L Lf H, SR F Γ σ → TR F T L → Own F (L ++ Lf) H → ∀ Q : Bool → Hp → Prop, (∀ F' M' H', Same F F' → TR F' T M' → Own F' (M' ++ Lf) H' → Q b H') → WTW X e σ H Q
abbrev VRs (F : Hp) (ρs : List VR) (vs : List V) : Prop := Paired (fun (ρ : VR) v => ρ.rel F v) ρs vs
theorem VRs.mono {F F' : Hp} {ρs : List VR} {vs : List V} (e : Same F F') (h : VRs F ρs vs) : VRs F' ρs vs := Paired.mono (fun ρ _ q => ρ.mono e q) h
theorem vrs1 {F : Hp} {α : VR} {vs : List V} (h : VRs F [α] vs) : ∃ x, vs = [x] ∧ α.rel F x := by
  cases h with
  | cons h t => cases t with
    | nil => exact ⟨_, rfl, h⟩
theorem vrs2 {F : Hp} {α β : VR} {vs : List V} (h : VRs F [α, β] vs) : ∃ x y, vs = [x, y] ∧ α.rel F x ∧ β.rel F y := by
  cases h with
  | cons h t =>
    obtain ⟨y, rfl, h'⟩ := vrs1 t
    exact ⟨_, _, rfl, h, h'⟩
theorem vrs3 {F : Hp} {α β γ : VR} {vs : List V} (h : VRs F [α, β, γ] vs) : ∃ x y z, vs = [x, y, z] ∧ α.rel F x ∧ β.rel F y ∧ γ.rel F z := by
  cases h with
  | cons h t =>
    obtain ⟨y, z, rfl, h', h2⟩ := vrs2 t
    exact ⟨_, _, _, rfl, h, h', h2⟩
def JA (X : Cx) (Γ : Slots) (T : Th) (es : List Expr) (ρs : List VR) : Prop := ∀ F σ L Lf H, SR F Γ σ → TR F T L → Own F (L ++ Lf) H → ∀ Q : List V → Hp → Prop, (∀ F' M' H' vs, Same F F' → TR F' T M' → Own F' (M' ++ Lf) H' → VRs F' ρs vs → Q vs H') → WA X es σ H Q

section
variable {X : Cx} {Γ : Slots} {T : Th} {a b c e : Expr} {es : List Expr} {pos : Pos} {α β ρ : VR}

theorem je_var (i : Nat) {x : Str} (h : Γ[i]? = some (some ρ)) (hN : X.N[i]? = some x := by rfl) (hv : Vis X.env.scope x := by first | exact Or.inl rfl | exact Or.inr (Or.inl rfl) | exact Or.inr (Or.inr rfl)) (hd : (x == ("__debug__" : Str)) = false := by decide)
    (hcd : (x == ("__classdict__" : Str)) = false := by decide) : JE X Γ T (.Name x pos) ρ := fun F σ L Lf H s t o Q k => by
  obtain ⟨v, h1, h2⟩ := s.get h
  exact we_of (pv i hN hv hd hcd) ⟨v, h1, k F L H v (Same.refl F) t o h2⟩
theorem je_con {v : V} (h : PE X e (tC v)) (hr : ∀ F, ρ.rel F v) : JE X Γ T e ρ := fun F σ L Lf H s t o Q k => we_of h (k F L H v (Same.refl F) t o (hr F))
theorem je_int {i : Int} {j : Nat} : JE X Γ T (.Constant (.int i) j pos) (Dat i) := je_con pe_int fun _ => rfl
theorem je_bl {i : Bool} {j : Nat} : JE X Γ T (.Constant (.bool i) j pos) (Dat i) := je_con pe_bl fun _ => rfl
theorem je_str {i : Str} {j : Nat} : JE X Γ T (.Constant (.str i) j pos) (Dat i) := je_con pe_str fun _ => rfl
theorem je_non {j : Nat} : JE X Γ T (.Constant .none j pos) (Dat ()) := je_con pe_non fun _ => rfl
theorem je_noneO {A : Type} [Rp A] {j : Nat} : JE X Γ T (.Constant .none j pos) (Dat (none : Option A)) := je_con pe_non fun _ => rfl
/-- a value seen as another thing -/
theorem je_as (h : JE X Γ T e α) (f : ∀ F v, α.rel F v → β.rel F v) : JE X Γ T e β := fun F σ L Lf H s t o Q k => h F σ L Lf H s t o Q fun F' M' H' v e' t' o' r => k F' M' H' v e' t' o' (f F' v r)
theorem je_some {A : Type} [Rp A] {x : A} (h : JE X Γ T e (Dat x)) : JE X Γ T e (Dat (some x)) := je_as h fun _ _ r => r
theorem je_eq {A : Type} [Rp A] {x y : A} (h : JE X Γ T e (Dat x)) (q : x = y) : JE X Γ T e (Dat y) := q ▸ h
/-- two operands -/
abbrev Op2 (T : Th) (r : R2) (α β ρ : VR) : Prop := ∀ F L Lf H x y (Q : VK), TR F T L → Own F (L ++ Lf) H → α.rel F x → β.rel F y → Kp F T Lf ρ Q → r x y H Q
theorem je_two {t : TE → TE → TE} {r : R2} (hp : PE X e (t (WE X a) (WE X b))) (ht : ∀ ta tb σ H Q, (ta σ H fun x H1 => tb σ H1 fun y H2 => r x y H2 Q) → t ta tb σ H Q)
    (ha : JE X Γ T a α) (hb : JE X Γ T b β) (hr : Op2 T r α β ρ) : JE X Γ T e ρ := fun F σ L Lf H s t o Q k =>
  we_of hp (ht _ _ _ _ _ (ha F σ L Lf H s t o _ fun F1 M1 H1 x e1 t1 o1 rx => hb F1 σ M1 Lf H1 (s.mono e1) t1 o1 _ fun F2 M2 H2 y e2 t2 o2 ry =>
    hr F2 M2 Lf H2 x y Q t2 o2 (α.mono e2 rx) ry fun F3 M3 H3 v e3 t3 o3 rv => k F3 M3 H3 v ((e1.trans e2).trans e3) t3 o3 rv))
theorem je_bin {op : Operator} {r : R2} (ho : OpR X (binaryOp op) r) (hr : Op2 T r α β ρ) (ha : JE X Γ T a α) (hb : JE X Γ T b β) : JE X Γ T (.BinOp a op b pos) ρ :=
  je_two (t := tOp r) (pe_op ho we_pe we_pe) (fun _ _ _ _ _ h => h) ha hb hr
theorem o2_I0 {g : Int → Int → V} {i j : Int} (h : ∀ F, ρ.rel F (g i j)) : Op2 T (rI0 g) (Dat i) (Dat j) ρ := fun F L Lf H x y Q t o rx ry k => ⟨i, j, rx, ry, k F L H _ (Same.refl F) t o (h F)⟩
theorem o2_I {C : Int → Int → Prop} {g : Int → Int → V} {i j : Int} (hc : C i j) (h : ∀ F, ρ.rel F (g i j)) : Op2 T (rI C g) (Dat i) (Dat j) ρ := fun F L Lf H x y Q t o rx ry k => ⟨i, j, rx, ry, hc, k F L H _ (Same.refl F) t o (h F)⟩
variable {i j k : Int} {k' : Bool}
theorem je_add (ha : JE X Γ T a (Dat i)) (hb : JE X Γ T b (Dat j)) : JE X Γ T (.BinOp a .Add b pos) (Dat (i + j)) := je_bin op_add (o2_I0 fun _ => rfl) ha hb
theorem je_sub (ha : JE X Γ T a (Dat i)) (hb : JE X Γ T b (Dat j)) : JE X Γ T (.BinOp a .Sub b pos) (Dat (i - j)) := je_bin op_sub (o2_I0 fun _ => rfl) ha hb
theorem je_mul (ha : JE X Γ T a (Dat i)) (hb : JE X Γ T b (Dat j)) (h : CMulY i j) : JE X Γ T (.BinOp a .Mult b pos) (Dat (i * j)) := je_bin op_mulY (o2_I h fun _ => rfl) ha hb
/-- one factor is small -/
theorem je_mulL (ha : JE X Γ T a (Dat i)) (hb : JE X Γ T b (Dat j)) (h : CMul i j) : JE X Γ T (.BinOp a .Mult b pos) (Dat (i * j)) := je_bin op_mul (o2_I h fun _ => rfl) ha hb
/-- a divisor that may be divided by -/
def CDv (j : Int) : Prop := 0 < j ∧ j.natAbs.log2 < 9000
instance (j : Int) : Decidable (CDv j) := inferInstanceAs (Decidable (_ ∧ _))
theorem je_div (ha : JE X Γ T a (Dat i)) (hb : JE X Γ T b (Dat j)) (h : CDv j) : JE X Γ T (.BinOp a .FloorDiv b pos) (Dat (i / j)) := je_bin op_fdivW (o2_I h fun _ => rfl) ha hb
theorem je_mod (ha : JE X Γ T a (Dat i)) (hb : JE X Γ T b (Dat j)) (h : 0 < j) : JE X Γ T (.BinOp a .Mod b pos) (Dat (i % j)) := je_bin op_mod (o2_I h fun _ => rfl) ha hb
theorem je_pow (ha : JE X Γ T a (Dat i)) (hb : JE X Γ T b (Dat j)) (h : CPow i j) : JE X Γ T (.BinOp a .Pow b pos) (Dat (i ^ j.toNat)) := je_bin op_pow (o2_I h fun _ => rfl) ha hb
theorem je_shl (ha : JE X Γ T a (Dat i)) (hb : JE X Γ T b (Dat j)) (h : CShl i j) : JE X Γ T (.BinOp a .LShift b pos) (Dat (i * 2 ^ j.toNat)) := je_bin op_shlW (o2_I h fun _ => rfl) ha hb
theorem je_shr (ha : JE X Γ T a (Dat i)) (hb : JE X Γ T b (Dat j)) (h : 0 ≤ j) : JE X Γ T (.BinOp a .RShift b pos) (Dat (i / 2 ^ j.toNat)) := je_bin op_shr (o2_I h fun _ => rfl) ha hb
theorem je_and (ha : JE X Γ T a (Dat i)) (hb : JE X Γ T b (Dat j)) : JE X Γ T (.BinOp a .BitAnd b pos) (Dat (Builtin.bitAnd i j)) := je_bin op_and (o2_I0 fun _ => rfl) ha hb
theorem je_or (ha : JE X Γ T a (Dat i)) (hb : JE X Γ T b (Dat j)) : JE X Γ T (.BinOp a .BitOr b pos) (Dat (Builtin.bitOr i j)) := je_bin op_or (o2_I0 fun _ => rfl) ha hb
theorem je_xor (ha : JE X Γ T a (Dat i)) (hb : JE X Γ T b (Dat j)) : JE X Γ T (.BinOp a .BitXor b pos) (Dat (Builtin.bitXor i j)) := je_bin op_xor (o2_I0 fun _ => rfl) ha hb
theorem je_one {t : TE → TE} {r : V → Hp → VK → Prop} (hp : PE X e (t (WE X a))) (ht : ∀ ta σ H Q, (ta σ H fun x H1 => r x H1 Q) → t ta σ H Q)
    (ha : JE X Γ T a α) (hr : ∀ F L Lf H x (Q : VK), TR F T L → Own F (L ++ Lf) H → α.rel F x → Kp F T Lf ρ Q → r x H Q) : JE X Γ T e ρ := fun F σ L Lf H s t o Q k =>
  we_of hp (ht _ _ _ _ (ha F σ L Lf H s t o _ fun F1 M1 H1 x e1 t1 o1 rx => hr F1 M1 Lf H1 x Q t1 o1 rx fun F3 M3 H3 v e3 t3 o3 rv => k F3 M3 H3 v (e1.trans e3) t3 o3 rv))
theorem je_neg (ha : JE X Γ T a (Dat i)) : JE X Γ T (.UnaryOp .USub a pos) (Dat (-i)) := je_one (t := tUn (rU fun i => .int (-i))) (pe_un un_neg we_pe) (fun _ _ _ _ h => h) ha fun F L Lf H x Q t o rx k => ⟨i, rx, k F L H _ (Same.refl F) t o rfl⟩
theorem je_inv (ha : JE X Γ T a (Dat i)) : JE X Γ T (.UnaryOp .Invert a pos) (Dat (Builtin.bitNot i)) := je_one (t := tUn (rU fun i => .int (Builtin.bitNot i))) (pe_un un_inv we_pe) (fun _ _ _ _ h => h) ha fun F L Lf H x Q t o rx k => ⟨i, rx, k F L H _ (Same.refl F) t o rfl⟩
theorem je_addS {x y : Str} (ha : JE X Γ T a (Dat x)) (hb : JE X Γ T b (Dat y)) (h : x.length + y.length ≤ sizeLine) : JE X Γ T (.BinOp a .Add b pos) (Dat (x ++ y)) :=
  je_bin op_add_str (fun F L Lf H u v Q t o rx ry k => ⟨x, y, rx, ry, h, k F L H _ (Same.refl F) t o rfl⟩) ha hb

/-! ### comparisons -/
def JC (X : Cx) (Γ : Slots) (T : Th) (op : CmpOp) (a b : Expr) (ρ : VR) : Prop := ∀ F σ L Lf H, SR F Γ σ → TR F T L → Own F (L ++ Lf) H → ∀ Q : VK, Kp F T Lf ρ Q → ∃ t, PC X op a b t ∧ t σ H Q
theorem pc_op {op : CmpOp} {r : R2} {ta tb : TE} (ho : OpR X (compareOp op) r) (ha : PE X a ta) (hb : PE X b tb) : PC X op a b (tOp r ta tb) :=
  ⟨fun pins s σ H Q I h => thn (ha.run pins s σ H _ I h) fun v s1 ⟨x, H1, I1, r1, q1⟩ => thn (hb.run pins s1 σ H1 _ I1 q1) fun u s2 ⟨y, H2, I2, r2, q2⟩ => ho pins s2 σ H2 x y v u _ I2 r1 r2 q2⟩
theorem jc_op {op : CmpOp} {r : R2} (ho : OpR X (compareOp op) r) (hr : Op2 T r α β ρ) (ha : JE X Γ T a α) (hb : JE X Γ T b β) : JC X Γ T op a b ρ := fun F σ L Lf H s t o Q k =>
  ⟨_, pc_op ho we_pe we_pe, ha F σ L Lf H s t o _ fun F1 M1 H1 x e1 t1 o1 rx => hb F1 σ M1 Lf H1 (s.mono e1) t1 o1 _ fun F2 M2 H2 y e2 t2 o2 ry =>
    hr F2 M2 Lf H2 x y Q t2 o2 (α.mono e2 rx) ry fun F3 M3 H3 v e3 t3 o3 rv => k F3 M3 H3 v ((e1.trans e2).trans e3) t3 o3 rv⟩
theorem je_c {op : CmpOp} (h : JC X Γ T op a b ρ) (hm : behindInMarks op b = false := by exact behind_no rfl) : JE X Γ T (.Compare a [op] [b] pos) ρ := fun F σ L Lf H s t o Q k => by
  obtain ⟨t', h1, h2⟩ := h F σ L Lf H s t o Q k
  exact we_of (pe_cmp h1 hm) h2
theorem jt_c {op : CmpOp} {k' : Bool} (h : JC X Γ T op a b (Dat k')) (hm : behindInMarks op b = false := by exact behind_no rfl) : JT X Γ T (.Compare a [op] [b] pos) k' := fun F σ L Lf H s t o Q k => by
  obtain ⟨t', h1, h2⟩ := h F σ L Lf H s t o (fun x H' => ∃ c, x = .bl c ∧ Q c H') fun F' M' H' v e t' o' r => ⟨k', r, k F' M' H' e t' o'⟩
  exact wt_of (pt_cmp h1 hm) h2
/-- a scalar: its equality is the values' -/
class Sca (A : Type) extends Rp A where
  val : A → V
  ok : ∀ F v (a : A), rep F v a ↔ v = val a
  inj : ∀ a b : A, val a = val b → a = b
  sc : ∀ a b : A, scal (val a) (val b) = true
  flat : ∀ a : A, flatV (val a) = true
instance : Sca Int := { val := .int, ok := fun _ _ _ => Iff.rfl, inj := fun _ _ h => V.int.inj h, sc := fun _ _ => rfl, flat := fun _ => rfl }
instance : Sca Bool := { val := .bl, ok := fun _ _ _ => Iff.rfl, inj := fun _ _ h => V.bl.inj h, sc := fun _ _ => rfl, flat := fun _ => rfl }
instance : Sca Str := { val := .str, ok := fun _ _ _ => Iff.rfl, inj := fun _ _ h => V.str.inj h, sc := fun _ _ => rfl, flat := fun _ => rfl }
theorem Sca.dec {A : Type} [Sca A] [DecidableEq A] (x y : A) : decide (Sca.val x = Sca.val y) = decide (x = y) := by
  by_cases h : x = y
  · subst h; rw [decide_eq_true rfl, decide_eq_true rfl]
  · rw [decide_eq_false h, decide_eq_false fun q => h (Sca.inj _ _ q)]
theorem jc_eqS {A : Type} [Sca A] [DecidableEq A] {x y : A} (ha : JE X Γ T a (Dat x)) (hb : JE X Γ T b (Dat y)) : JC X Γ T .Eq a b (Dat (decide (x = y))) :=
  jc_op op_eq (fun F L Lf H u v Q t o rx ry k => by
    obtain rfl := (Sca.ok _ _ _).mp rx
    obtain rfl := (Sca.ok _ _ _).mp ry
    exact ⟨Sca.sc x y, k F L H _ (Same.refl F) t o (by show V.bl _ = V.bl _; rw [Sca.dec])⟩) ha hb
theorem jc_neS {A : Type} [Sca A] [DecidableEq A] {x y : A} (ha : JE X Γ T a (Dat x)) (hb : JE X Γ T b (Dat y)) : JC X Γ T .NotEq a b (Dat (!decide (x = y))) :=
  jc_op op_ne (fun F L Lf H u v Q t o rx ry k => by
    obtain rfl := (Sca.ok _ _ _).mp rx
    obtain rfl := (Sca.ok _ _ _).mp ry
    exact ⟨Sca.sc x y, k F L H _ (Same.refl F) t o (by show V.bl _ = V.bl _; rw [Sca.dec])⟩) ha hb
theorem jc_lt (ha : JE X Γ T a (Dat i)) (hb : JE X Γ T b (Dat j)) : JC X Γ T .Lt a b (Dat (decide (i < j))) := jc_op op_lt (o2_I0 fun _ => rfl) ha hb
theorem jc_le (ha : JE X Γ T a (Dat i)) (hb : JE X Γ T b (Dat j)) : JC X Γ T .LtE a b (Dat (decide (i ≤ j))) := jc_op op_le (o2_I0 fun _ => rfl) ha hb
theorem jc_gt (ha : JE X Γ T a (Dat i)) (hb : JE X Γ T b (Dat j)) : JC X Γ T .Gt a b (Dat (decide (j < i))) := jc_op op_gt (o2_I0 fun _ => rfl) ha hb
theorem jc_ge (ha : JE X Γ T a (Dat i)) (hb : JE X Γ T b (Dat j)) : JC X Γ T .GtE a b (Dat (decide (j ≤ i))) := jc_op op_ge (o2_I0 fun _ => rfl) ha hb
/-- a chain of two comparisons of ints -/
theorem je_chain {op op' : CmpOp} {p p' : Int → Int → Bool} (ho : OpR X (compareOp op) (rI0 fun i j => .bl (p i j))) (ho' : OpR X (compareOp op') (rI0 fun i j => .bl (p' i j)))
    (ha : JE X Γ T a (Dat i)) (hb : JE X Γ T b (Dat j)) (hc : JE X Γ T c (Dat k)) (hp : ∀ ta tb tc, PE X a ta → PE X b tb → PE X c tc → PE X e (tChain (rI0 fun i j => .bl (p i j)) (rI0 fun i j => .bl (p' i j)) ta tb tc)) : JE X Γ T e (Dat (p i j && p' j k)) := fun F σ L Lf H s t o Q q =>
  we_of (hp _ _ _ we_pe we_pe we_pe) (ha F σ L Lf H s t o _ fun F1 M1 H1 x e1 t1 o1 rx => hb F1 σ M1 Lf H1 (s.mono e1) t1 o1 _ fun F2 M2 H2 y e2 t2 o2 ry => ⟨i, j, rx, ry, p i j, rfl, by
    cases h : p i j with
    | true => exact hc F2 σ M2 Lf H2 ((s.mono e1).mono e2) t2 o2 _ fun F3 M3 H3 z e3 t3 o3 rz => ⟨j, k, ry, rz, q F3 M3 H3 _ ((e1.trans e2).trans e3) t3 o3 (by show V.bl _ = V.bl _; rw [h]; rfl)⟩
    | false => exact q F2 M2 H2 _ (e1.trans e2) t2 o2 (by show V.bl _ = V.bl _; rw [h]; rfl)⟩)
theorem jt_chain {p p' : Int → Int → Bool} (ha : JE X Γ T a (Dat i)) (hb : JE X Γ T b (Dat j)) (hc : JE X Γ T c (Dat k)) (hp : ∀ ta tb tc, PE X a ta → PE X b tb → PE X c tc → PT X e (tTest (tChain (rI0 fun i j => .bl (p i j)) (rI0 fun i j => .bl (p' i j)) ta tb tc))) : JT X Γ T e (p i j && p' j k) := fun F σ L Lf H s t o Q q =>
  wt_of (hp _ _ _ we_pe we_pe we_pe) (ha F σ L Lf H s t o _ fun F1 M1 H1 x e1 t1 o1 rx => hb F1 σ M1 Lf H1 (s.mono e1) t1 o1 _ fun F2 M2 H2 y e2 t2 o2 ry => ⟨i, j, rx, ry, p i j, rfl, by
    cases h : p i j with
    | true => exact hc F2 σ M2 Lf H2 ((s.mono e1).mono e2) t2 o2 _ fun F3 M3 H3 z e3 t3 o3 rz => ⟨j, k, ry, rz, p' j k, rfl, by have := q F3 M3 H3 ((e1.trans e2).trans e3) t3 o3; rwa [h] at this⟩
    | false => exact ⟨false, rfl, by have := q F2 M2 H2 (e1.trans e2) t2 o2; rwa [h] at this⟩⟩)
/-! ### truth -/
theorem jt_val (h : JE X Γ T e (Dat k')) (he : ∀ whole, isTrue e X.env whole = (do let v ← whole; standAt e.pos; holding [v] (truthy v)) := by exact true_plain rfl) : JT X Γ T e k' := fun F σ L Lf H s t o Q q =>
  wt_of (pt_val we_pe he) (h F σ L Lf H s t o _ fun F1 M1 H1 x e1 t1 o1 rx => ⟨k', rx, q F1 M1 H1 e1 t1 o1⟩)
theorem JTW.jt (h : JTW X Γ T e k') : JT X Γ T e k' := fun F σ L Lf H s t o Q q => ⟨fun pins s' I => (h F σ L Lf H s t o Q q).run (eval e X.env) pins s' I⟩
theorem jt_not (h : JT X Γ T a k') : JT X Γ T (.UnaryOp .Not a pos) (!k') := fun F σ L Lf H s t o Q q => wt_of (pt_not wt_pt) (h F σ L Lf H s t o _ fun F1 M1 H1 e1 t1 o1 => q F1 M1 H1 e1 t1 o1)
theorem jw_and1 (h : JT X Γ T a k') : JTW X Γ T (.BoolOp .And [a] pos) k' := fun F σ L Lf H s t o Q q => wtw_of (pw_and1 wt_pt) (h F σ L Lf H s t o Q q)
theorem jw_or1 (h : JT X Γ T a k') : JTW X Γ T (.BoolOp .Or [a] pos) k' := fun F σ L Lf H s t o Q q => wtw_of (pw_or1 wt_pt) (h F σ L Lf H s t o Q q)
variable {k1 k2 : Bool} {rest : List Expr}
theorem jw_and (ha : JT X Γ T a k1) (hb : k1 = true → JTW X Γ T (.BoolOp .And (b :: rest) pos) k2) : JTW X Γ T (.BoolOp .And (a :: b :: rest) pos) (k1 && k2) := fun F σ L Lf H s t o Q q =>
  wtw_of (pw_and wt_pt wtw_pw) (ha F σ L Lf H s t o _ fun F1 M1 H1 e1 t1 o1 => by
    cases k1 with
    | true => exact hb rfl F1 σ M1 Lf H1 (s.mono e1) t1 o1 _ fun F2 M2 H2 e2 t2 o2 => q F2 M2 H2 (e1.trans e2) t2 o2
    | false => exact q F1 M1 H1 e1 t1 o1)
theorem jw_or (ha : JT X Γ T a k1) (hb : k1 = false → JTW X Γ T (.BoolOp .Or (b :: rest) pos) k2) : JTW X Γ T (.BoolOp .Or (a :: b :: rest) pos) (k1 || k2) := fun F σ L Lf H s t o Q q =>
  wtw_of (pw_or wt_pt wtw_pw) (ha F σ L Lf H s t o _ fun F1 M1 H1 e1 t1 o1 => by
    cases k1 with
    | false => exact hb rfl F1 σ M1 Lf H1 (s.mono e1) t1 o1 _ fun F2 M2 H2 e2 t2 o2 => q F2 M2 H2 (e1.trans e2) t2 o2
    | true => exact q F1 M1 H1 e1 t1 o1)
/-- as values -/
theorem je_not (h : JE X Γ T a (Dat k')) : JE X Γ T (.UnaryOp .Not a pos) (Dat (!k')) := je_one (t := tNotV) (r := fun x H Q => ∃ c, x = .bl c ∧ Q (.bl (!c)) H) (pe_not we_pe) (fun _ _ _ _ h => h) h fun F L Lf H x Q t o rx q => ⟨k', rx, q F L H _ (Same.refl F) t o rfl⟩
theorem je_and1 {op : BoolOp} (h : JE X Γ T a ρ) : JE X Γ T (.BoolOp op [a] pos) ρ := fun F σ L Lf H s t o Q q => we_of (pe_one we_pe) (h F σ L Lf H s t o Q q)
theorem je_andV (ha : JE X Γ T a (Dat k1)) (hb : k1 = true → JE X Γ T (.BoolOp .And (b :: rest) pos) (Dat k2)) : JE X Γ T (.BoolOp .And (a :: b :: rest) pos) (Dat (k1 && k2)) := fun F σ L Lf H s t o Q q =>
  we_of (pe_and we_pe we_pe) (ha F σ L Lf H s t o _ fun F1 M1 H1 x e1 t1 o1 rx => ⟨k1, rx, by
    cases k1 with
    | true => exact hb rfl F1 σ M1 Lf H1 (s.mono e1) t1 o1 _ fun F2 M2 H2 v e2 t2 o2 rv => q F2 M2 H2 v (e1.trans e2) t2 o2 rv
    | false => exact q F1 M1 H1 _ e1 t1 o1 rfl⟩)
theorem je_orV (ha : JE X Γ T a (Dat k1)) (hb : k1 = false → JE X Γ T (.BoolOp .Or (b :: rest) pos) (Dat k2)) : JE X Γ T (.BoolOp .Or (a :: b :: rest) pos) (Dat (k1 || k2)) := fun F σ L Lf H s t o Q q =>
  we_of (pe_or we_pe we_pe) (ha F σ L Lf H s t o _ fun F1 M1 H1 x e1 t1 o1 rx => ⟨k1, rx, by
    cases k1 with
    | false => exact hb rfl F1 σ M1 Lf H1 (s.mono e1) t1 o1 _ fun F2 M2 H2 v e2 t2 o2 rv => q F2 M2 H2 v (e1.trans e2) t2 o2 rv
    | true => exact q F1 M1 H1 _ e1 t1 o1 rfl⟩)
theorem je_if {ρ1 : VR} (hc : JT X Γ T c k1) (ha : k1 = true → JE X Γ T a ρ1) (hb : k1 = false → JE X Γ T b ρ1) : JE X Γ T (.IfExp c a b pos) ρ1 := fun F σ L Lf H s t o Q q =>
  we_of (pe_ifExp wt_pt we_pe we_pe) (hc F σ L Lf H s t o _ fun F1 M1 H1 e1 t1 o1 => by
    cases k1 with
    | true => exact ha rfl F1 σ M1 Lf H1 (s.mono e1) t1 o1 _ fun F2 M2 H2 v e2 t2 o2 rv => q F2 M2 H2 v (e1.trans e2) t2 o2 rv
    | false => exact hb rfl F1 σ M1 Lf H1 (s.mono e1) t1 o1 _ fun F2 M2 H2 v e2 t2 o2 rv => q F2 M2 H2 v (e1.trans e2) t2 o2 rv)
/-- is None -/
theorem jc_isN {A : Type} [Rp A] {x : Option A} (hv : ∀ F (y : A), ¬ rep F V.non y) (ha : JE X Γ T a (Dat x)) {j : Nat} {p' : Pos} : JC X Γ T .Is a (.Constant .none j p') (Dat x.isNone) := fun F σ L Lf H s t o Q k =>
  ⟨_, pc_isN we_pe, ha F σ L Lf H s t o _ fun F1 M1 H1 v e1 t1 o1 rv => k F1 M1 H1 _ e1 t1 o1 (by
    cases x with
    | none => obtain rfl : v = .non := rv; rfl
    | some y =>
      have : v ≠ .non := fun z => hv F1 y (z ▸ rv)
      show V.bl _ = V.bl _
      rw [decide_eq_false this]; rfl)⟩
theorem jc_notN {A : Type} [Rp A] {x : Option A} (hv : ∀ F (y : A), ¬ rep F V.non y) (ha : JE X Γ T a (Dat x)) {j : Nat} {p' : Pos} : JC X Γ T .IsNot a (.Constant .none j p') (Dat x.isSome) := fun F σ L Lf H s t o Q k =>
  ⟨_, pc_notN we_pe, ha F σ L Lf H s t o _ fun F1 M1 H1 v e1 t1 o1 rv => k F1 M1 H1 _ e1 t1 o1 (by
    cases x with
    | none => obtain rfl : v = .non := rv; rfl
    | some y =>
      have : v ≠ .non := fun z => hv F1 y (z ▸ rv)
      show V.bl _ = V.bl _
      rw [decide_eq_false this]; rfl)⟩

/-! ### arguments, displays -/
theorem ja_nil : JA X Γ T [] [] := fun F σ L Lf H s t o Q k => wa_of pa_nil (k F L H [] (Same.refl F) t o .nil)
theorem ja_cons {ρs : List VR} (h : JE X Γ T e ρ) (hr : JA X Γ T es ρs) (hs : starEach (e :: es) X.env = (false, eval e X.env) :: starEach es X.env := by exact star1 rfl) : JA X Γ T (e :: es) (ρ :: ρs) := fun F σ L Lf H s t o Q k =>
  wa_of (pa_cons we_pe wa_pa hs) (h F σ L Lf H s t o _ fun F1 M1 H1 x e1 t1 o1 rx => hr F1 σ M1 Lf H1 (s.mono e1) t1 o1 _ fun F2 M2 H2 vs e2 t2 o2 rs => k F2 M2 H2 (x :: vs) (e1.trans e2) t2 o2 (.cons (ρ.mono e2 rx) rs))
theorem own_ice {F : Hp} {M : List Cell} {H : Hp} {p : Addr} {o : HO} (h : Own F M H) (hp : H p = none) : Same F (upd F p o) ∧ Own (upd F p o) M (upd H p o) ∧ upd F p o p = some o := ⟨same_upd (h.fresh hp).1, h.ice hp, upd_same⟩
/-- a frozen list, tuple -/
theorem vrs_dats {A : Type} [Rp A] {F : Hp} : ∀ {xs : List A} {vs : List V}, VRs F (xs.map Dat) vs → Paired (rep F) vs xs
  | [], _, .nil => .nil
  | _ :: _, _, .cons h t => .cons h (vrs_dats t)
theorem je_listF {A : Type} [Rp A] {xs : List A} (h : JA X Γ T es (xs.map Dat)) (hl : xs.length ≤ sizeLine) : JE X Γ T (.List es pos) (Dat xs) := fun F σ L Lf H s t o Q k =>
  we_of (pe_lst wa_pa) (h F σ L Lf H s t o _ fun F1 M1 H1 vs e1 t1 o1 rs => by
    have pr := vrs_dats rs
    refine ⟨by rw [pr.length]; exact hl, fun p hp => ?_⟩
    obtain ⟨e2, o2, e3⟩ := own_ice (o := .lst vs) o1 hp
    exact k _ M1 _ _ (e1.trans e2) (t1.mono e2) o2 ⟨p, vs, rfl, e3, Paired.mono (fun _ _ => Rp.mono e2) pr⟩)
theorem je_tup2 {A B : Type} [Rp A] [Rp B] {x : A} {y : B} {x1 : Nat} (ha : JE X Γ T a (Dat x)) (hb : JE X Γ T b (Dat y)) (hs : starEach [a, b] X.env = (false, eval a X.env) :: starEach [b] X.env := by exact star1 rfl) (hs' : starEach [b] X.env = (false, eval b X.env) :: starEach [] X.env := by exact star1 rfl) : JE X Γ T (.Tuple [a, b] x1 pos) (Dat (x, y)) := fun F σ L Lf H s t o Q k =>
  we_of (pe_tup wa_pa) (ja_cons ha (ja_cons hb ja_nil hs') hs F σ L Lf H s t o _ fun F1 M1 H1 vs e1 t1 o1 rs => by
    obtain ⟨_, _, rfl, r1, r2⟩ := vrs2 rs
    refine ⟨by show 2 ≤ sizeLine; decide, fun p hp => ?_⟩
    obtain ⟨e2, o2, e3⟩ := own_ice (o := .tup [_, _]) o1 hp
    exact k _ M1 _ _ (e1.trans e2) (t1.mono e2) o2 ⟨p, _, _, rfl, e3, Rp.mono e2 r1, Rp.mono e2 r2⟩)
theorem je_tup3 {A B C : Type} [Rp A] [Rp B] [Rp C] {x : A} {y : B} {z : C} {x1 : Nat} (ha : JE X Γ T a (Dat x)) (hb : JE X Γ T b (Dat y)) (hc : JE X Γ T c (Dat z)) (hs : starEach [a, b, c] X.env = (false, eval a X.env) :: starEach [b, c] X.env := by exact star1 rfl) (hs' : starEach [b, c] X.env = (false, eval b X.env) :: starEach [c] X.env := by exact star1 rfl)
    (hs2 : starEach [c] X.env = (false, eval c X.env) :: starEach [] X.env := by exact star1 rfl) : JE X Γ T (.Tuple [a, b, c] x1 pos) (Dat (T3.mk x y z)) := fun F σ L Lf H s t o Q k =>
  we_of (pe_tup wa_pa) (ja_cons ha (ja_cons hb (ja_cons hc ja_nil hs2) hs') hs F σ L Lf H s t o _ fun F1 M1 H1 vs e1 t1 o1 rs => by
    obtain ⟨_, _, _, rfl, r1, r2, r3⟩ := vrs3 rs
    refine ⟨by show 3 ≤ sizeLine; decide, fun p hp => ?_⟩
    obtain ⟨e2, o2, e3⟩ := own_ice (o := .tup [_, _, _]) o1 hp
    exact k _ M1 _ _ (e1.trans e2) (t1.mono e2) o2 ⟨p, _, _, _, rfl, e3, Rp.mono e2 r1, Rp.mono e2 r2, Rp.mono e2 r3⟩)

/-! ### calls of built-ins -/
abbrev C1 (T : Th) (r : List V → Hp → VK → Prop) (ρs : List VR) (ρ : VR) : Prop := ∀ F L Lf H vs (Q : VK), TR F T L → Own F (L ++ Lf) H → VRs F ρs vs → Kp F T Lf ρ Q → r vs H Q
theorem je_ca {ρs : List VR} {r : List V → Hp → VK → Prop} (hp : PE X e (tCB r (WA X es))) (ha : JA X Γ T es ρs) (hr : C1 T r ρs ρ) : JE X Γ T e ρ := fun F σ L Lf H s t o Q k =>
  we_of hp (ha F σ L Lf H s t o _ fun F1 M1 H1 vs e1 t1 o1 rs => hr F1 M1 Lf H1 vs Q t1 o1 rs fun F2 M2 H2 v e2 t2 o2 rv => k F2 M2 H2 v (e1.trans e2) t2 o2 rv)
end
end G

/-! GC: lists, tuples, texts: reading; comprehensions. -/
namespace G
open PySem L2
open Rp (rep)
/-- an owned list -/
def OL {A : Type} [Rp A] (xs : List A) : OV := ⟨fun F p L => ∃ vs, Paired (rep F) vs xs ∧ L = [(p, .lst vs)], fun e ⟨vs, h, q⟩ => ⟨vs, Paired.mono (fun _ _ => Rp.mono e) h, q⟩⟩
/-- a value of this kind is a list of xs to be read -/
abbrev Rdl {A : Type} [Rp A] (K : PySem.W.Frag) (T : Th) (ρ : VR) (xs : List A) : Prop := ∀ F L Lf H v, TR F T L → Own F (L ++ Lf) H → ρ.rel F v → ∃ p vs, v = .ref p ∧ SqL K H p vs ∧ Paired (rep F) vs xs
/-- .. one of the program's own -/
abbrev Rdm {A : Type} [Rp A] (T : Th) (ρ : VR) (xs : List A) : Prop := ∀ F L Lf H v, TR F T L → Own F (L ++ Lf) H → ρ.rel F v → ∃ p vs, v = .ref p ∧ H p = some (.lst vs) ∧ Paired (rep F) vs xs
theorem Rdm.rd {A : Type} [Rp A] {K : PySem.W.Frag} {T : Th} {ρ : VR} {xs : List A} (h : Rdm T ρ xs) : Rdl K T ρ xs := fun F L Lf H v t o r => by
  obtain ⟨p, vs, h1, h2, h3⟩ := h F L Lf H v t o r
  exact ⟨p, vs, h1, SqL.of h2, h3⟩
theorem rdm_dat {A : Type} [Rp A] {T : Th} {xs : List A} : Rdm T (Dat xs) xs := fun F L Lf H v t o ⟨p, vs, h1, h2, h3⟩ => ⟨p, vs, h1, o.sub _ _ h2, h3⟩
theorem rdl_dat {A : Type} [Rp A] {K : PySem.W.Frag} {T : Th} {xs : List A} : Rdl K T (Dat xs) xs := rdm_dat.rd
/-- the script -/
def Scr (K : PySem.W.Frag) (ns : List Int) : VR := ⟨fun F v => ∃ p, v = .ref p ∧ SqL K F p (ns.map V.int), fun e ⟨p, h, q⟩ => ⟨p, h, Same.seq e q⟩⟩
theorem paired_ints {F : Hp} : ∀ ns : List Int, Paired (rep F) (ns.map V.int) ns
  | [] => .nil
  | n :: ns => .cons rfl (paired_ints ns)
theorem rdl_scr {K : PySem.W.Frag} {T : Th} {ns : List Int} : Rdl K T (Scr K ns) ns := fun F L Lf H v t o ⟨p, h1, h2⟩ => ⟨p, _, h1, Same.seq o.sub h2, paired_ints ns⟩
theorem TR.cell {F : Hp} {T : Th} {L Lf : List Cell} {H : Hp} {k : Nat} {p : Addr} {u : OV} (t : TR F T L) (o : Own F (L ++ Lf) H) (h : T[k]? = some (p, u)) : ∃ Lk Lr, u.rel F p Lk ∧ Own F (Lk ++ Lr) H := by
  obtain ⟨Lk, Lr, h1, h2, h3⟩ := t.take h
  refine ⟨Lk, Lr ++ Lf, h1, o.perm ?_⟩
  rw [← List.append_assoc]
  exact List.Perm.append_right Lf h3
theorem rdm_own {A : Type} [Rp A] {T : Th} {xs : List A} {p : Addr} (k : Nat) (h : T[k]? = some (p, OL xs)) : Rdm T (Ref p) xs := fun F L Lf H v t o r => by
  obtain ⟨Lk, Lr, ⟨vs, h1, h2⟩, o'⟩ := t.cell o h
  subst h2
  exact ⟨p, vs, r, o'.cel _ (List.mem_cons_self ..), h1⟩
theorem rdl_own {A : Type} [Rp A] {K : PySem.W.Frag} {T : Th} {xs : List A} {p : Addr} (k : Nat) (h : T[k]? = some (p, OL xs)) : Rdl K T (Ref p) xs := (rdm_own k h).rd
theorem Paired.get {α β : Type} {R : α → β → Prop} : ∀ {xs : List α} {ys : List β} {i : Nat} {y : β}, Paired R xs ys → ys[i]? = some y → ∃ x, xs[i]? = some x ∧ R x y
  | _, _, i, _, .nil, e => by simp at e
  | _, _, 0, _, .cons h _, e => by simp only [List.getElem?_cons_zero, Option.some.injEq] at e; subst e; exact ⟨_, rfl, h⟩
  | _, _, i + 1, _, .cons _ t, e => by rw [List.getElem?_cons_succ] at e ⊢; exact Paired.get t e
theorem Paired.get' {α β : Type} {R : α → β → Prop} : ∀ {xs : List α} {ys : List β} {i : Nat} {x : α}, Paired R xs ys → xs[i]? = some x → ∃ y, ys[i]? = some y ∧ R x y
  | _, _, i, _, .nil, e => by simp at e
  | _, _, 0, _, .cons h _, e => by simp only [List.getElem?_cons_zero, Option.some.injEq] at e; subst e; exact ⟨_, rfl, h⟩
  | _, _, i + 1, _, .cons _ t, e => by rw [List.getElem?_cons_succ] at e ⊢; exact Paired.get' t e
theorem Paired.take {α β : Type} {R : α → β → Prop} : ∀ {xs : List α} {ys : List β} (n : Nat), Paired R xs ys → Paired R (xs.take n) (ys.take n)
  | _, _, 0, _ => .nil
  | _, _, _ + 1, .nil => .nil
  | _, _, n + 1, .cons r t => .cons r (Paired.take n t)
theorem Paired.drop {α β : Type} {R : α → β → Prop} : ∀ {xs : List α} {ys : List β} (n : Nat), Paired R xs ys → Paired R (xs.drop n) (ys.drop n)
  | _, _, 0, r => r
  | _, _, _ + 1, .nil => .nil
  | _, _, n + 1, .cons _ t => Paired.drop n t
theorem Paired.append {α β : Type} {R : α → β → Prop} : ∀ {xs xs' : List α} {ys ys' : List β}, Paired R xs ys → Paired R xs' ys' → Paired R (xs ++ xs') (ys ++ ys')
  | _, _, _, _, .nil, s => s
  | _, _, _, _, .cons r t, s => .cons r (Paired.append t s)
theorem Paired.at {α β : Type} {R : α → β → Prop} {xs : List α} {ys : List β} {i : Int} {y : β} (h : Paired R xs ys) (e : atI ys i = some y) : ∃ x, atI xs i = some x ∧ R x y := by
  unfold atI at e ⊢
  rw [h.length]
  cases q : ixN ys.length i with
  | none => rw [q] at e; cases e
  | some j => rw [q] at e; exact Paired.get h e
theorem Paired.map' {α β γ : Type} {R : α → β → Prop} {f : β → γ} {S : α → γ → Prop} (h : ∀ a b, R a b → S a (f b)) : ∀ {xs : List α} {ys : List β}, Paired R xs ys → Paired S xs (ys.map f)
  | _, _, .nil => .nil
  | _, _, .cons r t => .cons (h _ _ r) (Paired.map' h t)
/-- a slice of anything -/
def cutL {α : Type} (xs : List α) (lo hi : Option Int) : List α := (xs.drop (HT.sIx xs.length 0 lo)).take (HT.sIx xs.length xs.length hi - HT.sIx xs.length 0 lo)
theorem Paired.cut {β : Type} {R : V → β → Prop} {xs : List V} {ys : List β} (h : Paired R xs ys) (lo hi : Option Int) : Paired R (cutV xs lo hi) (cutL ys lo hi) := by
  unfold cutV cutL
  rw [h.length]
  exact Paired.take _ (Paired.drop _ h)

section
variable {X : Cx} {Γ : Slots} {T : Th} {a b c e : Expr} {es : List Expr} {pos : Pos} {α β ρ : VR} {A : Type} [Rp A] {xs : List A} {i j : Int}
theorem je_ixL {x : A} (ha : JE X Γ T a ρ) (hr : Rdl X.K T ρ xs) (hb : JE X Γ T b (Dat i)) (h : atI xs i = some x) (hs : PlainIx b := by exact fun _ _ => rfl) : JE X Γ T (.Subscript a b pos) (Dat x) :=
  je_two (t := tOp (rIxL X.K)) (pe_ix ix_list we_pe we_pe hs) (fun _ _ _ _ _ h => h) ha hb fun F L Lf H u v Q t o ru rv k => by
    obtain ⟨p, vs, h1, h2, h3⟩ := hr F L Lf H u t o ru
    obtain ⟨w, h4, h5⟩ := Paired.at h3 h
    exact ⟨p, vs, i, w, h1, rv, h2, h4, k F L H w (Same.refl F) t o h5⟩
theorem je_ixS {x : Str} {ch : Nat} (ha : JE X Γ T a (Dat x)) (hb : JE X Γ T b (Dat i)) (hl : x.length ≤ sizeLine) (h : atI x.cps.toList i = some ch) (hs : PlainIx b := by exact fun _ _ => rfl) : JE X Γ T (.Subscript a b pos) (Dat (⟨#[ch]⟩ : Str)) :=
  je_two (t := tOp rIxS) (pe_ix ix_str we_pe we_pe hs) (fun _ _ _ _ _ h => h) ha hb fun F L Lf H u v Q t o ru rv k => ⟨x, i, ch, ru, rv, hl, h, k F L H _ (Same.refl F) t o rfl⟩
theorem je_ix2a {B : Type} [Rp B] {x : A} {y : B} (ha : JE X Γ T a (Dat (x, y))) (hb : JE X Γ T b (Dat (0 : Int))) (hs : PlainIx b := by exact fun _ _ => rfl) : JE X Γ T (.Subscript a b pos) (Dat x) :=
  je_two (t := tOp (rIxT X.K)) (pe_ix ix_tup we_pe we_pe hs) (fun _ _ _ _ _ h => h) ha hb fun F L Lf H u v Q t o ⟨p, x', y', h1, h2, h3, h4⟩ rv k => ⟨p, _, 0, x', h1, rv, .inl (.inl (o.sub _ _ h2)), rfl, k F L H _ (Same.refl F) t o h3⟩
theorem je_ix2b {B : Type} [Rp B] {x : A} {y : B} (ha : JE X Γ T a (Dat (x, y))) (hb : JE X Γ T b (Dat (1 : Int))) (hs : PlainIx b := by exact fun _ _ => rfl) : JE X Γ T (.Subscript a b pos) (Dat y) :=
  je_two (t := tOp (rIxT X.K)) (pe_ix ix_tup we_pe we_pe hs) (fun _ _ _ _ _ h => h) ha hb fun F L Lf H u v Q t o ⟨p, x', y', h1, h2, h3, h4⟩ rv k => ⟨p, _, 1, y', h1, rv, .inl (.inl (o.sub _ _ h2)), rfl, k F L H _ (Same.refl F) t o h4⟩
theorem je_ix3a {B C : Type} [Rp B] [Rp C] {x : A} {y : B} {z : C} (ha : JE X Γ T a (Dat (T3.mk x y z))) (hb : JE X Γ T b (Dat (0 : Int))) (hs : PlainIx b := by exact fun _ _ => rfl) : JE X Γ T (.Subscript a b pos) (Dat x) :=
  je_two (t := tOp (rIxT X.K)) (pe_ix ix_tup we_pe we_pe hs) (fun _ _ _ _ _ h => h) ha hb fun F L Lf H u v Q t o ⟨p, x', y', z', h1, h2, h3, h4, h5⟩ rv k => ⟨p, _, 0, x', h1, rv, .inl (.inl (o.sub _ _ h2)), rfl, k F L H _ (Same.refl F) t o h3⟩
theorem je_ix3b {B C : Type} [Rp B] [Rp C] {x : A} {y : B} {z : C} (ha : JE X Γ T a (Dat (T3.mk x y z))) (hb : JE X Γ T b (Dat (1 : Int))) (hs : PlainIx b := by exact fun _ _ => rfl) : JE X Γ T (.Subscript a b pos) (Dat y) :=
  je_two (t := tOp (rIxT X.K)) (pe_ix ix_tup we_pe we_pe hs) (fun _ _ _ _ _ h => h) ha hb fun F L Lf H u v Q t o ⟨p, x', y', z', h1, h2, h3, h4, h5⟩ rv k => ⟨p, _, 1, y', h1, rv, .inl (.inl (o.sub _ _ h2)), rfl, k F L H _ (Same.refl F) t o h4⟩
theorem je_ix3c {B C : Type} [Rp B] [Rp C] {x : A} {y : B} {z : C} (ha : JE X Γ T a (Dat (T3.mk x y z))) (hb : JE X Γ T b (Dat (2 : Int))) (hs : PlainIx b := by exact fun _ _ => rfl) : JE X Γ T (.Subscript a b pos) (Dat z) :=
  je_two (t := tOp (rIxT X.K)) (pe_ix ix_tup we_pe we_pe hs) (fun _ _ _ _ _ h => h) ha hb fun F L Lf H u v Q t o ⟨p, x', y', z', h1, h2, h3, h4, h5⟩ rv k => ⟨p, _, 2, z', h1, rv, .inl (.inl (o.sub _ _ h2)), rfl, k F L H _ (Same.refl F) t o h5⟩
/-! slices -/
def JO (X : Cx) (Γ : Slots) (T : Th) (e : Option Expr) (v : Option Int) : Prop := (e = none ∧ v = none) ∨ ∃ e' i, e = some e' ∧ v = some i ∧ JE X Γ T e' (Dat i)
theorem jo_no : JO X Γ T none none := .inl ⟨rfl, rfl⟩
theorem jo_of (h : JE X Γ T e (Dat i)) : JO X Γ T (some e) (some i) := .inr ⟨e, i, rfl, rfl, h⟩
def WO (X : Cx) : Option Expr → TO
  | none => tNoPart
  | some e => tPart (WE X e)
theorem wo_po {e : Option Expr} : PO X e (WO X e) := by
  cases e with
  | none => exact po_none
  | some e => exact po_some we_pe
theorem JO.go {e : Option Expr} {v : Option Int} (h : JO X Γ T e v) {F : Hp} {σ : St} {L Lf : List Cell} {H : Hp} (s : SR F Γ σ) (t : TR F T L) (o : Own F (L ++ Lf) H) {Q : Option Int → Hp → Prop} (k : ∀ F' M' H', Same F F' → TR F' T M' → Own F' (M' ++ Lf) H' → Q v H') : WO X e σ H Q := by
  rcases h with ⟨rfl, rfl⟩ | ⟨e', i, rfl, rfl, h⟩
  · exact k F L H (Same.refl F) t o
  · exact h F σ L Lf H s t o _ fun F' M' H' v e' t' o' r => ⟨i, r, k F' M' H' e' t' o'⟩
theorem je_slL {lo hi : Option Expr} {l u : Option Int} {p2 : Pos} (ha : JE X Γ T a ρ) (hr : Rdl X.K T ρ xs) (hl : JO X Γ T lo l) (hu : JO X Γ T hi u) : JE X Γ T (.Subscript a (.Slice lo hi none p2) pos) (Dat (cutL xs l u)) := fun F σ L Lf H s t o Q k =>
  we_of (pe_slice sl_list we_pe wo_po wo_po) (ha F σ L Lf H s t o _ fun F1 M1 H1 x e1 t1 o1 rx => hl.go (s.mono e1) t1 o1 fun F2 M2 H2 e2 t2 o2 => hu.go ((s.mono e1).mono e2) t2 o2 fun F3 M3 H3 e3 t3 o3 => by
    obtain ⟨p, vs, h1, h2, h3⟩ := hr F3 M3 Lf H3 x t3 o3 (ρ.mono e3 (ρ.mono e2 rx))
    refine ⟨p, vs, h1, h2, fun q hq => ?_⟩
    obtain ⟨e4, o4, e5⟩ := own_ice (o := .lst (cutV vs l u)) o3 hq
    exact k _ M3 _ _ (((e1.trans e2).trans e3).trans e4) (t3.mono e4) o4 ⟨q, _, rfl, e5, Paired.cut (Paired.mono (fun _ _ => Rp.mono e4) h3) l u⟩)
theorem je_slS {x : Str} {lo hi : Option Expr} {l u : Option Int} {p2 : Pos} (ha : JE X Γ T a (Dat x)) (hl : JO X Γ T lo l) (hu : JO X Γ T hi u) (hz : x.length ≤ sizeLine) : JE X Γ T (.Subscript a (.Slice lo hi none p2) pos) (Dat (cutS x l u)) := fun F σ L Lf H s t o Q k =>
  we_of (pe_slice sl_str we_pe wo_po wo_po) (ha F σ L Lf H s t o _ fun F1 M1 H1 y e1 t1 o1 rx => hl.go (s.mono e1) t1 o1 fun F2 M2 H2 e2 t2 o2 => hu.go ((s.mono e1).mono e2) t2 o2 fun F3 M3 H3 e3 t3 o3 =>
    ⟨x, rx, hz, k _ M3 _ _ ((e1.trans e2).trans e3) t3 o3 rfl⟩)
/-! len, list(..), in -/
theorem je_lenL {p : Pos} (hg : Gl X "len") (hm : X.mg "len" = none) (ha : JE X Γ T a ρ) (hr : Rdl X.K T ρ xs) (hs : starEach [a] X.env = (false, eval a X.env) :: starEach [] X.env := by exact star1 rfl) : JE X Γ T (.Call (.Name "len" p) [a] [] pos) (Dat (xs.length : Int)) :=
  je_ca (pe_callB call_len_seq hg hm PySem.boot_len wa_pa (by decide) (by decide) hs (by rfl)) (ja_cons ha ja_nil hs) fun F L Lf H vs Q t o rs k => by
    obtain ⟨x, rfl, rx⟩ := vrs1 rs
    obtain ⟨p, ws, h1, h2, h3⟩ := hr F L Lf H x t o rx
    exact ⟨p, ws, by rw [h1], .inl h2, k F L H _ (Same.refl F) t o (by rw [h3.length]; rfl)⟩
theorem je_lenS {p : Pos} {x : Str} (hg : Gl X "len") (hm : X.mg "len" = none) (ha : JE X Γ T a (Dat x)) (hz : x.length ≤ sizeLine) (hs : starEach [a] X.env = (false, eval a X.env) :: starEach [] X.env := by exact star1 rfl) : JE X Γ T (.Call (.Name "len" p) [a] [] pos) (Dat (x.length : Int)) :=
  je_ca (pe_callB call_len_str hg hm PySem.boot_len wa_pa (by decide) (by decide) hs (by rfl)) (ja_cons ha ja_nil hs) fun F L Lf H vs Q t o rs k => by
    obtain ⟨y, rfl, rx⟩ := vrs1 rs
    exact ⟨x, by rw [show y = .str x from rx], hz, k F L H _ (Same.refl F) t o rfl⟩
/-- list(xs), frozen -/
theorem je_list {p : Pos} (hg : Gl X "list") (hm : X.mg "list" = none) (ha : JE X Γ T a ρ) (hr : Rdl X.K T ρ xs) (hs : starEach [a] X.env = (false, eval a X.env) :: starEach [] X.env := by exact star1 rfl) :
    JE X Γ T (.Call (.Name "list" p) [a] [] pos) (Dat xs) :=
  je_ca (pe_callTy call_list_of hg hm (by decide +kernel) wa_pa (by decide) (by decide) hs (by rfl)) (ja_cons ha ja_nil hs) fun F L Lf H vs Q t o rs k => by
    obtain ⟨x, rfl, rx⟩ := vrs1 rs
    obtain ⟨p, ws, h1, h2, h3⟩ := hr F L Lf H x t o rx
    refine ⟨p, ws, by rw [h1], .inl h2, fun l hl => ?_⟩
    obtain ⟨e4, o4, e5⟩ := own_ice (o := .lst ws) o hl
    exact k _ L _ _ e4 (t.mono e4) o4 ⟨l, _, rfl, e5, Paired.mono (fun _ _ => Rp.mono e4) h3⟩
theorem eqV_dec : ∀ u v : V, flatV u = true → scal u v = true → eqV u v = decide (u = v) := by
  intro u v h1 h2
  cases u <;> cases v <;> first | (cases h1; done) | (cases h2; done) | exact dec_int.symm | exact dec_bl.symm | exact dec_str.symm | rfl | simp [eqV]
theorem inV_dec {B : Type} [Sca B] [DecidableEq B] {F : Hp} {x : B} : ∀ {vs : List V} {ys : List B}, Paired (rep F) vs ys → vs.all flatV = true ∧ inV (Sca.val x) vs = decide (x ∈ ys)
  | _, _, .nil => ⟨rfl, rfl⟩
  | v :: vs, y :: ys, .cons h t => by
    obtain rfl := (Sca.ok _ _ _).mp h
    obtain ⟨h1, h2⟩ := inV_dec (x := x) t
    refine ⟨by rw [List.all_cons, Sca.flat, h1]; rfl, ?_⟩
    unfold inV at h2 ⊢
    rw [List.any_cons, h2]
    rw [eqV_dec _ _ (Sca.flat y) (Sca.sc y x), Sca.dec]
    by_cases hxy : x = y
    · subst hxy; simp
    · have : ¬ y = x := fun z => hxy z.symm
      simp [hxy, this]
theorem jc_inL {B : Type} [Sca B] [DecidableEq B] {x : B} {ys : List B} (ha : JE X Γ T a (Dat x)) (hb : JE X Γ T b ρ) (hr : Rdl X.K T ρ ys) : JC X Γ T .In a b (Dat (decide (x ∈ ys))) :=
  jc_op op_in_seq (fun F L Lf H u v Q t o ru rv k => by
    obtain rfl := (Sca.ok _ _ _).mp ru
    obtain ⟨p, vs, h1, h2, h3⟩ := hr F L Lf H v t o rv
    obtain ⟨h4, h5⟩ := inV_dec (x := x) h3
    exact ⟨p, vs, h1, .inl h2, Sca.flat x, h4, k F L H _ (Same.refl F) t o (by show V.bl _ = V.bl _; rw [if_neg (by decide), h5])⟩) ha hb
theorem jc_niL {B : Type} [Sca B] [DecidableEq B] {x : B} {ys : List B} (ha : JE X Γ T a (Dat x)) (hb : JE X Γ T b ρ) (hr : Rdl X.K T ρ ys) : JC X Γ T .NotIn a b (Dat (!decide (x ∈ ys))) :=
  jc_op op_notIn_seq (fun F L Lf H u v Q t o ru rv k => by
    obtain rfl := (Sca.ok _ _ _).mp ru
    obtain ⟨p, vs, h1, h2, h3⟩ := hr F L Lf H v t o rv
    obtain ⟨h4, h5⟩ := inV_dec (x := x) h3
    exact ⟨p, vs, h1, .inl h2, Sca.flat x, h4, k F L H _ (Same.refl F) t o (by show V.bl _ = V.bl _; rw [if_pos rfl, h5])⟩) ha hb
/-- isinstance, by the value's kind -/
theorem je_isi {p q : Pos} {ty : String} {t' : String} {bb : Bool} {f : Str} (hg : Gl X "isinstance") (hm : X.mg "isinstance" = none) (ha : JE X Γ T a ρ) (hc : PE X (.Name f q) (tC (.ty ty)))
    (hk : kitB t' ty = some bb) (hr : ∀ F L Lf H v, TR F T L → Own F (L ++ Lf) H → ρ.rel F v → TyX X.K H v (.type t')) (hs : starEach [a, .Name f q] X.env = (false, eval a X.env) :: starEach [.Name f q] X.env := by exact star1 rfl) (hs' : starEach [.Name f q] X.env = (false, eval (.Name f q) X.env) :: starEach [] X.env := by exact star1 rfl) :
    JE X Γ T (.Call (.Name "isinstance" p) [a, .Name f q] [] pos) (Dat bb) :=
  je_ca (ρs := [ρ, ⟨fun _ v => v = .ty ty, fun _ h => h⟩]) (pe_callB call_isi hg hm (by decide +kernel) wa_pa (by decide) (by decide) hs (by rw [hs']; rfl)) (ja_cons ha (ja_cons (je_con hc fun _ => rfl) ja_nil hs') hs) fun F L Lf H vs Q t o rs k => by
    obtain ⟨x, y, rfl, rx, ry⟩ := vrs2 rs
    cases (show y = .ty ty from ry)
    exact ⟨x, .ty ty, _, _, bb, rfl, .ty ty, hr F L Lf H x t o rx, kit_ty hk, k F L H _ (Same.refl F) t o rfl⟩
theorem ty_int {K : PySem.W.Frag} {i : Int} : ∀ F L Lf H v, TR F T L → Own F (L ++ Lf) H → (Dat i).rel F v → TyX K H v (.type "int") := fun F L Lf H v _ _ r => by cases (show v = .int i from r); exact .base (.int i)
theorem ty_bl {K : PySem.W.Frag} {i : Bool} : ∀ F L Lf H v, TR F T L → Own F (L ++ Lf) H → (Dat i).rel F v → TyX K H v (.type "bool") := fun F L Lf H v _ _ r => by cases (show v = .bl i from r); exact .base (.bl i)
theorem ty_str {K : PySem.W.Frag} {i : Str} : ∀ F L Lf H v, TR F T L → Own F (L ++ Lf) H → (Dat i).rel F v → TyX K H v (.type "str") := fun F L Lf H v _ _ r => by cases (show v = .str i from r); exact .base (.str i)
theorem ty_non {K : PySem.W.Frag} : ∀ F L Lf H v, TR F T L → Own F (L ++ Lf) H → (Dat ()).rel F v → TyX K H v (.type "NoneType") := fun F L Lf H v _ _ r => by cases (show v = .non from r); exact .base .non
theorem ty_lst {K : PySem.W.Frag} (hr : Rdm T ρ xs) : ∀ F L Lf H v, TR F T L → Own F (L ++ Lf) H → ρ.rel F v → TyX K H v (.type "list") := fun F L Lf H v t o r => by
  obtain ⟨p, vs, rfl, h2, _⟩ := hr F L Lf H v t o r
  exact .base (.lst h2)
theorem ty_tup2 {K : PySem.W.Frag} {B : Type} [Rp B] {x : A × B} : ∀ F L Lf H v, TR F T L → Own F (L ++ Lf) H → (Dat x).rel F v → TyX K H v (.type "tuple") := fun F L Lf H v t o ⟨p, _, _, h1, h2, _⟩ => by
  subst h1; exact .base (.tup (o.sub _ _ h2))
theorem ty_tup3 {K : PySem.W.Frag} {B C : Type} [Rp B] [Rp C] {x : T3 A B C} : ∀ F L Lf H v, TR F T L → Own F (L ++ Lf) H → (Dat x).rel F v → TyX K H v (.type "tuple") := fun F L Lf H v t o ⟨p, _, _, _, h1, h2, _⟩ => by
  subst h1; exact .base (.tup (o.sub _ _ h2))
/-- the name of a built-in class as a value -/
theorem pe_ty {f : Str} {q : Pos} {ty : String} (hg : Gl X f) (hm : X.mg f = none) (hv : bootBuiltins f = some (.type ty)) (hn : f ≠ "__name__" := by decide) (hd : (f == ("__debug__" : Str)) = false := by decide) : PE X (.Name f q) (tC (.ty ty)) := pe_bltn hg hm hv rfl hn hd
theorem je_min2 {p : Pos} (hg : Gl X "min") (hm : X.mg "min" = none) (hc : X.calm = true) (ha : JE X Γ T a (Dat i)) (hb : JE X Γ T b (Dat j)) (hs : starEach [a, b] X.env = (false, eval a X.env) :: starEach [b] X.env := by exact star1 rfl) (hs' : starEach [b] X.env = (false, eval b X.env) :: starEach [] X.env := by exact star1 rfl) : JE X Γ T (.Call (.Name "min" p) [a, b] [] pos) (Dat (min i j)) :=
  je_ca (pe_callB (call_min2 hc) hg hm (by decide +kernel) wa_pa (by decide) (by decide) hs (by rw [hs']; rfl)) (ja_cons ha (ja_cons hb ja_nil hs') hs) fun F L Lf H vs Q t o rs k => by
    obtain ⟨x, y, rfl, rx, ry⟩ := vrs2 rs
    cases (show x = .int i from rx); cases (show y = .int j from ry)
    exact ⟨i, j, rfl, k F L H _ (Same.refl F) t o (by show V.int _ = V.int _; congr 1; split <;> omega)⟩
theorem je_max2 {p : Pos} (hg : Gl X "max") (hm : X.mg "max" = none) (hc : X.calm = true) (ha : JE X Γ T a (Dat i)) (hb : JE X Γ T b (Dat j)) (hs : starEach [a, b] X.env = (false, eval a X.env) :: starEach [b] X.env := by exact star1 rfl) (hs' : starEach [b] X.env = (false, eval b X.env) :: starEach [] X.env := by exact star1 rfl) : JE X Γ T (.Call (.Name "max" p) [a, b] [] pos) (Dat (max i j)) :=
  je_ca (pe_callB (call_max2 hc) hg hm (by decide +kernel) wa_pa (by decide) (by decide) hs (by rw [hs']; rfl)) (ja_cons ha (ja_cons hb ja_nil hs') hs) fun F L Lf H vs Q t o rs k => by
    obtain ⟨x, y, rfl, rx, ry⟩ := vrs2 rs
    cases (show x = .int i from rx); cases (show y = .int j from ry)
    exact ⟨i, j, rfl, k F L H _ (Same.refl F) t o (by show V.int _ = V.int _; congr 1; split <;> omega)⟩
theorem je_intI {p : Pos} (hg : Gl X "int") (hm : X.mg "int" = none) (ha : JE X Γ T a (Dat i)) (hs : starEach [a] X.env = (false, eval a X.env) :: starEach [] X.env := by exact star1 rfl) : JE X Γ T (.Call (.Name "int" p) [a] [] pos) (Dat i) :=
  je_ca (pe_callTy call_int1 hg hm (by decide +kernel) wa_pa (by decide) (by decide) hs (by rfl)) (ja_cons ha ja_nil hs) fun F L Lf H vs Q t o rs k => by
    obtain ⟨x, rfl, rx⟩ := vrs1 rs
    cases (show x = .int i from rx)
    exact .inl ⟨i, rfl, k F L H _ (Same.refl F) t o rfl⟩
theorem je_intB {p : Pos} {y : Bool} (hg : Gl X "int") (hm : X.mg "int" = none) (ha : JE X Γ T a (Dat y)) (hs : starEach [a] X.env = (false, eval a X.env) :: starEach [] X.env := by exact star1 rfl) : JE X Γ T (.Call (.Name "int" p) [a] [] pos) (Dat (if y then (1 : Int) else 0)) :=
  je_ca (pe_callTy call_int1 hg hm (by decide +kernel) wa_pa (by decide) (by decide) hs (by rfl)) (ja_cons ha ja_nil hs) fun F L Lf H vs Q t o rs k => by
    obtain ⟨x, rfl, rx⟩ := vrs1 rs
    cases (show x = .bl y from rx)
    exact .inr ⟨y, rfl, k F L H _ (Same.refl F) t o rfl⟩
end
end G

/-! GD: statements, loops, defs. -/
namespace G
open PySem L2
open Rp (rep)
/-- what is wanted behind a block, by what is known of the slots and the owned objects -/
structure Po where
  nx : Slots → Th → Prop
  rt : VR → Th → Prop
  bk : Slots → Th → Prop := fun _ _ => False
  ct : Slots → Th → Prop := fun _ _ => False
  xr : Value → Th → Prop := fun _ _ => False
def atS (P : Slots → Th → Prop) (F : Hp) (Lf : List Cell) : St → Hp → Prop := fun σ H => ∃ Γ T F' L, P Γ T ∧ Same F F' ∧ SR F' Γ σ ∧ TR F' T L ∧ Own F' (L ++ Lf) H
def atV (P : VR → Th → Prop) (F : Hp) (Lf : List Cell) : VK := fun v H => ∃ ρ T F' L, P ρ T ∧ Same F F' ∧ ρ.rel F' v ∧ TR F' T L ∧ Own F' (L ++ Lf) H
def Po.ends (D : Po) (F : Hp) (Lf : List Cell) : Ends := { nx := atS D.nx F Lf, rt := atV D.rt F Lf, bk := atS D.bk F Lf, ct := atS D.ct F Lf }
def XOk (D : Po) (W : WX) (F : Hp) (Lf : List Cell) : Prop := ∀ c T F' L σ H, D.xr c T → Same F F' → TR F' T L → Own F' (L ++ Lf) H → W c none σ H
def JS (X : Cx) (W : WX) (Γ : Slots) (T : Th) (st : Stmt) (D : Po) : Prop := ∀ F σ L Lf H, SR F Γ σ → TR F T L → Own F (L ++ Lf) H → XOk D W F Lf → WS X st (D.ends F Lf) σ H
def JSs (X : Cx) (W : WX) (Γ : Slots) (T : Th) (sts : List Stmt) (D : Po) : Prop := ∀ F σ L Lf H, SR F Γ σ → TR F T L → Own F (L ++ Lf) H → XOk D W F Lf → WSs X sts (D.ends F Lf) σ H
structure EndsLe (D D' : Ends) : Prop where
  nx : ∀ σ H, D.nx σ H → D'.nx σ H
  rt : ∀ v H, D.rt v H → D'.rt v H
  bk : ∀ σ H, D.bk σ H → D'.bk σ H
  ct : ∀ σ H, D.ct σ H → D'.ct σ H
theorem sp_le {X : Cx} {pins : List (Addr × Obj)} {D D' : Ends} (e : EndsLe D D') {f : Flow} {s : Shared} (h : SP X pins D f s) : SP X pins D' f s := by
  cases f with
  | next => obtain ⟨σ, H, I, q⟩ := h; exact ⟨σ, H, I, e.nx _ _ q⟩
  | brk => obtain ⟨σ, H, I, q⟩ := h; exact ⟨σ, H, I, e.bk _ _ q⟩
  | cont => obtain ⟨σ, H, I, q⟩ := h; exact ⟨σ, H, I, e.ct _ _ q⟩
  | ret u => obtain ⟨v, σ, H, I, r, q⟩ := h; exact ⟨v, σ, H, I, r, e.rt _ _ q⟩
theorem wss_le {X : Cx} {sts : List Stmt} {D D' : Ends} {σ : St} {H : Hp} (e : EndsLe D D') (h : WSs X sts D σ H) : WSs X sts D' σ H := ⟨fun pins s I => thn (h.run pins s I) fun _ _ q => sp_le e q⟩
theorem ws_le {X : Cx} {st : Stmt} {D D' : Ends} {σ : St} {H : Hp} (e : EndsLe D D') (h : WS X st D σ H) : WS X st D' σ H := ⟨fun pins s I => thn (h.run pins s I) fun _ _ q => sp_le e q⟩
theorem atS_le {P P' : Slots → Th → Prop} {F F' : Hp} {Lf : List Cell} {σ : St} {H : Hp} (e : Same F F') (f : ∀ Γ T, P Γ T → P' Γ T) (h : atS P F' Lf σ H) : atS P' F Lf σ H := by
  obtain ⟨Γ, T, F1, L, h1, h2, h3⟩ := h
  exact ⟨Γ, T, F1, L, f _ _ h1, e.trans h2, h3⟩
theorem atV_le {P P' : VR → Th → Prop} {F F' : Hp} {Lf : List Cell} {v : V} {H : Hp} (e : Same F F') (f : ∀ ρ T, P ρ T → P' ρ T) (h : atV P F' Lf v H) : atV P' F Lf v H := by
  obtain ⟨Γ, T, F1, L, h1, h2, h3⟩ := h
  exact ⟨Γ, T, F1, L, f _ _ h1, e.trans h2, h3⟩
structure Po.Le (D D' : Po) : Prop where
  nx : ∀ Γ T, D.nx Γ T → D'.nx Γ T
  rt : ∀ ρ T, D.rt ρ T → D'.rt ρ T
  bk : ∀ Γ T, D.bk Γ T → D'.bk Γ T
  ct : ∀ Γ T, D.ct Γ T → D'.ct Γ T
  xr : ∀ c T, D.xr c T → D'.xr c T
theorem ends_le {D D' : Po} (h : D.Le D') {F F' : Hp} {Lf : List Cell} (e : Same F F') : EndsLe (D.ends F' Lf) (D'.ends F Lf) :=
  ⟨fun _ _ => atS_le e h.nx, fun _ _ => atV_le e h.rt, fun _ _ => atS_le e h.bk, fun _ _ => atS_le e h.ct⟩
theorem Po.Le.refl (D : Po) : D.Le D := ⟨fun _ _ h => h, fun _ _ h => h, fun _ _ h => h, fun _ _ h => h, fun _ _ h => h⟩
theorem XOk.mono {D D' : Po} {W : WX} {F F' : Hp} {Lf : List Cell} (h : XOk D' W F Lf) (e : Same F F') (f : ∀ c T, D.xr c T → D'.xr c T) : XOk D W F' Lf := fun c T F1 L σ H h1 h2 h3 h4 => h c T F1 L σ H (f _ _ h1) (e.trans h2) h3 h4

section
variable {X : Cx} {W : WX} {Γ Γ' : Slots} {T T' : Th} {st : Stmt} {rest sts : List Stmt} {D D' : Po} {e tg : Expr} {pos : Pos} {ρ : VR}
theorem js_le (h : JS X W Γ T st D) (l : D.Le D') : JS X W Γ T st D' := fun F σ L Lf H s t o x => ws_le (ends_le l (Same.refl F)) (h F σ L Lf H s t o (x.mono (Same.refl F) l.xr))
theorem jss_le (h : JSs X W Γ T sts D) (l : D.Le D') : JSs X W Γ T sts D' := fun F σ L Lf H s t o x => wss_le (ends_le l (Same.refl F)) (h F σ L Lf H s t o (x.mono (Same.refl F) l.xr))
theorem js_cons {M : Slots → Th → Prop} (h1 : JS X W Γ T st { D with nx := M }) (h2 : ∀ Γ' T', M Γ' T' → JSs X W Γ' T' rest D) : JSs X W Γ T (st :: rest) D := fun F σ L Lf H s t o x =>
  wss_of (pss_cons ws_ps wss_pss) (ws_le (D := ({ D with nx := M } : Po).ends F Lf) ⟨fun σ' H' ⟨Γ', T', F', L', m, e', s', t', o'⟩ => wss_le (ends_le (Po.Le.refl D) e') (h2 Γ' T' m F' σ' L' Lf H' s' t' o' (x.mono e' fun _ _ q => q)), fun _ _ q => q, fun _ _ q => q, fun _ _ q => q⟩ (h1 F σ L Lf H s t o x))
theorem js_nil (h : D.nx Γ T) : JSs X W Γ T [] D := fun F σ L Lf H s t o x => wss_of pss_nil ⟨Γ, T, F, L, h, Same.refl F, s, t, o⟩
theorem js_last (h : JS X W Γ T st D) : JSs X W Γ T [st] D := fun F σ L Lf H s t o x => wss_of (pss_one ws_ps) (h F σ L Lf H s t o x)
/-- one state behind -/
theorem js_step (h1 : JS X W Γ T st { nx := fun Γ1 T1 => Γ1 = Γ' ∧ T1 = T', rt := fun _ _ => False }) (h2 : JSs X W Γ' T' rest D) : JSs X W Γ T (st :: rest) D :=
  js_cons (M := fun Γ1 T1 => Γ1 = Γ' ∧ T1 = T') (js_le h1 ⟨fun _ _ h => h, fun _ _ h => h.elim, fun _ _ h => h.elim, fun _ _ h => h.elim, fun _ _ h => h.elim⟩) fun _ _ ⟨a, b⟩ => by subst a b; exact h2
/-- less is known -/
theorem js_wk (w : Wk Γ Γ') (h : JSs X W Γ' T sts D) : JSs X W Γ T sts D := fun F σ L Lf H s t o x => h F σ L Lf H (s.wk w) t o x
theorem js_pm (w : T.Perm T') (h : JSs X W Γ T' sts D) : JSs X W Γ T sts D := fun F σ L Lf H s t o x => by
  obtain ⟨L', p, t'⟩ := t.perm w
  exact h F σ L' Lf H s t' (o.perm (p.symm.append_right Lf)) x
/-- the first owned object is let go -/
theorem js_drop {p : Addr × OV} (h : JSs X W Γ T sts D) : JSs X W Γ (p :: T) sts D := fun F σ L Lf H s t o x => by
  cases t with
  | @cons p o1 T L1 L2 a t => exact h F σ L2 Lf H s t (Own.right (L1 := L1) (by rw [← List.append_assoc]; exact o)) x

/-! ### targets -/
def WG (X : Cx) (tg : Expr) : TG := fun v σ H Q => ∃ t, PG X tg t ∧ t v σ H Q
theorem wg_pg : PG X tg (WG X tg) := ⟨fun pins s σ H v u Q I r ⟨t, h, q⟩ => h.run pins s σ H v u Q I r q⟩
/-- storing a value known by ρ turns the slots by put -/
def JG (X : Cx) (tg : Expr) (ρ : VR) (put : Slots → Slots) (ws : List Nat) : Prop := ∀ Γ T F σ L Lf H v, SR F Γ σ → TR F T L → Own F (L ++ Lf) H → ρ.rel F v → ∀ Q : St → Hp → Prop, (∀ σ', SR F (put Γ) σ' → (∀ vs : List Nat, (∀ w ∈ ws, w ∈ vs) → wipe σ' vs = wipe σ vs) → Q σ' H) → WG X tg v σ H Q
theorem wipe_set {o : Option V} : ∀ (vs : List Nat) (σ : St) {i : Nat}, i ∈ vs → wipe (σ.set i o) vs = wipe σ vs
  | v :: vs, σ, i, h => by
    show (wipe (σ.set i o) vs).set v none = (wipe σ vs).set v none
    by_cases hi : i ∈ vs
    · rw [wipe_set vs σ hi]
    · have hv : i = v := by
        rcases List.mem_cons.mp h with h | h
        · exact h
        · exact absurd h hi
      subst hv
      have : ∀ (ws : List Nat), i ∉ ws → wipe (σ.set i o) ws = (wipe σ ws).set i o := by
        intro ws
        induction ws with
        | nil => intro _; rfl
        | cons w ws ih =>
          intro hw
          show (wipe (σ.set i o) ws).set w none = ((wipe σ ws).set w none).set i o
          rw [ih (fun z => hw (List.mem_cons_of_mem _ z)), List.set_comm _ _ (fun z => hw (by rw [z]; exact List.mem_cons_self ..))]
      rw [this vs hi, List.set_set]
theorem jg_name (i : Nat) {x : Str} (hN : X.N.Nodup) (hi : X.N[i]? = some x := by rfl) (hx : Loc X.env.scope x := by first | exact Or.inl rfl | exact Or.inr rfl) (hf : X.fn x = true ∨ X.env.scope.names.lookup x = some .local := by first | exact .inl rfl | exact .inr rfl) :
    JG X (.Name x pos) ρ (fun g => g.set i (some ρ)) [i] := fun Γ T F σ L Lf H v s t o r Q k => ⟨_, pg_name (i := i) hN hi hx hf, k _ (s.set (s := some ρ) (o := some v) ⟨v, rfl, r⟩ i) fun vs h => wipe_set vs σ (h i (List.mem_cons_self ..))⟩
/-- several targets -/
def WGs (X : Cx) (ts : List Expr) : TGs := fun vs σ H Q => ∃ t, PGs X ts t ∧ t vs σ H Q
def JGs (X : Cx) (ts : List Expr) (ρs : List VR) (put : Slots → Slots) (ws : List Nat) : Prop := ∀ Γ T F σ L Lf H vs, SR F Γ σ → TR F T L → Own F (L ++ Lf) H → VRs F ρs vs → ∀ Q : St → Hp → Prop, (∀ σ', SR F (put Γ) σ' → (∀ vs : List Nat, (∀ w ∈ ws, w ∈ vs) → wipe σ' vs = wipe σ vs) → Q σ' H) → WGs X ts vs σ H Q
theorem jgs_nil : JGs X [] [] (fun g => g) [] := fun Γ T F σ L Lf H vs s t o r Q k => by
  cases r; exact ⟨_, pgs_nil, rfl, k σ s fun _ _ => rfl⟩
theorem pgs_cons' {t1 : Expr} {ts : List Expr} (hn : (assignEach (t1 :: ts) X.env).map (·.2) = assign t1 X.env :: (assignEach ts X.env).map (·.2) := by rfl) : PGs X (t1 :: ts) (gCons (WG X t1) (WGs X ts)) := pgs_cons wg_pg ⟨fun pins s σ H v u Q I r ⟨t, h, q⟩ => h.run pins s σ H v u Q I r q⟩ hn
theorem jgs_cons {t1 : Expr} {ts : List Expr} {ρs : List VR} {put put' : Slots → Slots} {ws ws' : List Nat} (h1 : JG X t1 ρ put ws) (h2 : JGs X ts ρs put' ws') (hp : PGs X (t1 :: ts) (gCons (WG X t1) (WGs X ts)) := by exact pgs_cons') : JGs X (t1 :: ts) (ρ :: ρs) (fun g => put' (put g)) (ws ++ ws') := fun Γ T F σ L Lf H vs s t o r Q k => by
  cases r with
  | @cons _ v _ vs r rs => exact ⟨_, hp, v, vs, rfl, h1 Γ T F σ L Lf H v s t o r _ fun σ' s' hw => h2 _ T F σ' L Lf H vs s' t o rs Q fun σ2 s2 hw2 => k σ2 s2 fun vs h => (hw2 vs fun w hm => h w (List.mem_append_right _ hm)).trans (hw vs fun w hm => h w (List.mem_append_left _ hm))⟩
theorem jg_tup2 {A B : Type} [Rp A] [Rp B] {x : A} {y : B} {t1 t2 : Expr} {n : Nat} {put : Slots → Slots} {ws : List Nat} (hc : X.calm = true) (h : JGs X [t1, t2] [Dat x, Dat y] put ws) (hp : ∀ {t : TGs}, PGs X [t1, t2] t → PG X (.Tuple [t1, t2] n pos) (gTup X.K 2 t) := by exact fun h => pg_tup rfl h) : JG X (.Tuple [t1, t2] n pos) (Dat (x, y)) put ws :=
  fun Γ T F σ L Lf H v s t o ⟨p, u, w, h1, h2, h3, h4⟩ Q k => by
    obtain ⟨tt, g, q⟩ := h Γ T F σ L Lf H [u, w] s t o (.cons h3 (.cons h4 .nil)) Q k
    exact ⟨_, hp g, p, [u, w], h1, .inl (.inl (o.sub _ _ h2)), rfl, q⟩
theorem jg_tup3 {A B C : Type} [Rp A] [Rp B] [Rp C] {x : A} {y : B} {z : C} {t1 t2 t3 : Expr} {n : Nat} {put : Slots → Slots} {ws : List Nat} (hc : X.calm = true) (h : JGs X [t1, t2, t3] [Dat x, Dat y, Dat z] put ws) (hp : ∀ {t : TGs}, PGs X [t1, t2, t3] t → PG X (.Tuple [t1, t2, t3] n pos) (gTup X.K 3 t) := by exact fun h => pg_tup rfl h) : JG X (.Tuple [t1, t2, t3] n pos) (Dat (T3.mk x y z)) put ws :=
  fun Γ T F σ L Lf H v s t o ⟨p, u, w, w', h1, h2, h3, h4, h5⟩ Q k => by
    obtain ⟨tt, g, q⟩ := h Γ T F σ L Lf H [u, w, w'] s t o (.cons h3 (.cons h4 (.cons h5 .nil))) Q k
    exact ⟨_, hp g, p, [u, w, w'], h1, .inl (.inl (o.sub _ _ h2)), rfl, q⟩

/-! ### simple statements -/
theorem js_asg {put : Slots → Slots} {ws : List Nat} (he : JE X Γ T e ρ) (hg : JG X tg ρ put ws) (hD : D.nx (put Γ) T) (hs : swapsWithSole [tg] e pos.line X.env = pure false := by exact sole_no rfl) (hw : swappedStores [tg] e X.env = pure none := by exact stores_no rfl) (hn : (assignEach [tg] X.env).map (·.2) = [assign tg X.env] := by exact assign_one rfl) : JS X W Γ T (.Assign [tg] e pos) D := fun F σ L Lf H s t o x =>
  ws_of (ps_asg we_pe wg_pg hs hw hn) (he F σ L Lf H s t o _ fun F1 M1 H1 v e1 t1 o1 r => hg Γ T F1 σ M1 Lf H1 v (s.mono e1) t1 o1 r _ fun σ' s' _ => ⟨_, T, F1, M1, hD, e1, s', t1, o1⟩)
theorem js_setD (i : Nat) {x : Str} {pos' : Pos} (hN : X.N.Nodup) (he : JE X Γ T e ρ) (hD : D.nx (Γ.set i (some ρ)) T) (hi : X.N[i]? = some x := by rfl) (hx : Loc X.env.scope x := by first | exact Or.inl rfl | exact Or.inr rfl) (hs : swapsWith e (some (.Name x pos')) pos.line X.env = pure false := by exact swaps_no rfl) (hf : X.fn x = true ∨ X.env.scope.names.lookup x = some .local := by first | exact .inl rfl | exact .inr rfl) :
    JS X W Γ T (.Assign [.Name x pos'] e pos) D := fun F σ L Lf H s t o w =>
  ws_of (ps_set (i := i) hN hi hx we_pe hs hf) (he F σ L Lf H s t o _ fun F1 M1 H1 v e1 t1 o1 r => ⟨_, T, F1, M1, hD, e1, (s.mono e1).set (s := some ρ) (o := some v) ⟨v, rfl, r⟩ i, t1, o1⟩)
theorem js_set (i : Nat) {x : Str} {pos' : Pos} (hN : X.N.Nodup) (he : JE X Γ T e ρ) (h : JSs X W (Γ.set i (some ρ)) T rest D) (hi : X.N[i]? = some x := by rfl) (hx : Loc X.env.scope x := by first | exact Or.inl rfl | exact Or.inr rfl) (hs : swapsWith e (some (.Name x pos')) pos.line X.env = pure false := by exact swaps_no rfl) (hf : X.fn x = true ∨ X.env.scope.names.lookup x = some .local := by first | exact .inl rfl | exact .inr rfl) :
    JSs X W Γ T (.Assign [.Name x pos'] e pos :: rest) D := js_step (js_setD i hN he ⟨rfl, rfl⟩ hi hx hs hf) h
theorem js_aug (i : Nat) {x : Str} {pos' : Pos} {op : Operator} {ti : TIp} {α β : VR} (hN : X.N.Nodup) (hip : PIp X op ti) (hv : Γ[i]? = some (some α)) (he : JE X Γ T e β) (hr : ∀ F L Lf H x y (Q : VK), TR F T L → Own F (L ++ Lf) H → α.rel F x → β.rel F y → Kp F T Lf ρ Q → ti x y H Q)
    (hD : D.nx (Γ.set i (some ρ)) T) (hi : X.N[i]? = some x := by rfl) (hx : Loc X.env.scope x := by first | exact Or.inl rfl | exact Or.inr rfl) (hf : X.fn x = true ∨ X.env.scope.names.lookup x = some .local := by first | exact .inl rfl | exact .inr rfl) : JS X W Γ T (.AugAssign (.Name x pos') op e pos) D := fun F σ L Lf H s t o w => by
  obtain ⟨v, h1, h2⟩ := s.get hv
  exact ws_of (ps_aug (i := i) hN hi hx we_pe hip hf) ⟨v, h1, he F σ L Lf H s t o _ fun F1 M1 H1 y e1 t1 o1 r => hr F1 M1 Lf H1 v y _ t1 o1 (α.mono e1 h2) r fun F2 M2 H2 z e2 t2 o2 r2 =>
    ⟨_, T, F2, M2, hD, e1.trans e2, ((s.mono e1).mono e2).set (s := some ρ) (o := some z) ⟨z, rfl, r2⟩ i, t2, o2⟩⟩
theorem js_ret (he : JE X Γ T e ρ) (h : D.rt ρ T) : JS X W Γ T (.Return (some e) pos) D := fun F σ L Lf H s t o w =>
  ws_of (ps_ret we_pe) (he F σ L Lf H s t o _ fun F1 M1 H1 v e1 t1 o1 r => ⟨ρ, T, F1, M1, h, e1, r, t1, o1⟩)
theorem js_retN (h : D.rt (Dat ()) T) : JS X W Γ T (.Return none pos) D := fun F σ L Lf H s t o w => ws_of ps_retN ⟨Dat (), T, F, L, h, Same.refl F, rfl, t, o⟩
theorem js_pass (h : D.nx Γ T) : JS X W Γ T (.Pass pos) D := fun F σ L Lf H s t o w => ws_of ps_pass ⟨Γ, T, F, L, h, Same.refl F, s, t, o⟩
theorem js_break (h : D.bk Γ T) : JS X W Γ T (.Break pos) D := fun F σ L Lf H s t o w => ws_of ps_break ⟨Γ, T, F, L, h, Same.refl F, s, t, o⟩
theorem js_cont (h : D.ct Γ T) : JS X W Γ T (.Continue pos) D := fun F σ L Lf H s t o w => ws_of ps_continue ⟨Γ, T, F, L, h, Same.refl F, s, t, o⟩
theorem js_if {c : Expr} {a b : List Stmt} {k : Bool} (hc : JT X Γ T c k) (ha : k = true → JSs X W Γ T a D) (hb : k = false → JSs X W Γ T b D) : JS X W Γ T (.If c a b pos) D := fun F σ L Lf H s t o w =>
  ws_of (ps_if wt_pt wss_pss wss_pss) (hc F σ L Lf H s t o _ fun F1 M1 H1 e1 t1 o1 => by
    cases k with
    | true => exact wss_le (ends_le (Po.Le.refl D) e1) (ha rfl F1 σ M1 Lf H1 (s.mono e1) t1 o1 (w.mono e1 fun _ _ q => q))
    | false => exact wss_le (ends_le (Po.Le.refl D) e1) (hb rfl F1 σ M1 Lf H1 (s.mono e1) t1 o1 (w.mono e1 fun _ _ q => q)))
/-- if c: A, A does not go on -/
theorem js_ifr {c : Expr} {a : List Stmt} {k : Bool} (hc : JT X Γ T c k) (ha : k = true → JSs X W Γ T a { D with nx := fun _ _ => False }) (hb : k = false → JSs X W Γ T rest D) : JSs X W Γ T (.If c a [] pos :: rest) D :=
  js_cons (M := fun Γ' T' => k = false ∧ Γ' = Γ ∧ T' = T) (js_if hc (fun h => jss_le (ha h) ⟨fun _ _ z => z.elim, fun _ _ q => q, fun _ _ q => q, fun _ _ q => q, fun _ _ q => q⟩) fun h => js_nil ⟨h, rfl, rfl⟩) fun _ _ ⟨h, a, b⟩ => by subst a b; exact hb h
/-- if c: A (else: B), joined in a state of s -/
theorem js_ifk {S : Type} {c : Expr} {a b : List Stmt} {k : Bool} (P : S → Prop) (Γs : S → Slots) (Ts : S → Th) (hc : JT X Γ T c k) (ha : k = true → JSs X W Γ T a { D with nx := fun Γ' T' => ∃ s, P s ∧ Γ' = Γs s ∧ T' = Ts s })
    (hb : k = false → JSs X W Γ T b { D with nx := fun Γ' T' => ∃ s, P s ∧ Γ' = Γs s ∧ T' = Ts s }) (hk : ∀ s, P s → JSs X W (Γs s) (Ts s) rest D) : JSs X W Γ T (.If c a b pos :: rest) D :=
  js_cons (js_if hc ha hb) fun _ _ ⟨s, h, a, b⟩ => by subst a b; exact hk s h

/-! ### loops -/
def WI (X : Cx) (tg iter : Expr) : TI := fun σ H R => ∃ wi, PI X tg iter wi ∧ wi σ H R
theorem wi_pi {iter : Expr} : PI X tg iter (WI X tg iter) := ⟨fun pins s σ H R I ⟨wi, h, q⟩ => h.run pins s σ H R I q⟩
/-- an iterator that yields what ρs tell, as long as T is owned -/
def Feed (F0 : Hp) (T : Th) (J : It) (ρs : List VR) : Prop := ∀ F L Lf H i, Same F0 F → TR F T L → Own F (L ++ Lf) H → (ρs.length ≤ i → J.stop i H) ∧
  ∀ ρ, ρs[i]? = some ρ → J.go i H ∧ ∀ x H', J.yld i H x H' → ∃ F', Same F F' ∧ Own F' (L ++ Lf) H' ∧ ρ.rel F' x
def JI (X : Cx) (Γ : Slots) (T : Th) (tg iter : Expr) (ok : Th → Prop) (ρs : List VR) : Prop := ∀ F σ L Lf H, SR F Γ σ → TR F T L → Own F (L ++ Lf) H → ∀ R : It → Hp → Prop,
  (∀ J F' M' H', Same F F' → TR F' T M' → Own F' (M' ++ Lf) H' → (∀ T', ok T' → Feed F' T' J ρs) → R J H') → WI X tg iter σ H R
theorem js_for {S : Type} {iter : Expr} {body : List Stmt} {ok : Th → Prop} {ρs : List VR} (hp : PassesOwn (model X.prog X.w) X.A X.env X.xe) (hc : X.calm = true) (hI : JI X Γ T tg iter ok ρs) (Inv : Nat → S → Prop) (Γs : S → Slots) (Ts : S → Th) (s0 : S)
    (h0 : Inv 0 s0) (hΓ : Wk Γ (Γs s0)) (hT : T = Ts s0) (hok : ∀ i s, Inv i s → ok (Ts s))
    (turn : ∀ i ρ s, ρs[i]? = some ρ → Inv i s → ∃ put ws, JG X tg ρ put ws ∧ JSs X W (put (Γs s)) (Ts s) body { D with nx := fun Γ' T' => ∃ s', Inv (i + 1) s' ∧ Wk Γ' (Γs s') ∧ T' = Ts s', ct := fun Γ' T' => ∃ s', Inv (i + 1) s' ∧ Wk Γ' (Γs s') ∧ T' = Ts s', bk := D.nx })
    (fin : ∀ s, Inv ρs.length s → D.nx (Γs s) (Ts s)) (hs : ∀ x, foldedSetIterable iter X.env x = pure x := by exact folded_no rfl) : JS X W Γ T (.For tg iter body [] pos) D := fun F σ L Lf H sr t o w => by
  refine ws_of (ps_for hp hc wi_pi wg_pg wss_pss hs) ?_
  refine hI F σ L Lf H sr t o _ fun J F0 M0 H0 e0 t0 o0 fd => ?_
  refine ⟨fun i m σ' H' => i + m = ρs.length ∧ ∃ s F' L', Inv i s ∧ Same F0 F' ∧ SR F' (Γs s) σ' ∧ TR F' (Ts s) L' ∧ Own F' (L' ++ Lf) H', ⟨ρs.length, by simp, s0, F0, M0, h0, Same.refl _, (sr.mono e0).wk hΓ, hT ▸ t0, o0⟩, ?_⟩
  rintro i m σ' H' ⟨him, s, F', L', hi, e', s', t', o'⟩
  have f := fd (Ts s) (hok i s hi) F' L' Lf H' i e' t' o'
  cases q : ρs[i]? with
  | none =>
    have hl : ρs.length ≤ i := List.getElem?_eq_none_iff.mp q
    have : i = ρs.length := by omega
    subst this
    exact .inl ⟨f.1 hl, Γs s, Ts s, F', L', fin s hi, e0.trans e', s', t', o'⟩
  | some ρ =>
    have hl : i < ρs.length := (List.getElem?_eq_some_iff.mp q).1
    obtain ⟨hgo, hy⟩ := f.2 ρ q
    refine .inr ⟨hgo, fun σ2 H2 => ∃ s2 F2 L2, Inv (i + 1) s2 ∧ Same F0 F2 ∧ SR F2 (Γs s2) σ2 ∧ TR F2 (Ts s2) L2 ∧ Own F2 (L2 ++ Lf) H2, fun σ2 H2 ⟨s2, F2, L2, z⟩ => ⟨m - 1, by omega, by omega, s2, F2, L2, z⟩, fun x H1 hx => ?_⟩
    obtain ⟨F1, e1, o1, r1⟩ := hy x H1 hx
    obtain ⟨put, ws, hg, hb⟩ := turn i ρ s q hi
    refine hg (Γs s) (Ts s) F1 σ' L' Lf H1 x (s'.mono e1) (t'.mono e1) o1 r1 _ fun σ2 s2 _ => ?_
    refine wss_le ?_ (hb F1 σ2 L' Lf H1 s2 (t'.mono e1) o1 (w.mono ((e0.trans e').trans e1) fun _ _ q => q))
    have e2 := (e0.trans e').trans e1
    have nx : ∀ σ3 H3, atS (fun Γ' T' => ∃ s', Inv (i + 1) s' ∧ Wk Γ' (Γs s') ∧ T' = Ts s') F1 Lf σ3 H3 → ∃ s2 F2 L2, Inv (i + 1) s2 ∧ Same F0 F2 ∧ SR F2 (Γs s2) σ3 ∧ TR F2 (Ts s2) L2 ∧ Own F2 (L2 ++ Lf) H3 := by
      rintro σ3 H3 ⟨Γ3, T3, F3, L3, ⟨s3, i3, w3, rfl⟩, e3, s3', t3, o3⟩
      exact ⟨s3, F3, L3, i3, (e'.trans e1).trans e3, s3'.wk w3, t3, o3⟩
    exact ⟨nx, fun _ _ => atV_le e2 fun _ _ q => q, fun _ _ => atS_le e2 fun _ _ q => q, nx⟩
theorem js_while {S : Type} {c : Expr} {body : List Stmt} (hp : PassesOwn (model X.prog X.w) X.A X.env X.xe) (Inv : Nat → S → Prop) (Γs : S → Slots) (Ts : S → Th) (s0 : S) (m0 : Nat) (h0 : Inv m0 s0) (hΓ : Wk Γ (Γs s0)) (hT : T = Ts s0)
    (turn : ∀ m s, Inv m s → ∃ k, JT X (Γs s) (Ts s) c k ∧ (k = true → JSs X W (Γs s) (Ts s) body { D with nx := fun Γ' T' => ∃ m' s', m' < m ∧ Inv m' s' ∧ Wk Γ' (Γs s') ∧ T' = Ts s', ct := fun Γ' T' => ∃ m' s', m' < m ∧ Inv m' s' ∧ Wk Γ' (Γs s') ∧ T' = Ts s', bk := D.nx }) ∧ (k = false → D.nx (Γs s) (Ts s))) :
    JS X W Γ T (.While c body [] pos) D := fun F σ L Lf H sr t o w => by
  refine ws_of (ps_while hp wt_pt wss_pss) ?_
  refine ⟨fun m σ' H' => ∃ s F' L', Inv m s ∧ Same F F' ∧ SR F' (Γs s) σ' ∧ TR F' (Ts s) L' ∧ Own F' (L' ++ Lf) H', ⟨m0, s0, F, L, h0, Same.refl _, sr.wk hΓ, hT ▸ t, o⟩, ?_⟩
  rintro m σ' H' ⟨s, F', L', hi, e', s', t', o'⟩
  obtain ⟨k, hc, h1, h2⟩ := turn m s hi
  refine hc F' σ' L' Lf H' s' t' o' _ fun F1 M1 H1 e1 t1 o1 => ?_
  cases k with
  | false => exact ⟨Γs s, Ts s, F1, M1, h2 rfl, e'.trans e1, s'.mono e1, t1, o1⟩
  | true =>
    refine ⟨fun σ2 H2 => ∃ m' s2 F2 L2, m' < m ∧ Inv m' s2 ∧ Same F F2 ∧ SR F2 (Γs s2) σ2 ∧ TR F2 (Ts s2) L2 ∧ Own F2 (L2 ++ Lf) H2, fun σ2 H2 ⟨m', s2, F2, L2, z, z'⟩ => ⟨m', z, s2, F2, L2, z'⟩, ?_⟩
    have e2 := e'.trans e1
    refine wss_le ?_ (h1 rfl F1 σ' M1 Lf H1 (s'.mono e1) t1 o1 (w.mono e2 fun _ _ q => q))
    have nx : ∀ σ3 H3, atS (fun Γ' T' => ∃ m' s', m' < m ∧ Inv m' s' ∧ Wk Γ' (Γs s') ∧ T' = Ts s') F1 Lf σ3 H3 → ∃ m' s2 F2 L2, m' < m ∧ Inv m' s2 ∧ Same F F2 ∧ SR F2 (Γs s2) σ3 ∧ TR F2 (Ts s2) L2 ∧ Own F2 (L2 ++ Lf) H3 := by
      rintro σ3 H3 ⟨Γ3, T3, F3, L3, ⟨m', s3, z, i3, w3, rfl⟩, e3, s3', t3, o3⟩
      exact ⟨m', s3, F3, L3, z, i3, e2.trans e3, s3'.wk w3, t3, o3⟩
    exact ⟨nx, fun _ _ => atV_le e2 fun _ _ q => q, fun _ _ => atS_le e2 fun _ _ q => q, nx⟩
/-! what is walked -/
theorem ji_list {A : Type} [Rp A] {xs : List A} {iter : Expr} (ok : Th → Prop) (h : JE X Γ T iter ρ) (hr : ∀ T', (T' = T ∨ ok T') → Rdl X.K T' ρ xs) : JI X Γ T tg iter ok (xs.map Dat) := fun F σ L Lf H s t o R k =>
  ⟨_, pi_list we_pe, h F σ L Lf H s t o _ fun F1 M1 H1 v e1 t1 o1 r => by
    obtain ⟨p, vs, h1, h2, h3⟩ := hr T (.inl rfl) F1 M1 Lf H1 v t1 o1 r
    subst h1
    refine ⟨p, rfl, ⟨vs, h2⟩, k _ F1 M1 H1 e1 t1 o1 fun T' hT' F2 L2 Lf2 H2 i e2 t2 o2 => ?_⟩
    obtain ⟨p', vs', h1', h2', h3'⟩ := hr T' (.inr hT') F2 L2 Lf2 H2 _ t2 o2 (ρ.mono e2 r)
    cases h1'
    refine ⟨fun hl => ⟨vs', h2', by rw [h3'.length, ← List.length_map (f := (Dat : A → VR))]; exact hl⟩, fun ρ' hρ => ?_⟩
    rw [List.getElem?_map] at hρ
    cases hx : xs[i]? with
    | none => rw [hx] at hρ; cases hρ
    | some x =>
      rw [hx] at hρ
      cases hρ
      obtain ⟨w, h4, h5⟩ := Paired.get h3' hx
      exact ⟨⟨vs', w, h2', h4⟩, fun y H' ⟨a, b⟩ => ⟨F2, Same.refl _, by rw [a]; exact o2, by
        have := b vs' h2'
        rw [h4] at this
        cases this
        exact h5⟩⟩⟩
end
end G

/-! GE: defs and their promises, calls, owned objects changed, comprehensions, loops by a mirror. -/
namespace G
open PySem PySem.Spec PyProof.Rows L2
open Rp (rep)
theorem passN {X : Cx} : Passes (L2N.CX X.prog X.w) X E0 := fun _ _ _ _ _ _ _ h => by
  obtain ⟨_, _, _, _, _, _, _, _, _, _, _, _, z⟩ := h
  exact z.elim
/-- what a def promises, for each argument tuple a of the mirror -/
structure GSpec (A : Type) where
  ok : A → Prop
  vals : A → List VR
  owns : A → Th
  res : A → VR → Th → Prop
  exc : A → Value → Th → Prop := fun _ _ _ => False
def GSpec.sp {A : Type} (g : GSpec A) : Sp := fun vs H Q E => ∃ a F L Lf, g.ok a ∧ VRs F (g.vals a) vs ∧ TR F (g.owns a) L ∧ Own F (L ++ Lf) H ∧ (∀ v H', atV (g.res a) F Lf v H' → Q v H') ∧
  ∀ c T F' L' H', g.exc a c T → Same F F' → TR F' T L' → Own F' (L' ++ Lf) H' → E c none H'
def G0 (N : List Str) (vals : List VR) : Slots := vals.map some ++ List.replicate (N.length - vals.length) none
theorem sr_start {F : Hp} {N : List Str} {ρs : List VR} {vs : List V} (h : VRs F ρs vs) : SR F (G0 N ρs) (L2.start N vs) := by
  unfold G0 L2.start
  have hl : ρs.length = vs.length := h.length
  rw [← hl]
  have h1 : SR F (ρs.map some) (vs.map some) := by
    clear hl
    induction h with
    | nil => exact .nil
    | cons a _ ih => exact .cons ⟨_, rfl, a⟩ ih
  refine Paired.append h1 ?_
  generalize N.length - ρs.length = n
  induction n with
  | zero => exact .nil
  | succ n ih => rw [List.replicate_succ, List.replicate_succ]; exact .cons True.intro ih
section
variable {P : Program} {w : World} {K : PySem.W.Frag} {mg : Str → Option Value} {base : Heap}
/-- the place of a def's body -/
abbrev bodyX (P : Program) (w : World) (K : PySem.W.Frag) (mg : Str → Option Value) (base : Heap) (N : List Str) (qual : Str) (st : Stmt) (f : Addr) (cdv : Value) (A : Around) (outer : List Env) (s : Shared) (H : Hp) (E : XK) : Cx :=
  cxOf (L2N.CX P w) P w K mg base N qual (defScope st) f cdv A outer s H E
abbrev wOf (E : XK) : WX := fun cls d _ H => E cls d H
/-- the def st as it stands behind the top; a def keeps its promise if its body does -/
abbrev FnD (K : PySem.W.Frag) (x qual : Str) (st : Stmt) (f : Addr) (fd : FuncData) : Prop := FunD K x qual (defArgs st) (defBody st) (defScope st) [] [] f fd
theorem fnG {x qual : Str} {st : Stmt} {f : Addr} {fd : FuncData} {N ps : List Str} {k : Nat} {A : Type} (g : GSpec A) (F : FnD K x qual st f fd) (S : FnScope N ps (defScope st)) (hn : ∀ a, (g.vals a).length = ps.length)
    (body : ∀ (cdv : Value) (Ar : Around) (outer : List Env) (s : Shared) (H : Hp) (E : XK), Room k (Ar.deeper (envOfC qual (defScope st) s.heap.objs.size f cdv)) → ∀ a, g.ok a →
      JSs (bodyX P w K mg base N qual st f cdv Ar outer s H E) (wOf E) (G0 N (g.vals a)) (g.owns a) (defBody st) { nx := fun _ T => g.res a (Dat ()) T, rt := g.res a, xr := g.exc a }) : FnOk P w K mg base (L2N.CX P w) (k + 1) f fd ps g.sp := by
  refine FunD.ok F S (fun vs H Q E h => ?_) (fun cdv Ar outer s H vs Q E hr h => ?_)
  · obtain ⟨a, Fz, L, Lf, _, hv, _⟩ := h
    rw [← hv.length]
    exact hn a
  · obtain ⟨a, Fz, L, Lf, ha, hv, t, o, kq, ke⟩ := h
    refine ⟨_, wss_pss, ?_⟩
    refine wss_le ?_ (body cdv Ar outer s H E hr a ha Fz _ L Lf H (sr_start hv) t o (fun c T F' L' σ H' x e t' o' => ke c T F' L' H' x e t' o'))
    refine ⟨fun σ' H' ⟨Γ, T, F', L', h1, h2, h3, h4, h5⟩ => kq _ _ ⟨Dat (), T, F', L', h1, h2, rfl, h4, h5⟩, fun v H' q => kq _ _ q, fun _ _ ⟨_, _, _, _, z, _⟩ => z.elim, fun _ _ ⟨_, _, _, _, z, _⟩ => z.elim⟩
end

/-- an expression that may turn what is owned -/
def JX (X : Cx) (W : WX) (Γ : Slots) (T : Th) (e : Expr) (R : VR → Th → Prop) (xr : Value → Th → Prop) : Prop := ∀ F σ L Lf H, SR F Γ σ → TR F T L → Own F (L ++ Lf) H → ∀ Q : VK, (∀ v H', atV R F Lf v H' → Q v H') →
  (∀ c T' F' L' H', xr c T' → Same F F' → TR F' T' L' → Own F' (L' ++ Lf) H' → W c none σ H') → WE X e σ H Q
abbrev nox : Value → Th → Prop := fun _ _ => False
theorem perm_pick {α : Type} : ∀ {l : List α} (k : Nat) {x : α}, l[k]? = some x → l.Perm (x :: l.eraseIdx k)
  | [], k, x, h => by simp at h
  | a :: l, 0, x, h => by simp at h; subst h; exact .refl _
  | a :: l, k + 1, x, h => by
    rw [List.getElem?_cons_succ] at h
    exact ((perm_pick k h).cons a).trans (.swap x a _)
section
variable {X : Cx} {W : WX} {Γ Γ' : Slots} {T T' Tr : Th} {st : Stmt} {rest sts : List Stmt} {D D' : Po} {e o tg : Expr} {es : List Expr} {pos apos : Pos} {ρ : VR} {R : VR → Th → Prop} {xr : Value → Th → Prop} {A : Type} {g : GSpec A} {f : Addr} {fd : FuncData} {ps : List Str} {k : Nat} {x m : Str}
theorem jx_of (h : JE X Γ T e ρ) : JX X W Γ T e (fun ρ' T' => ρ' = ρ ∧ T' = T) nox := fun F σ L Lf H s t o Q q _ => h F σ L Lf H s t o Q fun F' M' H' v e' t' o' r => q v H' ⟨ρ, T, F', M', ⟨rfl, rfl⟩, e', r, t', o'⟩
/-- a promise used: from the values and the owned objects that it wants -/
theorem sp_use {a : A} {F : Hp} {vs : List V} {L Lf : List Cell} {H : Hp} {Q : VK} {E : XK} (ha : g.ok a) (hv : VRs F (g.vals a) vs) (t : TR F (g.owns a ++ Tr) L) (o : Own F (L ++ Lf) H)
    (hq : ∀ v H', atV (fun ρ T' => ∃ To, g.res a ρ To ∧ T' = To ++ Tr) F Lf v H' → Q v H') (he : ∀ c To F' L' H', g.exc a c To → Same F F' → TR F' (To ++ Tr) L' → Own F' (L' ++ Lf) H' → E c none H') : g.sp vs H Q E := by
  obtain ⟨L1, L2, rfl, t1, t2⟩ := t.split
  rw [List.append_assoc] at o
  refine ⟨a, F, L1, L2 ++ Lf, ha, hv, t1, o, fun v H' ⟨ρ, To, F', L', h1, h2, h3, h4, h5⟩ => hq v H' ⟨ρ, To ++ Tr, F', L' ++ L2, ⟨To, h1, rfl⟩, h2, h3, h4.app (t2.mono h2), by rw [List.append_assoc]; exact h5⟩, fun c To F' L' H' h1 h2 h3 h4 => he c To F' (L' ++ L2) H' h1 h2 (h3.app (t2.mono h2)) (by rw [List.append_assoc]; exact h4)⟩
theorem jx_call {p : Pos} (Fn : FnOk X.prog X.w X.K X.mg X.base (L2N.CX X.prog X.w) k f fd ps g.sp) (hr : Room k X.A) (hg : Gl X x) (hm : X.mg x = some (.ref f)) (hk : PySem.W.keepIn X.K (.ref f) = true) (hb : Binds X.K fd ps []) (tk : L2N.Takes X W)
    (a : A) (ha : g.ok a) (hA : JA X Γ T (e :: es) (g.vals a)) (hT : T.Perm (g.owns a ++ Tr)) (hdb : (x == ("__debug__" : Str)) = false := by decide) (he : starEach (e :: es) X.env = (false, eval e X.env) :: starEach es X.env := by exact star1 rfl) (hpl : (backTo pos (starEach es X.env)).any (·.1) = false := by exact backTo_any (stars rfl)) :
    JX X W Γ T (.Call (.Name x p) (e :: es) [] pos) (fun ρ T' => ∃ To, g.res a ρ To ∧ T' = To ++ Tr) (fun c T' => ∃ To, g.exc a c To ∧ T' = To ++ Tr) := fun F σ L Lf H s t o Q q qx =>
  we_of (pe_callS Fn hr hg hm hk hb (fun σ => L2N.passAt tk σ) wa_pa hdb he hpl) (hA F σ L Lf H s t o _ fun F1 M1 H1 vs e1 t1 o1 hv => by
    obtain ⟨L1, p1, t2⟩ := t1.perm hT
    exact sp_use ha hv t2 (o1.perm (p1.symm.append_right Lf)) (fun v H' ⟨ρ, T', F', L', z, e', r⟩ => q v H' ⟨ρ, T', F', L', z, e1.trans e', r⟩) fun c To F' L' H' h1 h2 h3 h4 => qx c _ F' L' H' ⟨To, h1, rfl⟩ (e1.trans h2) h3 h4)
/-- a call that gives back what is owned as it was, and raises nothing -/
theorem je_call {p : Pos} (Fn : FnOk X.prog X.w X.K X.mg X.base (L2N.CX X.prog X.w) k f fd ps g.sp) (hr : Room k X.A) (hg : Gl X x) (hm : X.mg x = some (.ref f)) (hk : PySem.W.keepIn X.K (.ref f) = true) (hb : Binds X.K fd ps [])
    (a : A) (ha : g.ok a) (hA : JA X Γ T (e :: es) (g.vals a)) (hT : T.Perm (g.owns a ++ Tr)) (hres : ∀ ρ' To, g.res a ρ' To → ρ' = ρ ∧ To = g.owns a) (hexc : ∀ c To, ¬ g.exc a c To) (hdb : (x == ("__debug__" : Str)) = false := by decide) (he : starEach (e :: es) X.env = (false, eval e X.env) :: starEach es X.env := by exact star1 rfl) (hpl : (backTo pos (starEach es X.env)).any (·.1) = false := by exact backTo_any (stars rfl)) :
    JE X Γ T (.Call (.Name x p) (e :: es) [] pos) ρ := fun F σ L Lf H s t o Q q =>
  we_of (pe_call (E := E0) Fn hr hg hm hk hb .nil passN wa_pa hdb he hpl) (hA F σ L Lf H s t o _ fun F1 M1 H1 vs e1 t1 o1 hv => by
    rw [List.append_nil]
    obtain ⟨N1, p1, t2⟩ := t1.perm hT
    exact sp_use ha hv t2 (o1.perm (p1.symm.append_right Lf)) (fun v H' ⟨ρ', T', F', L', ⟨To, h1, h1'⟩, h2, h3, h4, h5⟩ => by
      obtain ⟨rfl, rfl⟩ := hres _ _ h1
      subst h1'
      obtain ⟨N2, p2, t3⟩ := h4.perm hT.symm
      exact q F' N2 H' v (e1.trans h2) t3 (h5.perm (p2.symm.append_right Lf)) h3) fun c To _ _ _ h => (hexc c To h).elim)
theorem je_call0 {p : Pos} (Fn : FnOk X.prog X.w X.K X.mg X.base (L2N.CX X.prog X.w) k f fd ps g.sp) (hr : Room k X.A) (hg : Gl X x) (hm : X.mg x = some (.ref f)) (hk : PySem.W.keepIn X.K (.ref f) = true) (hb : Binds X.K fd ps [])
    (a : A) (ha : g.ok a) (hA : g.vals a = []) (ho : g.owns a = []) (hres : ∀ ρ' To, g.res a ρ' To → ρ' = ρ ∧ To = []) (hexc : ∀ c To, ¬ g.exc a c To) (hp : ∀ (h : Passes (L2N.CX X.prog X.w) X E0), PE X (.Call (.Name x p) [] [] pos) (tCall g.sp [] E0 tNil) := by exact fun h => pe_call0 ‹_› ‹_› ‹_› ‹_› ‹_› ‹_› .nil h) :
    JE X Γ T (.Call (.Name x p) [] [] pos) ρ := fun F σ L Lf H s t o Q q =>
  we_of (hp passN) (by
    show g.sp ([] ++ []) H Q E0
    refine ⟨a, F, [], L ++ Lf, ha, by rw [hA]; exact .nil, by rw [ho]; exact .nil, o, fun v H' ⟨ρ', To, F', L', h1, h2, h3, h4, h5⟩ => ?_, fun c To _ _ _ h => (hexc c To h).elim⟩
    obtain ⟨rfl, rfl⟩ := hres _ _ h1
    cases h4
    exact q F' L H' v h2 (t.mono h2) h5 h3)
/-! statements over such expressions -/
theorem js_setX (i : Nat) {pos' : Pos} (hN : X.N.Nodup) (he : JX X W Γ T e R xr) (hD : ∀ ρ T', R ρ T' → D.nx (Γ.set i (some ρ)) T') (hE : ∀ c T', xr c T' → D.xr c T') (hi : X.N[i]? = some x := by rfl) (hx : Loc X.env.scope x := by first | exact Or.inl rfl | exact Or.inr rfl)
    (hs : swapsWith e (some (.Name x pos')) pos.line X.env = pure false := by exact swaps_no rfl) (hf : X.fn x = true ∨ X.env.scope.names.lookup x = some .local := by first | exact .inl rfl | exact .inr rfl) : JS X W Γ T (.Assign [.Name x pos'] e pos) D := fun F σ L Lf H s t o w =>
  ws_of (ps_set (i := i) hN hi hx we_pe hs hf) (he F σ L Lf H s t o _ (fun v H' ⟨ρ, T', F', L', h1, h2, h3, h4, h5⟩ => ⟨_, T', F', L', hD ρ T' h1, h2, (s.mono h2).set (s := some ρ) (o := some v) ⟨v, rfl, h3⟩ i, h4, h5⟩) fun c T' F' L' H' h1 h2 h3 h4 => w c T' F' L' σ H' (hE c T' h1) h2 h3 h4)
theorem js_asgX {P : VR → Slots → Slots → Prop} (he : JX X W Γ T e R xr) (hg : ∀ ρ T', R ρ T' → ∃ put ws, JG X tg ρ put ws ∧ D.nx (put Γ) T') (hE : ∀ c T', xr c T' → D.xr c T') (hs : swapsWithSole [tg] e pos.line X.env = pure false := by exact sole_no rfl) (hw : swappedStores [tg] e X.env = pure none := by exact stores_no rfl) (hn : (assignEach [tg] X.env).map (·.2) = [assign tg X.env] := by exact assign_one rfl) :
    JS X W Γ T (.Assign [tg] e pos) D := fun F σ L Lf H s t o w =>
  ws_of (ps_asg we_pe wg_pg hs hw hn) (he F σ L Lf H s t o _ (fun v H' ⟨ρ, T', F', L', h1, h2, h3, h4, h5⟩ => by
    obtain ⟨put, ws, hg, hd⟩ := hg ρ T' h1
    exact hg Γ T' F' σ L' Lf H' v (s.mono h2) h4 h5 h3 _ fun σ' s' _ => ⟨_, T', F', L', hd, h2, s', h4, h5⟩) fun c T' F' L' H' h1 h2 h3 h4 => w c T' F' L' σ H' (hE c T' h1) h2 h3 h4)
theorem js_expr (he : JE X Γ T e ρ) (hD : D.nx Γ T) (hs : swapsWith e none pos.line X.env = pure false := by exact swaps_no rfl) : JS X W Γ T (.Expr e pos) D := fun F σ L Lf H s t o w =>
  ws_of (ps_expr we_pe hs) (he F σ L Lf H s t o _ fun F1 M1 H1 v e1 t1 o1 r => ⟨Γ, T, F1, M1, hD, e1, s.mono e1, t1, o1⟩)
theorem js_exprX (he : JX X W Γ T e R xr) (hD : ∀ ρ T', R ρ T' → D.nx Γ T') (hE : ∀ c T', xr c T' → D.xr c T') (hs : swapsWith e none pos.line X.env = pure false := by exact swaps_no rfl) : JS X W Γ T (.Expr e pos) D := fun F σ L Lf H s t o w =>
  ws_of (ps_expr we_pe hs) (he F σ L Lf H s t o _ (fun v H' ⟨ρ, T', F', L', h1, h2, h3, h4, h5⟩ => ⟨Γ, T', F', L', hD ρ T' h1, h2, s.mono h2, h4, h5⟩) fun c T' F' L' H' h1 h2 h3 h4 => w c T' F' L' σ H' (hE c T' h1) h2 h3 h4)
theorem js_retX (he : JX X W Γ T e R xr) (hD : ∀ ρ T', R ρ T' → D.rt ρ T') (hE : ∀ c T', xr c T' → D.xr c T') : JS X W Γ T (.Return (some e) pos) D := fun F σ L Lf H s t o w =>
  ws_of (ps_ret we_pe) (he F σ L Lf H s t o _ (fun v H' q => atV_le (Same.refl F) hD q) fun c T' F' L' H' h1 h2 h3 h4 => w c T' F' L' σ H' (hE c T' h1) h2 h3 h4)
/-- an operator whose left side turns what is owned -/
theorem jx_bin {a b : Expr} {op : Operator} {r : R2} {ρo : VR → Th → VR} {β : VR → Th → VR} (ho : OpR X (binaryOp op) r) (ha : JX X W Γ T a R xr) (hb : ∀ α T', R α T' → JE X Γ T' b (β α T')) (hr : ∀ α T', R α T' → Op2 T' r α (β α T') (ρo α T')) :
    JX X W Γ T (.BinOp a op b pos) (fun ρ T' => ∃ α, R α T' ∧ ρ = ρo α T') xr := fun F σ L Lf H s t o Q q qx =>
  we_of (pe_op ho we_pe we_pe) (ha F σ L Lf H s t o _ (fun u H1 ⟨α, T1, F1, L1, h1, e1, r1, t1, o1⟩ => hb α T1 h1 F1 σ L1 Lf H1 (s.mono e1) t1 o1 _ fun F2 M2 H2 y e2 t2 o2 r2 => hr α T1 h1 F2 M2 Lf H2 u y Q t2 o2 (α.mono e2 r1) r2 fun F3 M3 H3 z e3 t3 o3 r3 =>
    q z H3 ⟨_, T1, F3, M3, ⟨α, h1, rfl⟩, (e1.trans e2).trans e3, r3, t3, o3⟩) qx)

/-! ### lists that are owned -/
theorem TR.upd {F : Hp} {L Lf : List Cell} {H : Hp} {i : Nat} {p : Addr} {u : OV} (t : TR F T L) (o : Own F (L ++ Lf) H) (h : T[i]? = some (p, u)) : ∃ Lk Lr, u.rel F p Lk ∧ Own F (Lk ++ Lr) H ∧
    ∀ F' Lk' u' H', Same F F' → OV.rel u' F' p Lk' → Own F' (Lk' ++ Lr) H' → ∃ L', TR F' (T.set i (p, u')) L' ∧ Own F' (L' ++ Lf) H' := by
  obtain ⟨Lk, Lr, h1, h2, h3⟩ := t.take h
  refine ⟨Lk, Lr ++ Lf, h1, o.perm (by rw [← List.append_assoc]; exact List.Perm.append_right Lf h3), fun F' Lk' u' H' e r o' => ?_⟩
  have hi : i < T.length := (List.getElem?_eq_some_iff.mp h).1
  obtain ⟨L', p1, t'⟩ := (h2.mono e).put (p := p) (o := u') (L := Lk') (fun z => z ▸ r) (k := i) (by rw [List.getElem?_set_self (by exact hi)])
  rw [List.set_set] at t'
  exact ⟨L', t', o'.perm (by rw [← List.append_assoc]; exact (p1.symm.append_right Lf))⟩
variable {B : Type} [Rp B] {xs : List B} {p : Addr}
/-- a method of an owned list that turns it and gives nothing -/
theorem jx_lmeth {a : Expr} (i : Nat) {name : Str} {id : String} {r : V → List V → Hp → VK → Prop} {ρs : List VR} {ys : List B} (hp : PE X e (tBM X.K "list" r (WE X o) (WA X es))) (ho : JE X Γ T o (Ref p)) (hA : JA X Γ T es ρs) (hi : T[i]? = some (p, OL xs))
    (hr : ∀ F H us vs (Q : VK), H p = some (.lst us) → Paired (rep F) us xs → VRs F ρs vs → (∀ us', Paired (rep F) us' ys → Q .non (upd H p (.lst us'))) → r (.ref p) vs H Q) : JX X W Γ T e (fun ρ T' => ρ = Dat () ∧ T' = T.set i (p, OL ys)) nox := fun F σ L Lf H s t ow Q q _ =>
  we_of hp (ho F σ L Lf H s t ow _ fun F1 M1 H1 v e1 t1 o1 r1 => by
    obtain ⟨Lk, Lr, ⟨us, h1, h2⟩, o2, _⟩ := t1.upd o1 hi
    subst h2
    cases (show v = .ref p from r1)
    refine ⟨.inl ⟨rfl, us, SqL.of o2.at⟩, hA F1 σ M1 Lf H1 (s.mono e1) t1 o1 _ fun F2 M2 H2 vs e2 t2 o3 rs => ?_⟩
    obtain ⟨Lk, Lr, ⟨us, h1, h2⟩, o2, nx⟩ := t2.upd o3 hi
    subst h2
    refine hr F2 H2 us vs Q o2.at h1 rs fun us' hu => ?_
    obtain ⟨L', t', o'⟩ := nx F2 [(p, .lst us')] (OL ys) _ (Same.refl _) ⟨us', hu, rfl⟩ o2.put
    exact q _ _ ⟨Dat (), _, F2, L', ⟨rfl, rfl⟩, e1.trans e2, rfl, t', o'⟩)
theorem jx_append (i : Nat) {y : B} (hi : T[i]? = some (p, OL xs)) (ho : JE X Γ T o (Ref p)) (he : JE X Γ T e (Dat y)) (hl : xs.length < sizeLine) (hs : starEach [e] X.env = (false, eval e X.env) :: starEach [] X.env := by exact star1 rfl)
    (hp : ∀ {to : TE} {t : TA}, PE X o to → PA X [e] t → PE X (.Call (.Attribute o "append" apos) [e] [] pos) (tBM X.K "list" rAppend to t) := by exact fun h h' => pe_bm PySem.F.plainAttrs_list PySem.F.slot_list_append PySem.F.type_list_append mt_append h h') :
    JX X W Γ T (.Call (.Attribute o "append" apos) [e] [] pos) (fun ρ T' => ρ = Dat () ∧ T' = T.set i (p, OL (xs ++ [y]))) nox :=
  jx_lmeth (a := o) (name := "append") (id := "") i (hp we_pe wa_pa) ho (ja_cons he ja_nil hs) hi fun F H us vs Q h1 h2 rs k => by
    obtain ⟨v, rfl, rv⟩ := vrs1 rs
    exact ⟨p, us, v, rfl, rfl, h1, by rw [h2.length]; exact hl, k _ (Paired.append h2 (.cons rv .nil))⟩
theorem we_pa0 : PA X [] tNil := pa_nil
theorem jx_clear (i : Nat) (hi : T[i]? = some (p, OL xs)) (ho : JE X Γ T o (Ref p)) (hp : ∀ {to : TE}, PE X o to → PE X (.Call (.Attribute o "clear" apos) [] [] pos) (tBM0 X.K "list" rClear to) := by exact fun h => pe_bm0 PySem.F.plainAttrs_list PySem.F.slot_list_clear PySem.F.type_list_clear mt_clear h) :
    JX X W Γ T (.Call (.Attribute o "clear" apos) [] [] pos) (fun ρ T' => ρ = Dat () ∧ T' = T.set i (p, OL ([] : List B))) nox := fun F σ L Lf H s t ow Q q _ =>
  we_of (hp we_pe) (ho F σ L Lf H s t ow _ fun F1 M1 H1 v e1 t1 o1 r1 => by
    obtain ⟨Lk, Lr, ⟨us, h1, h2⟩, o2, nx⟩ := t1.upd o1 hi
    subst h2
    cases (show v = .ref p from r1)
    refine ⟨.inl ⟨rfl, us, SqL.of o2.at⟩, p, us, rfl, rfl, o2.at, ?_⟩
    obtain ⟨L', t', o'⟩ := nx F1 [(p, .lst [])] (OL ([] : List B)) _ (Same.refl _) ⟨[], .nil, rfl⟩ o2.put
    exact q _ _ ⟨Dat (), _, F1, L', ⟨rfl, rfl⟩, e1, rfl, t', o'⟩)
theorem Paired.last {α β : Type} {R : α → β → Prop} {us : List α} {ys : List β} {y : β} (h : Paired R us (ys ++ [y])) : ∃ u, us[us.length - 1]? = some u ∧ R u y ∧ Paired R us.dropLast ys := by
  have hl := h.length
  rw [List.length_append, List.length_singleton] at hl
  obtain ⟨u, h1, h2⟩ := Paired.get (i := ys.length) (y := y) h (by simp)
  refine ⟨u, by rw [hl]; exact h1, h2, ?_⟩
  rw [List.dropLast_eq_take, hl]
  have := Paired.take ys.length h
  rwa [List.take_left] at this
theorem jx_pop (i : Nat) {y : B} (hi : T[i]? = some (p, OL (xs ++ [y]))) (ho : JE X Γ T o (Ref p)) (hp : ∀ {to : TE}, PE X o to → PE X (.Call (.Attribute o "pop" apos) [] [] pos) (tBM0 X.K "list" rPop to) := by exact fun h => pe_bm0 PySem.F.plainAttrs_list PySem.F.slot_list_pop PySem.F.type_list_pop mt_pop h) :
    JX X W Γ T (.Call (.Attribute o "pop" apos) [] [] pos) (fun ρ T' => ρ = Dat y ∧ T' = T.set i (p, OL xs)) nox := fun F σ L Lf H s t ow Q q _ =>
  we_of (hp we_pe) (ho F σ L Lf H s t ow _ fun F1 M1 H1 v e1 t1 o1 r1 => by
    obtain ⟨Lk, Lr, ⟨us, h1, h2⟩, o2, nx⟩ := t1.upd o1 hi
    subst h2
    cases (show v = .ref p from r1)
    obtain ⟨u, h3, h4, h5⟩ := Paired.last h1
    refine ⟨.inl ⟨rfl, us, SqL.of o2.at⟩, p, us, u, rfl, rfl, o2.at, h3, ?_⟩
    obtain ⟨L', t', o'⟩ := nx F1 [(p, .lst us.dropLast)] (OL xs) _ (Same.refl _) ⟨_, h5, rfl⟩ o2.put
    exact q _ _ ⟨Dat y, _, F1, L', ⟨rfl, rfl⟩, e1, h4, t', o'⟩)
/-- a new list, owned -/
theorem jx_list {xs : List B} (h : JA X Γ T es (xs.map Dat)) (hl : xs.length ≤ sizeLine) : JX X W Γ T (.List es pos) (fun ρ T' => ∃ p, ρ = Ref p ∧ T' = (p, OL xs) :: T) nox := fun F σ L Lf H s t o Q q _ =>
  we_of (pe_lst wa_pa) (h F σ L Lf H s t o _ fun F1 M1 H1 vs e1 t1 o1 rs => by
    have pr := vrs_dats rs
    refine ⟨by rw [pr.length]; exact hl, fun p hp => ?_⟩
    exact q _ _ ⟨Ref p, _, F1, (p, .lst vs) :: M1, ⟨p, rfl, rfl⟩, e1, rfl, .cons (L1 := [(p, .lst vs)]) ⟨vs, pr, rfl⟩ t1, o1.born hp⟩)
/-- frozen data that is new may be taken as owned: by the same reading -/
theorem js_freeze {G2 : Slots} (hi : T[0]? = some (p, OL xs)) (h : JSs X W G2 (T.drop 1) sts D) (hG : ∀ F σ, rep F (.ref p) xs → SR F Γ σ → SR F G2 σ) : JSs X W Γ T sts D := fun F σ L Lf H s t o x => by
  cases t with
  | nil => simp at hi
  | @cons q u T' L1 L2 a t =>
    simp only [List.getElem?_cons_zero, Option.some.injEq, Prod.mk.injEq] at hi
    obtain ⟨rfl, rfl⟩ := hi
    obtain ⟨vs, h1, h2⟩ := a
    subst h2
    obtain ⟨o2, e2⟩ := Own.freeze (L := L2 ++ Lf) (by simpa using o)
    refine wss_le (ends_le (Po.Le.refl D) e2) (h _ σ L2 Lf H (hG _ σ ⟨q, vs, rfl, upd_same, Paired.mono (fun _ _ => Rp.mono e2) h1⟩ (s.mono e2)) (t.mono e2) o2 (x.mono e2 fun _ _ q => q))
theorem sr_fr {F : Hp} {σ : L2.St} (i : Nat) (h : rep F (.ref p) xs) (hi : Γ[i]? = some (some (Ref p))) (s : SR F Γ σ) : SR F (Γ.set i (some (Dat xs))) σ := by
  obtain ⟨v, h1, h2⟩ := s.get hi
  cases (show v = .ref p from h2)
  have h3 := s.set (s := some (Dat xs)) (o := some (V.ref p)) ⟨_, rfl, h⟩ i
  have e : σ.set i (some (V.ref p)) = σ := by
    obtain ⟨hl, e⟩ := List.getElem?_eq_some_iff.mp h1
    rw [← e, List.set_getElem_self]
  rwa [e] at h3
end
end G

/-! GF: comprehensions; loops by a mirror in Option; more that is walked. -/
namespace G
open PySem PySem.Spec PyProof.Rows L2
open Rp (rep)
/-! ### mirrors -/
def foldO {S α : Type} (f : S → α → Option S) : S → List α → Option S
  | s, [] => some s
  | s, x :: xs => (f s x).bind fun s' => foldO f s' xs
inductive Ctl (S R : Type) where
  | go (s : S) | brk (s : S) | ret (r : R)
/-- a loop that may be left -/
def foldC {S R α : Type} (f : S → α → Option (Ctl S R)) : S → List α → Option (Ctl S R)
  | s, [] => some (.go s)
  | s, x :: xs => (f s x).bind fun | .go s' => foldC f s' xs | .brk s' => some (.go s') | .ret r => some (.ret r)
def mapO {α β : Type} (f : α → Option β) : List α → Option (List β)
  | [] => some []
  | x :: xs => (f x).bind fun y => (mapO f xs).bind fun ys => some (y :: ys)
/-- a comprehension with a test -/
def lcO {α β : Type} (f : α → Option (Option β)) : List α → Option (List β)
  | [] => some []
  | x :: xs => (f x).bind fun o => (lcO f xs).bind fun ys => some (match o with | none => ys | some y => y :: ys)
def whileC {S R : Type} (f : S → Option (Option (Ctl S R))) : Nat → S → Option (Ctl S R)
  | 0, _ => none
  | n + 1, s => (f s).bind fun | none => some (.go s) | some (.go s') => whileC f n s' | some (.brk s') => some (.go s') | some (.ret r) => some (.ret r)
def whileO {S : Type} (c : S → Option Bool) (f : S → Option S) : Nat → S → Option S
  | 0, _ => none
  | n + 1, s => (c s).bind fun b => if b then (f s).bind fun s' => whileO c f n s' else some s
theorem obind {α β : Type} {x : Option α} {f : α → Option β} {r : β} (h : x.bind f = some r) : ∃ a, x = some a ∧ f a = some r := by
  cases x with
  | none => cases h
  | some a => exact ⟨a, rfl, h⟩
theorem oT {α : Type} {b : Bool} {x y : Option α} {r : α} (hb : b = true) (h : (if b = true then x else y) = some r) : x = some r := by subst hb; exact h
theorem oF {α : Type} {b : Bool} {x y : Option α} {r : α} (hb : b = false) (h : (if b = true then x else y) = some r) : y = some r := by subst hb; exact h
/-- a condition that is needed -/
def need (p : Prop) [Decidable p] : Option Unit := if p then some () else none
theorem of_need {p : Prop} [Decidable p] {u : Unit} (h : need p = some u) : p := by
  unfold need at h
  split at h
  · assumption
  · cases h
theorem oneed {α : Type} {p : Prop} [Decidable p] {f : Unit → Option α} {r : α} (h : (need p).bind f = some r) : p ∧ f () = some r := by
  obtain ⟨u, h1, h2⟩ := obind h
  exact ⟨of_need h1, h2⟩

section
variable {X : Cx} {W : WX} {Γ Γ' : Slots} {T T' Tr : Th} {st : Stmt} {rest sts : List Stmt} {D D' : Po} {e o tg elt iter : Expr} {es ifs : List Expr} {pos apos : Pos} {ρ : VR}
/-! ### comprehensions -/
def WTs (X : Cx) : List Expr → TT
  | [] => tYes
  | [c] => WT X c
  | _ => fun _ _ _ => False
theorem wts_pts : PTs X ifs (WTs X ifs) := by
  rcases ifs with _ | ⟨c, _ | ⟨d, r⟩⟩
  · exact pts_nil
  · exact pts_one wt_pt
  · exact ⟨fun _ _ _ _ _ _ h => h.elim⟩
def JTs (X : Cx) (Γ : Slots) (T : Th) (ifs : List Expr) (b : Bool) : Prop := ∀ F σ L Lf H, SR F Γ σ → TR F T L → Own F (L ++ Lf) H → ∀ Q : Bool → Hp → Prop, (∀ F' M' H', Same F F' → TR F' T M' → Own F' (M' ++ Lf) H' → Q b H') → WTs X ifs σ H Q
theorem jts_nil : JTs X Γ T [] true := fun F σ L Lf H s t o Q k => k F L H (Same.refl F) t o
theorem jts_one {c : Expr} {b : Bool} (h : JT X Γ T c b) : JTs X Γ T [c] b := h
/-- the place of a comprehension's element -/
abbrev Blk (X : Cx) (scope : Scope) (φ : Cx → Prop) : Prop := ∀ (s : Shared) (H : Hp) (C : Addr) (cl : List (Str × Addr)) (fp : List Addr), φ (X.blk s H scope (compEnvC scope cl C X.env) fp)
def gLc (X : Cx) (scope : Scope) (tg : Expr) : TG := fun v σ H Q => Blk X scope fun Y => WG Y tg v σ H Q
def ttLc (X : Cx) (scope : Scope) (ifs : List Expr) : TT := fun σ H Q => Blk X scope fun Y => WTs Y ifs σ H Q
def teLc (X : Cx) (scope : Scope) (elt : Expr) : TE := fun σ H Q => Blk X scope fun Y => WE Y elt σ H Q
theorem wipe_wipe (σ : L2.St) : ∀ vs : List Nat, wipe (wipe σ vs) vs = wipe σ vs := by
  have h : ∀ (us vs : List Nat), (∀ u ∈ us, u ∈ vs) → wipe (wipe σ us) vs = wipe σ vs := by
    intro us
    induction us with
    | nil => intro vs _; rfl
    | cons u us ih =>
      intro vs h
      show wipe ((wipe σ us).set u none) vs = wipe σ vs
      rw [wipe_set vs _ (h u (List.mem_cons_self ..)), ih vs fun w hw => h w (List.mem_cons_of_mem _ hw)]
  exact fun vs => h vs vs fun _ z => z
theorem filterMap_take {β : Type} {os : List (Option β)} {i : Nat} {o : Option β} (h : os[i]? = some o) : (os.take (i + 1)).filterMap id = (os.take i).filterMap id ++ o.toList := by
  rw [List.take_add_one, h, List.filterMap_append]
  cases o <;> rfl
/-- what a comprehension's reading asks -/
theorem lc_read {B : Type} [Rp B] {ρs : List VR} {os : List (Option B)} {scope : Scope} {vs : List Nat} {ok : Th → Prop} (hI : JI X Γ T tg iter ok ρs) (hok : ok T) (hl : ρs.length = os.length) (hz : os.length ≤ 1000000)
    (turn : ∀ (i : Nat) (ρ : VR) (o : Option B), ρs[i]? = some ρ → os[i]? = some o → ∃ put ws, (∀ w ∈ ws, w ∈ vs) ∧ Blk X scope (fun Y => JG Y tg ρ put ws) ∧ Blk X scope (fun Y => JTs Y (put (vs.foldr (fun v g => g.set v none) Γ)) T ifs o.isSome) ∧
      ∀ y, o = some y → Blk X scope fun Y => JE Y (put (vs.foldr (fun v g => g.set v none) Γ)) T elt (Dat y))
    {F : Hp} {σ : L2.St} {L Lf : List Cell} {H : Hp} (s : SR F Γ σ) (t : TR F T L) (ow : Own F (L ++ Lf) H) {Q : VK}
    (k : ∀ F' M' H' p us, Same F F' → TR F' T M' → Own F' ((p, .lst us) :: (M' ++ Lf)) H' → Paired (rep F') us (os.filterMap id) → Q (.ref p) H') : tLc (WI X tg iter) (gLc X scope tg) (ttLc X scope ifs) (teLc X scope elt) vs σ H Q := by
  refine hI F σ L Lf H s t ow _ fun J F1 M1 H1 e1 t1 o1 fd => fun Dl hD => ?_
  refine ⟨fun i m H' => i + m = ρs.length ∧ ∃ F' M' us, Same F1 F' ∧ TR F' T M' ∧ Own F' ((Dl, .lst us) :: (M' ++ Lf)) H' ∧ Paired (rep F') us ((os.take i).filterMap id), ⟨ρs.length, by simp, F1, M1, [], Same.refl _, t1, o1.born hD, .nil⟩, ?_⟩
  rintro i m H' ⟨him, F', M', us, e', t', o', pr⟩
  have op : Own F' (M' ++ ((Dl, HO.lst us) :: Lf)) H' := o'.perm (by
    have := (List.perm_middle (a := (Dl, HO.lst us)) (l₁ := M') (l₂ := Lf)).symm
    exact this)
  have f := fd T hok F' M' ((Dl, .lst us) :: Lf) H' i e' t' op
  cases q : ρs[i]? with
  | none =>
    have hle : ρs.length ≤ i := List.getElem?_eq_none_iff.mp q
    refine .inl ⟨f.1 hle, k F' M' H' Dl us (e1.trans e') t' o' ?_⟩
    rwa [List.take_of_length_le (by omega)] at pr
  | some ρ =>
    have hlt : i < ρs.length := (List.getElem?_eq_some_iff.mp q).1
    obtain ⟨hgo, hy⟩ := f.2 ρ q
    obtain ⟨oi, hoi⟩ : ∃ oi, os[i]? = some oi := ⟨os[i], List.getElem?_eq_getElem (by omega)⟩
    obtain ⟨put, ws, hws, hg, ht, he⟩ := turn i ρ oi q hoi
    refine .inr ⟨hgo, fun H2 => ∃ F2 M2 us2, Same F1 F2 ∧ TR F2 T M2 ∧ Own F2 ((Dl, .lst us2) :: (M2 ++ Lf)) H2 ∧ Paired (rep F2) us2 ((os.take (i + 1)).filterMap id), fun H2 z => ⟨m - 1, by omega, by omega, z⟩, fun x H2 hx => ?_⟩
    obtain ⟨F2, e2, o2, r2⟩ := hy x H2 hx
    intro sh Hh C cl fp
    refine hg sh Hh C cl fp _ T F2 (wipe σ vs) M' ((Dl, .lst us) :: Lf) H2 x ((((s.mono e1).mono e').mono e2).wipe vs) (t'.mono e2) o2 r2 _ fun σ2 s2 hw => ⟨(hw vs hws).trans (wipe_wipe σ vs), ?_⟩
    intro sh Hh C cl fp
    refine ht sh Hh C cl fp F2 σ2 M' ((Dl, .lst us) :: Lf) H2 s2 (t'.mono e2) o2 _ fun F3 M3 H3 e3 t3 o3 => ?_
    have pt := filterMap_take hoi
    cases oi with
    | none =>
      rw [if_neg (by simp)]
      refine ⟨F3, M3, us, (e'.trans e2).trans e3, t3, o3.perm List.perm_middle, ?_⟩
      rw [pt, Option.toList, List.append_nil]
      exact Paired.mono (fun _ _ => Rp.mono (e2.trans e3)) pr
    | some y =>
      rw [if_pos (by rfl)]
      intro sh Hh C cl fp
      refine he y rfl sh Hh C cl fp F3 σ2 M3 ((Dl, .lst us) :: Lf) H3 (s2.mono e3) t3 o3 _ fun F4 M4 H4 v e4 t4 o4 r4 => ?_
      have o5 : Own F4 ((Dl, .lst us) :: (M4 ++ Lf)) H4 := o4.perm List.perm_middle
      refine ⟨us, o5.at, ?_, F4, M4, us ++ [v], ((e'.trans e2).trans e3).trans e4, t4, o5.put, ?_⟩
      · have h1 := pr.length
        have h2 := List.length_filterMap_le id (os.take i)
        rw [List.length_take] at h2
        rw [sizeLine_eq]
        omega
      · rw [pt, Option.toList]
        exact Paired.append (Paired.mono (fun _ _ => Rp.mono ((e2.trans e3).trans e4)) pr) (.cons r4 .nil)
theorem pe_lcW {scope : Scope} {own : List (Str × Nat)} (hc : X.calm = true) (hN : X.N.Nodup) (ok : BlkOk X.N X.env.scope scope own) (hs : ∀ x, foldedSetIterable iter X.env x = pure x := by exact folded_no rfl) :
    PE X (.ListComp elt [⟨tg, iter, ifs, 0⟩] scope pos) (tLc (WI X tg iter) (gLc X scope tg) (ttLc X scope ifs) (teLc X scope elt) (own.map (·.2))) :=
  pe_lc hc hN wi_pi ok (fun s H C cl fp => ⟨fun pins s' σ H' v u Q I r h => (h s H C cl fp).elim fun t ⟨h1, h2⟩ => h1.run pins s' σ H' v u Q I r h2⟩) (fun s H C cl fp => ⟨fun pins s' σ H' Q I h => wts_pts.run pins s' σ H' Q I (h s H C cl fp)⟩) (fun s H C cl fp => ⟨fun pins s' σ H' Q I h => (h s H C cl fp).run pins s' I⟩) hs
theorem je_lc {B : Type} [Rp B] {ρs : List VR} {os : List (Option B)} {scope : Scope} {ok : Th → Prop} (own : List (Str × Nat)) (hc : X.calm = true) (hN : X.N.Nodup) (bo : BlkOk X.N X.env.scope scope own) (hI : JI X Γ T tg iter ok ρs) (hok : ok T) (hl : ρs.length = os.length) (hz : os.length ≤ 1000000)
    (turn : ∀ (i : Nat) (ρ : VR) (o : Option B), ρs[i]? = some ρ → os[i]? = some o → ∃ put ws, (∀ w ∈ ws, w ∈ own.map (·.2)) ∧ Blk X scope (fun Y => JG Y tg ρ put ws) ∧ Blk X scope (fun Y => JTs Y (put ((own.map (·.2)).foldr (fun v g => g.set v none) Γ)) T ifs o.isSome) ∧
      ∀ y, o = some y → Blk X scope fun Y => JE Y (put ((own.map (·.2)).foldr (fun v g => g.set v none) Γ)) T elt (Dat y)) (hs : ∀ x, foldedSetIterable iter X.env x = pure x := by exact folded_no rfl) :
    JE X Γ T (.ListComp elt [⟨tg, iter, ifs, 0⟩] scope pos) (Dat (os.filterMap id)) := fun F σ L Lf H s t o Q k =>
  we_of (pe_lcW hc hN bo hs) (lc_read hI hok hl hz turn s t o fun F' M' H' p us e t' o' pr => by
    obtain ⟨o2, e2⟩ := o'.freeze
    exact k _ M' H' _ (e.trans e2) (t'.mono e2) o2 ⟨p, us, rfl, upd_same, Paired.mono (fun _ _ => Rp.mono e2) pr⟩)
theorem js_setLc {B : Type} [Rp B] {ρs : List VR} {os : List (Option B)} {scope : Scope} {ok : Th → Prop} (i : Nat) {y : Str} {py : Pos} {spos : Pos} (own : List (Str × Nat)) (hc : X.calm = true) (hN : X.N.Nodup) (bo : BlkOk X.N X.env.scope scope own) (hI : JI X Γ T tg iter ok ρs) (hok : ok T) (hl : ρs.length = os.length) (hz : os.length ≤ 1000000)
    (turn : ∀ (i : Nat) (ρ : VR) (o : Option B), ρs[i]? = some ρ → os[i]? = some o → ∃ put ws, (∀ w ∈ ws, w ∈ own.map (·.2)) ∧ Blk X scope (fun Y => JG Y tg ρ put ws) ∧ Blk X scope (fun Y => JTs Y (put ((own.map (·.2)).foldr (fun v g => g.set v none) Γ)) T ifs o.isSome) ∧
      ∀ y, o = some y → Blk X scope fun Y => JE Y (put ((own.map (·.2)).foldr (fun v g => g.set v none) Γ)) T elt (Dat y)) (hD : D.nx (Γ.set i (some (Dat (os.filterMap id)))) T)
    (hy : X.N[i]? = some y) (hyl : X.env.scope.names.lookup y = some .local) (hsw : swapsWith (.ListComp elt [⟨tg, iter, ifs, 0⟩] scope pos) (some (.Name y py)) spos.line X.env = pure true) (hs : ∀ x, foldedSetIterable iter X.env x = pure x := by exact folded_no rfl) :
    JS X W Γ T (.Assign [.Name y py] (.ListComp elt [⟨tg, iter, ifs, 0⟩] scope pos) spos) D := fun F σ L Lf H s t o w =>
  ws_of (ps_setLc hc hN hy hyl hsw wi_pi bo (fun s H C cl fp => ⟨fun pins s' σ H' v u Q I r h => (h s H C cl fp).elim fun t ⟨h1, h2⟩ => h1.run pins s' σ H' v u Q I r h2⟩) (fun s H C cl fp => ⟨fun pins s' σ H' Q I h => wts_pts.run pins s' σ H' Q I (h s H C cl fp)⟩) (fun s H C cl fp => ⟨fun pins s' σ H' Q I h => (h s H C cl fp).run pins s' I⟩) hs)
    (show tLc (WI X tg iter) (gLc X scope tg) (ttLc X scope ifs) (teLc X scope elt) (own.map (·.2)) σ H _ from lc_read hI hok hl hz turn s t o fun F' M' H' p us e t' o' pr => by
      obtain ⟨o2, e2⟩ := o'.freeze
      exact ⟨_, T, _, M', hD, e.trans e2, ((s.mono e).mono e2).set (s := some (Dat (os.filterMap id))) (o := some (V.ref p)) ⟨_, rfl, p, us, rfl, upd_same, Paired.mono (fun _ _ => Rp.mono e2) pr⟩ i, t'.mono e2, o2⟩)
/-! by a mirror -/
theorem mapO_os {α β : Type} {f : α → Option β} : ∀ {xs : List α} {ys : List β}, mapO f xs = some ys → xs.length = ys.length ∧ ∀ (i : Nat) x y, xs[i]? = some x → ys[i]? = some y → f x = some y
  | [], ys, h => by cases h; exact ⟨rfl, fun i x y h => by simp at h⟩
  | x :: xs, ys, h => by
    obtain ⟨y, h1, h⟩ := obind h
    obtain ⟨zs, h2, h⟩ := obind h
    cases h
    obtain ⟨h3, h4⟩ := mapO_os h2
    refine ⟨by simp [h3], fun i u v hu hv => ?_⟩
    cases i with
    | zero => simp at hu hv; subst hu hv; exact h1
    | succ i => exact h4 i u v (by simpa using hu) (by simpa using hv)
theorem lcO_os {α β : Type} {f : α → Option (Option β)} : ∀ {xs : List α} {ys : List β}, lcO f xs = some ys → ∃ os : List (Option β), os.filterMap id = ys ∧ xs.length = os.length ∧ ∀ (i : Nat) x o, xs[i]? = some x → os[i]? = some o → f x = some o
  | [], ys, h => by cases h; exact ⟨[], rfl, rfl, fun i x y h => by simp at h⟩
  | x :: xs, ys, h => by
    obtain ⟨y, h1, h⟩ := obind h
    obtain ⟨zs, h2, h⟩ := obind h
    cases h
    obtain ⟨os, h5, h3, h4⟩ := lcO_os h2
    refine ⟨y :: os, ?_, by simp [h3], fun i u v hu hv => ?_⟩
    · cases y with
      | none => simpa using h5
      | some z => simp [h5]
    · cases i with
      | zero => simp at hu hv; subst hu hv; exact h1
      | succ i => exact h4 i u v (by simpa using hu) (by simpa using hv)
/-! ### loops by a mirror -/
theorem js_forO {S α : Type} {body : List Stmt} {xs : List α} (it : α → VR) {f : S → α → Option S} {s0 sN : S} (ok : Th → Prop) (hm : foldO f s0 xs = some sN) (Γs : S → Slots) (Ts : S → Th) (hp : PassesOwn (model X.prog X.w) X.A X.env X.xe) (hc : X.calm = true) (hI : JI X Γ T tg iter ok (xs.map it))
    (hΓ : Wk Γ (Γs s0)) (hT : T = Ts s0) (hok : ∀ s, ok (Ts s))
    (turn : ∀ x s s', x ∈ xs → f s x = some s' → ∃ put ws, JG X tg (it x) put ws ∧ JSs X W (put (Γs s)) (Ts s) body { D with nx := fun Γ' T' => Wk Γ' (Γs s') ∧ T' = Ts s', ct := fun Γ' T' => Wk Γ' (Γs s') ∧ T' = Ts s', bk := fun _ _ => False })
    (fin : JSs X W (Γs sN) (Ts sN) rest D) (hs : ∀ x, foldedSetIterable iter X.env x = pure x := by exact folded_no rfl) : JSs X W Γ T (.For tg iter body [] pos :: rest) D := by
  refine js_cons (M := fun Γ' T' => Γ' = Γs sN ∧ T' = Ts sN) ?_ fun _ _ ⟨a, b⟩ => by subst a b; exact fin
  refine js_for hp hc hI (fun i s => foldO f s (xs.drop i) = some sN) Γs Ts s0 (by simpa using hm) hΓ hT (fun i s _ => hok s) (fun i ρ s hi inv => ?_) (fun s inv => ?_) hs
  · rw [List.getElem?_map] at hi
    cases hx : xs[i]? with
    | none => rw [hx] at hi; cases hi
    | some x =>
      rw [hx] at hi
      cases hi
      obtain ⟨hl, hx'⟩ := List.getElem?_eq_some_iff.mp hx
      rw [List.drop_eq_getElem_cons hl, hx'] at inv
      obtain ⟨s', h1, h2⟩ := obind inv
      obtain ⟨put, ws, hg, hb⟩ := turn x s s' (hx' ▸ List.getElem_mem hl) h1
      exact ⟨put, ws, hg, jss_le hb ⟨fun _ _ ⟨a, b⟩ => ⟨s', h2, a, b⟩, fun _ _ q => q, fun _ _ q => q.elim, fun _ _ ⟨a, b⟩ => ⟨s', h2, a, b⟩, fun _ _ q => q⟩⟩
  · rw [List.length_map, List.drop_length] at inv
    cases inv
    exact ⟨rfl, rfl⟩
theorem js_forC {S R α : Type} {body : List Stmt} {xs : List α} (it : α → VR) {f : S → α → Option (Ctl S R)} {s0 : S} {r : Ctl S R} (ok : Th → Prop) (hm : foldC f s0 xs = some r) (Γs : S → Slots) (Ts : S → Th) (hp : PassesOwn (model X.prog X.w) X.A X.env X.xe) (hc : X.calm = true) (hI : JI X Γ T tg iter ok (xs.map it))
    (hΓ : Wk Γ (Γs s0)) (hT : T = Ts s0) (hok : ∀ s, ok (Ts s))
    (turn : ∀ x s r', x ∈ xs → f s x = some r' → (∀ q, r' = .ret q → r = .ret q) → ∃ put ws, JG X tg (it x) put ws ∧ JSs X W (put (Γs s)) (Ts s) body { D with nx := fun Γ' T' => ∃ s', r' = .go s' ∧ Wk Γ' (Γs s') ∧ T' = Ts s', ct := fun Γ' T' => ∃ s', r' = .go s' ∧ Wk Γ' (Γs s') ∧ T' = Ts s', bk := fun Γ' T' => ∃ s', r' = .brk s' ∧ Wk Γ' (Γs s') ∧ T' = Ts s' })
    (fin : ∀ s, r = .go s → JSs X W (Γs s) (Ts s) rest D) (hs : ∀ x, foldedSetIterable iter X.env x = pure x := by exact folded_no rfl) : JSs X W Γ T (.For tg iter body [] pos :: rest) D := by
  refine js_cons (M := fun Γ' T' => ∃ s, r = .go s ∧ Wk Γ' (Γs s) ∧ T' = Ts s) ?_ fun _ _ ⟨s, h, a, b⟩ => by subst b; exact js_wk a (fin s h)
  refine js_for hp hc hI (fun i s => foldC f s (xs.drop i) = some r) Γs Ts s0 (by simpa using hm) hΓ hT (fun i s _ => hok s) (fun i ρ s hi inv => ?_) (fun s inv => ?_) hs
  · rw [List.getElem?_map] at hi
    cases hx : xs[i]? with
    | none => rw [hx] at hi; cases hi
    | some x =>
      rw [hx] at hi
      cases hi
      obtain ⟨hl, hx'⟩ := List.getElem?_eq_some_iff.mp hx
      rw [List.drop_eq_getElem_cons hl, hx'] at inv
      obtain ⟨r', h1, h2⟩ := obind inv
      obtain ⟨put, ws, hg, hb⟩ := turn x s r' (hx' ▸ List.getElem_mem hl) h1 (fun q e => by subst e; cases h2; rfl)
      refine ⟨put, ws, hg, jss_le hb ⟨fun _ _ ⟨s', e, a, b⟩ => ⟨s', by subst e; exact h2, a, b⟩, fun _ _ q => q, fun Γ' T' ⟨s', e, a, b⟩ => ?_, fun _ _ ⟨s', e, a, b⟩ => ⟨s', by subst e; exact h2, a, b⟩, fun _ _ q => q⟩⟩
      subst e
      cases h2
      exact ⟨s', rfl, a, b⟩
  · rw [List.length_map, List.drop_length] at inv
    cases inv
    exact ⟨s, rfl, Wk.refl _, rfl⟩
/-- a while by a mirror -/
theorem js_whileC {S R : Type} {c : Expr} {body : List Stmt} {f : S → Option (Option (Ctl S R))} {s0 : S} {r : Ctl S R} {n : Nat} (hm : whileC f n s0 = some r) (Γs : S → Slots) (Ts : S → Th) (hp : PassesOwn (model X.prog X.w) X.A X.env X.xe) (hΓ : Wk Γ (Γs s0)) (hT : T = Ts s0)
    (turn : ∀ s o, f s = some o → (∀ q, o = some (.ret q) → r = .ret q) → JT X (Γs s) (Ts s) c o.isSome ∧ ∀ r', o = some r' → JSs X W (Γs s) (Ts s) body { D with nx := fun Γ' T' => ∃ s', r' = .go s' ∧ Wk Γ' (Γs s') ∧ T' = Ts s', ct := fun Γ' T' => ∃ s', r' = .go s' ∧ Wk Γ' (Γs s') ∧ T' = Ts s', bk := fun Γ' T' => ∃ s', r' = .brk s' ∧ Wk Γ' (Γs s') ∧ T' = Ts s' })
    (fin : ∀ s, r = .go s → JSs X W (Γs s) (Ts s) rest D) : JSs X W Γ T (.While c body [] pos :: rest) D := by
  refine js_cons (M := fun Γ' T' => ∃ s, r = .go s ∧ Wk Γ' (Γs s) ∧ T' = Ts s) ?_ fun _ _ ⟨s, h, a, b⟩ => by subst b; exact js_wk a (fin s h)
  refine js_while hp (fun m s => whileC f m s = some r) Γs Ts s0 n hm hΓ hT fun m s inv => ?_
  cases m with
  | zero => cases inv
  | succ m =>
    obtain ⟨o, h1, h2⟩ := obind inv
    obtain ⟨hc, hb⟩ := turn s o h1 (fun q e => by subst e; cases h2; rfl)
    refine ⟨o.isSome, hc, fun hk => ?_, fun hk => ?_⟩
    · cases o with
      | none => cases hk
      | some r' =>
        refine jss_le (hb r' rfl) ⟨fun _ _ ⟨s', e, a, b⟩ => ⟨m, s', Nat.lt_succ_self m, by subst e; exact h2, a, b⟩, fun _ _ q => q, fun Γ' T' ⟨s', e, a, b⟩ => ?_, fun _ _ ⟨s', e, a, b⟩ => ⟨m, s', Nat.lt_succ_self m, by subst e; exact h2, a, b⟩, fun _ _ q => q⟩
        subst e
        cases h2
        exact ⟨s', rfl, a, b⟩
    · cases o with
      | none => cases h2; exact ⟨s, rfl, Wk.refl _, rfl⟩
      | some r' => cases hk
theorem js_whileO {S : Type} {c : Expr} {body : List Stmt} {t : S → Option Bool} {f : S → Option S} {s0 sN : S} {n : Nat} (hm : whileO t f n s0 = some sN) (Γs : S → Slots) (Ts : S → Th) (hp : PassesOwn (model X.prog X.w) X.A X.env X.xe) (hΓ : Wk Γ (Γs s0)) (hT : T = Ts s0)
    (test : ∀ s b, t s = some b → JT X (Γs s) (Ts s) c b)
    (turn : ∀ s s', t s = some true → f s = some s' → JSs X W (Γs s) (Ts s) body { D with nx := fun Γ' T' => Wk Γ' (Γs s') ∧ T' = Ts s', ct := fun Γ' T' => Wk Γ' (Γs s') ∧ T' = Ts s', bk := fun _ _ => False })
    (fin : JSs X W (Γs sN) (Ts sN) rest D) : JSs X W Γ T (.While c body [] pos :: rest) D := by
  refine js_cons (M := fun Γ' T' => Γ' = Γs sN ∧ T' = Ts sN) ?_ fun _ _ ⟨a, b⟩ => by subst a b; exact fin
  refine js_while hp (fun m s => whileO t f m s = some sN) Γs Ts s0 n hm hΓ hT fun m s inv => ?_
  cases m with
  | zero => cases inv
  | succ m =>
    obtain ⟨b, h1, h2⟩ := obind inv
    refine ⟨b, test s b h1, fun hk => ?_, fun hk => ?_⟩
    · subst hk
      rw [if_pos rfl] at h2
      obtain ⟨s', h3, h4⟩ := obind h2
      exact jss_le (turn s s' h1 h3) ⟨fun _ _ ⟨a, b⟩ => ⟨m, s', Nat.lt_succ_self m, h4, a, b⟩, fun _ _ q => q, fun _ _ q => q.elim, fun _ _ ⟨a, b⟩ => ⟨m, s', Nat.lt_succ_self m, h4, a, b⟩, fun _ _ q => q⟩
    · subst hk
      cases h2
      exact ⟨rfl, rfl⟩
end
end G

namespace G
open PySem PySem.Spec PyProof.Rows L2
open Rp (rep)
/-! ### defs that are plain data in and out -/
def pureSpec {A : Type} (vals : A → List VR) (m : A → Option VR) : GSpec A := { ok := fun a => ∃ r, m a = some r, vals := vals, owns := fun _ => [], res := fun a ρ T => m a = some ρ ∧ T = [] }
abbrev PoP (ρ : VR) : Po := { nx := fun _ T => ρ = Dat () ∧ T = [], rt := fun ρ' T => ρ' = ρ ∧ T = [] }
section
variable {P : Program} {w : World} {K : PySem.W.Frag} {mg : Str → Option Value} {base : Heap}
theorem fnP {x qual : Str} {st : Stmt} {f : Addr} {fd : FuncData} {N ps : List Str} {k : Nat} {A R : Type} [Rp R] (vals : A → List VR) (m : A → Option R) (F : FnD K x qual st f fd) (S : FnScope N ps (defScope st)) (hn : ∀ a, (vals a).length = ps.length)
    (body : ∀ (cdv : Value) (Ar : Around) (outer : List Env) (s : Shared) (H : Hp) (E : XK), Room k (Ar.deeper (envOfC qual (defScope st) s.heap.objs.size f cdv)) → ∀ a r, m a = some r →
      JSs (bodyX P w K mg base N qual st f cdv Ar outer s H E) (wOf E) (G0 N (vals a)) [] (defBody st) (PoP (Dat r))) : FnOk P w K mg base (L2N.CX P w) (k + 1) f fd ps (pureSpec vals fun a => (m a).map Dat).sp :=
  fnG _ F S hn fun cdv Ar outer s H E hr a ⟨ρ, ha⟩ => by
    obtain ⟨r, hm, rfl⟩ := Option.map_eq_some_iff.mp ha
    exact jss_le (body cdv Ar outer s H E hr a r hm) ⟨fun _ T ⟨h1, h2⟩ => ⟨by rw [← h1]; exact ha, h2⟩, fun _ T ⟨h1, h2⟩ => ⟨by rw [h1]; exact ha, h2⟩, fun _ _ h => h, fun _ _ h => h, fun _ _ h => h⟩
end
section
variable {X : Cx} {Γ : Slots} {T : Th} {e : Expr} {es : List Expr} {pos p : Pos} {A R : Type} [Rp R] {vals : A → List VR} {m : A → Option R} {f : Addr} {fd : FuncData} {ps : List Str} {k : Nat} {x : Str}
theorem je_callP (a : A) {r : R} (h : m a = some r) (Fn : FnOk X.prog X.w X.K X.mg X.base (L2N.CX X.prog X.w) k f fd ps (pureSpec vals fun a => (m a).map Dat).sp) (hr : Room k X.A) (hg : Gl X x) (hm : X.mg x = some (.ref f)) (hk : PySem.W.keepIn X.K (.ref f) = true) (hb : Binds X.K fd ps [])
    (hA : JA X Γ T (e :: es) (vals a)) (hdb : (x == ("__debug__" : Str)) = false := by decide) (he : starEach (e :: es) X.env = (false, eval e X.env) :: starEach es X.env := by exact star1 rfl) (hpl : (backTo pos (starEach es X.env)).any (·.1) = false := by exact backTo_any (stars rfl)) :
    JE X Γ T (.Call (.Name x p) (e :: es) [] pos) (Dat r) :=
  have hm' : (m a).map Dat = some (Dat r) := by rw [h]; rfl
  je_call Fn hr hg hm hk hb a ⟨_, hm'⟩ hA (Tr := T) (.refl T) (fun ρ' To ⟨h1, h2⟩ => ⟨Option.some.inj (h1.symm.trans hm'), h2⟩) (fun _ _ z => z) hdb he hpl
end
theorem passOwn {X : Cx} {K : Value → Shared → Prop} {E₁ : Value → Shared → Prop} (hx : X.xe = fun e s' => wpAny (model X.prog X.w) X.A (leaving X.env e) (fun _ s'' => K e s'') E₁ s') : PassesOwn (model X.prog X.w) X.A X.env X.xe := passes_of hx
end G

/-! GG: steps that may fail, by a mirror in Option; calls by name; the end of a law. -/
namespace G
open PySem PySem.Spec PyProof.Rows L2
open Rp (rep)
instance (i j : Int) : Decidable (CMulY i j) := inferInstanceAs (Decidable (_ < _))
instance (i j : Int) : Decidable (CPow i j) := inferInstanceAs (Decidable (_ ∧ _))
instance (i j : Int) : Decidable (CShl i j) := inferInstanceAs (Decidable (_ ∧ _))
def when {α : Type} (p : Prop) [Decidable p] (a : α) : Option α := if p then some a else none
theorem of_when {α : Type} {p : Prop} [Decidable p] {a r : α} (h : when p a = some r) : p ∧ a = r := by
  unfold when at h
  split at h
  · cases h; exact ⟨‹_›, rfl⟩
  · cases h
theorem when_ok {α : Type} {p : Prop} [Decidable p] {a : α} (h : p) : when p a = some a := if_pos h
def addS (x y : Str) : Option Str := when (x.length + y.length ≤ sizeLine) (x ++ y)
def mulO (i j : Int) : Option Int := when (CMulY i j) (i * j)
def divO (i j : Int) : Option Int := when (CDv j) (i / j)
def modO (i j : Int) : Option Int := when (0 < j) (i % j)
def shlO (i j : Int) : Option Int := when (CShl i j) (i * 2 ^ j.toNat)
def shrO (i j : Int) : Option Int := when (0 ≤ j) (i / 2 ^ j.toNat)
def lenS (x : Str) : Option Int := when (x.length ≤ sizeLine) (x.length : Int)
def ixStr (x : Str) (i : Int) : Option Str := if x.length ≤ sizeLine then (atI x.cps.toList i).map fun c => ⟨#[c]⟩ else none
def cutSO (x : Str) (l u : Option Int) : Option Str := when (x.length ≤ sizeLine) (cutS x l u)
def appO {α : Type} (xs : List α) (y : α) : Option (List α) := when (xs.length < sizeLine) (xs ++ [y])
/-- lo, lo + 1, .. n of them -/
def intsFrom (lo : Int) (n : Nat) : List Int := (List.range n).map fun (i : Nat) => lo + (i : Int)
def rngO (a b : Int) : Option (List Int) := when (-(2 ^ 62) ≤ a ∧ a < 2 ^ 62 ∧ -(2 ^ 62) ≤ b ∧ b < 2 ^ 62) (intsFrom a (b - a).toNat)
def mapB {α β : Type} (f : α → Option β) (xs : List α) : Option (List β) := if xs.length ≤ 1000000 then mapO f xs else none
def lcB {α β : Type} (f : α → Option (Option β)) (xs : List α) : Option (List β) := if xs.length ≤ 1000000 then lcO f xs else none
/-- behind a loop that may be left -/
def Ctl.el {S R β : Type} (c : Ctl S R) (k : S → β) (f : R → β) : β := match c with | .go s => k s | .brk s => k s | .ret r => f r
def Cal (P : Program) (w : World) (K : PySem.W.Frag) (mg : Str → Option Value) (base : Heap) (k : Nat) (x : Str) (ps : List Str) (sp : Sp) : Prop :=
  ∃ f fd, FnOk P w K mg base (L2N.CX P w) k f fd ps sp ∧ mg x = some (.ref f) ∧ PySem.W.keepIn K (.ref f) = true ∧ Binds K fd ps []
theorem pip_of {X : Cx} {op : Operator} {r : R2} (h : OpR X (inplaceOp op) r) : PIp X op r := fun pins s σ H x y v u Q I rx ry q => h pins s σ H x y v u Q I rx ry q
section
variable {X : Cx} {W : WX} {Γ : Slots} {T : Th} {a b c e : Expr} {es rest : List Expr} {pos p : Pos} {α β ρ : VR} {i j k : Int}
theorem je_addS' {x y z : Str} (h : addS x y = some z) (ha : JE X Γ T a (Dat x)) (hb : JE X Γ T b (Dat y)) : JE X Γ T (.BinOp a .Add b pos) (Dat z) := by obtain ⟨h1, rfl⟩ := of_when h; exact je_addS ha hb h1
theorem je_mul' (h : mulO i j = some k) (ha : JE X Γ T a (Dat i)) (hb : JE X Γ T b (Dat j)) : JE X Γ T (.BinOp a .Mult b pos) (Dat k) := by obtain ⟨h1, rfl⟩ := of_when h; exact je_mul ha hb h1
theorem je_div' (h : divO i j = some k) (ha : JE X Γ T a (Dat i)) (hb : JE X Γ T b (Dat j)) : JE X Γ T (.BinOp a .FloorDiv b pos) (Dat k) := by obtain ⟨h1, rfl⟩ := of_when h; exact je_div ha hb h1
theorem je_mod' (h : modO i j = some k) (ha : JE X Γ T a (Dat i)) (hb : JE X Γ T b (Dat j)) : JE X Γ T (.BinOp a .Mod b pos) (Dat k) := by obtain ⟨h1, rfl⟩ := of_when h; exact je_mod ha hb h1
theorem je_shl' (h : shlO i j = some k) (ha : JE X Γ T a (Dat i)) (hb : JE X Γ T b (Dat j)) : JE X Γ T (.BinOp a .LShift b pos) (Dat k) := by obtain ⟨h1, rfl⟩ := of_when h; exact je_shl ha hb h1
theorem je_shr' (h : shrO i j = some k) (ha : JE X Γ T a (Dat i)) (hb : JE X Γ T b (Dat j)) : JE X Γ T (.BinOp a .RShift b pos) (Dat k) := by obtain ⟨h1, rfl⟩ := of_when h; exact je_shr ha hb h1
theorem je_lenS' {x : Str} (h : lenS x = some k) (hg : Gl X "len") (hm : X.mg "len" = none) (ha : JE X Γ T a (Dat x)) (hs : starEach [a] X.env = (false, eval a X.env) :: starEach [] X.env := by exact star1 rfl) : JE X Γ T (.Call (.Name "len" p) [a] [] pos) (Dat k) := by obtain ⟨h1, rfl⟩ := of_when h; exact je_lenS hg hm ha h1 hs
theorem je_atS {x y : Str} (h : ixStr x i = some y) (ha : JE X Γ T a (Dat x)) (hb : JE X Γ T b (Dat i)) (hs : PlainIx b := by exact fun _ _ => rfl) : JE X Γ T (.Subscript a b pos) (Dat y) := by
  unfold ixStr at h
  split at h
  · obtain ⟨c, h1, rfl⟩ := Option.map_eq_some_iff.mp h
    exact je_ixS ha hb ‹_› h1 hs
  · cases h
theorem je_slS' {x y : Str} {lo hi : Option Expr} {l u : Option Int} {p2 : Pos} (h : cutSO x l u = some y) (ha : JE X Γ T a (Dat x)) (hl : JO X Γ T lo l) (hu : JO X Γ T hi u) : JE X Γ T (.Subscript a (.Slice lo hi none p2) pos) (Dat y) := by obtain ⟨h1, rfl⟩ := of_when h; exact je_slS ha hl hu h1
/-! and, or whose right side may fail in the mirror -/
theorem jw_andO {k1 k' : Bool} {m : Option Bool} (h : (if k1 = true then m else some false) = some k') (ha : JT X Γ T a k1) (hb : k1 = true → m = some k' → JTW X Γ T (.BoolOp .And (b :: rest) pos) k') : JTW X Γ T (.BoolOp .And (a :: b :: rest) pos) k' := by
  cases k1 with
  | true => exact jw_and (k2 := k') ha fun _ => hb rfl h
  | false =>
    cases h
    exact jw_and (k2 := false) ha fun z => nomatch z
theorem jw_orO {k1 k' : Bool} {m : Option Bool} (h : (if k1 = true then some true else m) = some k') (ha : JT X Γ T a k1) (hb : k1 = false → m = some k' → JTW X Γ T (.BoolOp .Or (b :: rest) pos) k') : JTW X Γ T (.BoolOp .Or (a :: b :: rest) pos) k' := by
  cases k1 with
  | false => exact jw_or (k2 := k') ha fun _ => hb rfl h
  | true =>
    cases h
    exact jw_or (k2 := false) ha fun z => nomatch z
theorem je_andO {k1 k' : Bool} {m : Option Bool} (h : (if k1 = true then m else some false) = some k') (ha : JE X Γ T a (Dat k1)) (hb : k1 = true → m = some k' → JE X Γ T (.BoolOp .And (b :: rest) pos) (Dat k')) : JE X Γ T (.BoolOp .And (a :: b :: rest) pos) (Dat k') := by
  cases k1 with
  | true => exact je_andV (k2 := k') ha fun _ => hb rfl h
  | false =>
    cases h
    exact je_andV (k2 := false) ha fun z => nomatch z
theorem je_orO {k1 k' : Bool} {m : Option Bool} (h : (if k1 = true then some true else m) = some k') (ha : JE X Γ T a (Dat k1)) (hb : k1 = false → m = some k' → JE X Γ T (.BoolOp .Or (b :: rest) pos) (Dat k')) : JE X Γ T (.BoolOp .Or (a :: b :: rest) pos) (Dat k') := by
  cases k1 with
  | false => exact je_orV (k2 := k') ha fun _ => hb rfl h
  | true =>
    cases h
    exact je_orV (k2 := false) ha fun z => nomatch z
theorem je_ifO {A : Type} [Rp A] {k1 : Bool} {m m' : Option A} {r : A} (h : (if k1 = true then m else m') = some r) (hc : JT X Γ T c k1) (ha : k1 = true → m = some r → JE X Γ T a (Dat r)) (hb : k1 = false → m' = some r → JE X Γ T b (Dat r)) : JE X Γ T (.IfExp c a b pos) (Dat r) :=
  je_if hc (fun q => ha q (oT q h)) fun q => hb q (oF q h)
theorem je_isT {k1 : Bool} {j : Nat} {p' : Pos} : True := trivial
/-! ranges -/
theorem getElem?_intsFrom {lo : Int} {n i : Nat} (h : i < n) : (intsFrom lo n)[i]? = some (lo + (i : Int)) := by
  unfold intsFrom
  rw [List.getElem?_map, List.getElem?_range h]
  rfl
theorem length_intsFrom {lo : Int} {n : Nat} : (intsFrom lo n).length = n := by simp [intsFrom]
theorem feed_rng {F0 : Hp} {lo : Int} {n : Nat} : Feed F0 T (Itr lo n) ((intsFrom lo n).map Dat) := fun F L Lf H i e t o => by
  refine ⟨fun h => ?_, fun ρ h => ?_⟩
  · rw [List.length_map, length_intsFrom] at h; exact h
  · have hi : i < n := by
      have := (List.getElem?_eq_some_iff.mp h).1
      rwa [List.length_map, length_intsFrom] at this
    rw [List.getElem?_map, getElem?_intsFrom hi] at h
    cases h
    exact ⟨hi, fun x H' ⟨a, b⟩ => ⟨F, Same.refl F, by rw [a]; exact o, b⟩⟩
theorem ji_rng1 {tg : Expr} {xs : List Int} (h : rngO 0 j = some xs) (hg : Gl X "range") (hm : X.mg "range" = none) (ha : JE X Γ T a (Dat j)) (hs : starEach [a] X.env = [(false, eval a X.env)] := by exact star1n rfl) :
    JI X Γ T tg (.Call (.Name "range" p) [a] [] pos) (fun _ => True) (xs.map Dat) := by
  obtain ⟨h1, rfl⟩ := of_when h
  intro F σ L Lf H s t o R k
  refine ⟨_, pi_range1 hg hm wa_pa hs, ja_cons ha ja_nil hs F σ L Lf H s t o _ fun F1 M1 H1 vs e1 t1 o1 rs => ?_⟩
  obtain ⟨x, rfl, rx⟩ := vrs1 rs
  cases (show x = .int j from rx)
  refine ⟨j, rfl, h1.2.2.1, h1.2.2.2, k _ F1 M1 H1 e1 t1 o1 fun T' _ => ?_⟩
  rw [show j - 0 = j by omega]
  exact feed_rng
theorem ji_rng2 {tg : Expr} {xs : List Int} (h : rngO i j = some xs) (hg : Gl X "range") (hm : X.mg "range" = none) (ha : JE X Γ T a (Dat i)) (hb : JE X Γ T b (Dat j)) (hs : starEach [a, b] X.env = (false, eval a X.env) :: starEach [b] X.env := by exact star1 rfl) (hs' : starEach [b] X.env = (false, eval b X.env) :: starEach [] X.env := by exact star1 rfl)
    (hp : starEach [a, b] X.env = [(false, eval a X.env), (false, eval b X.env)] := by exact star2n rfl rfl) (hp2 : starEach [b] X.env = [(false, eval b X.env)] := by exact star1n rfl) :
    JI X Γ T tg (.Call (.Name "range" p) [a, b] [] pos) (fun _ => True) (xs.map Dat) := by
  obtain ⟨h1, rfl⟩ := of_when h
  intro F σ L Lf H s t o R k
  refine ⟨_, pi_range2 hg hm wa_pa hp hp2, ja_cons ha (ja_cons hb ja_nil hs') hs F σ L Lf H s t o _ fun F1 M1 H1 vs e1 t1 o1 rs => ?_⟩
  obtain ⟨x, y, rfl, rx, ry⟩ := vrs2 rs
  cases (show x = .int i from rx)
  cases (show y = .int j from ry)
  exact ⟨i, j, rfl, h1, k _ F1 M1 H1 e1 t1 o1 fun T' _ => feed_rng⟩
/-! comprehensions by a mirror -/
theorem je_lcM {A B : Type} [Rp B] {tg iter elt : Expr} {xs : List A} {ys : List B} {m : A → Option B} {it : A → VR} {scope : Scope} (own : List (Str × Nat)) (hm : mapB m xs = some ys) (ok : Th → Prop) (hc : X.calm = true) (hN : X.N.Nodup) (bo : BlkOk X.N X.env.scope scope own) (hI : JI X Γ T tg iter ok (xs.map it)) (hok : ok T)
    (turn : ∀ x y, x ∈ xs → m x = some y → ∃ put ws, (∀ w ∈ ws, w ∈ own.map (·.2)) ∧ Blk X scope (fun Y => JG Y tg (it x) put ws) ∧ Blk X scope fun Y => JE Y (put ((own.map (·.2)).foldr (fun v g => g.set v none) Γ)) T elt (Dat y)) (hs : ∀ x, foldedSetIterable iter X.env x = pure x := by exact folded_no rfl) :
    JE X Γ T (.ListComp elt [⟨tg, iter, [], 0⟩] scope pos) (Dat ys) := by
  unfold mapB at hm
  split at hm
  · obtain ⟨h1, h2⟩ := mapO_os hm
    have e : ys = (ys.map some).filterMap id := by simp [List.filterMap_map]
    rw [e]
    refine je_lc (os := ys.map some) own hc hN bo hI hok (by simp [h1]) (by simpa [← h1] using ‹xs.length ≤ 1000000›) (fun i ρ o hρ ho => ?_) hs
    rw [List.getElem?_map] at hρ ho
    cases hx : xs[i]? with
    | none => rw [hx] at hρ; cases hρ
    | some x =>
      cases hy : ys[i]? with
      | none => rw [hy] at ho; cases ho
      | some y =>
        rw [hx] at hρ; rw [hy] at ho
        cases hρ; cases ho
        obtain ⟨put, ws, a1, a2, a3⟩ := turn x y (List.mem_of_getElem? hx) (h2 i x y hx hy)
        exact ⟨put, ws, a1, a2, fun _ _ _ _ _ => jts_nil, fun y' e => by cases e; exact a3⟩
  · cases hm
theorem je_lcT {A B : Type} [Rp B] {tg iter elt test : Expr} {xs : List A} {ys : List B} {m : A → Option (Option B)} {it : A → VR} {scope : Scope} (own : List (Str × Nat)) (hm : lcB m xs = some ys) (ok : Th → Prop) (hc : X.calm = true) (hN : X.N.Nodup) (bo : BlkOk X.N X.env.scope scope own) (hI : JI X Γ T tg iter ok (xs.map it)) (hok : ok T)
    (turn : ∀ x o, x ∈ xs → m x = some o → ∃ put ws, (∀ w ∈ ws, w ∈ own.map (·.2)) ∧ Blk X scope (fun Y => JG Y tg (it x) put ws) ∧ Blk X scope (fun Y => JT Y (put ((own.map (·.2)).foldr (fun v g => g.set v none) Γ)) T test o.isSome) ∧ ∀ y, o = some y → Blk X scope fun Y => JE Y (put ((own.map (·.2)).foldr (fun v g => g.set v none) Γ)) T elt (Dat y)) (hs : ∀ x, foldedSetIterable iter X.env x = pure x := by exact folded_no rfl) :
    JE X Γ T (.ListComp elt [⟨tg, iter, [test], 0⟩] scope pos) (Dat ys) := by
  unfold lcB at hm
  split at hm
  · obtain ⟨os, h0, h1, h2⟩ := lcO_os hm
    rw [← h0]
    refine je_lc (os := os) own hc hN bo hI hok (by simp [h1]) (by simpa [← h1] using ‹xs.length ≤ 1000000›) (fun i ρ o hρ ho => ?_) hs
    rw [List.getElem?_map] at hρ
    cases hx : xs[i]? with
    | none => rw [hx] at hρ; cases hρ
    | some x =>
      rw [hx] at hρ
      cases hρ
      obtain ⟨put, ws, a1, a2, a3, a4⟩ := turn x o (List.mem_of_getElem? hx) (h2 i x o hx ho)
      exact ⟨put, ws, a1, a2, fun s H C cl fp => jts_one (a3 s H C cl fp), a4⟩
  · cases hm
variable {st : Stmt} {D : Po} {stmts : List Stmt}
theorem js_setM {A B : Type} [Rp B] {tg iter elt : Expr} {xs : List A} {ys : List B} {m : A → Option B} {it : A → VR} {scope : Scope} (i : Nat) {y : Str} {py spos : Pos} (own : List (Str × Nat)) (hm : mapB m xs = some ys) (ok : Th → Prop) (hc : X.calm = true) (hN : X.N.Nodup) (bo : BlkOk X.N X.env.scope scope own) (hI : JI X Γ T tg iter ok (xs.map it)) (hok : ok T)
    (turn : ∀ x y, x ∈ xs → m x = some y → ∃ put ws, (∀ w ∈ ws, w ∈ own.map (·.2)) ∧ Blk X scope (fun Y => JG Y tg (it x) put ws) ∧ Blk X scope fun Y => JE Y (put ((own.map (·.2)).foldr (fun v g => g.set v none) Γ)) T elt (Dat y)) (hk : JSs X W (Γ.set i (some (Dat ys))) T stmts D)
    (hsw : swapsWith (.ListComp elt [⟨tg, iter, [], 0⟩] scope pos) (some (.Name y py)) spos.line X.env = pure true) (hy : X.N[i]? = some y := by rfl) (hyl : X.env.scope.names.lookup y = some .local := by rfl) (hs : ∀ x, foldedSetIterable iter X.env x = pure x := by exact folded_no rfl) :
    JSs X W Γ T (.Assign [.Name y py] (.ListComp elt [⟨tg, iter, [], 0⟩] scope pos) spos :: stmts) D := by
  unfold mapB at hm
  split at hm
  · obtain ⟨h1, h2⟩ := mapO_os hm
    have e : ys = (ys.map some).filterMap id := by simp [List.filterMap_map]
    refine js_step ?_ hk
    rw [e]
    refine js_setLc (os := ys.map some) i own hc hN bo hI hok (by simp [h1]) (by simpa [← h1] using ‹xs.length ≤ 1000000›) (fun i ρ o hρ ho => ?_) ⟨rfl, rfl⟩ hy hyl hsw hs
    rw [List.getElem?_map] at hρ ho
    cases hx : xs[i]? with
    | none => rw [hx] at hρ; cases hρ
    | some x =>
      cases hy : ys[i]? with
      | none => rw [hy] at ho; cases ho
      | some y =>
        rw [hx] at hρ; rw [hy] at ho
        cases hρ; cases ho
        obtain ⟨put, ws, a1, a2, a3⟩ := turn x y (List.mem_of_getElem? hx) (h2 i x y hx hy)
        exact ⟨put, ws, a1, a2, fun _ _ _ _ _ => jts_nil, fun y' e => by cases e; exact a3⟩
  · cases hm
theorem js_setT {A B : Type} [Rp B] {tg iter elt test : Expr} {xs : List A} {ys : List B} {m : A → Option (Option B)} {it : A → VR} {scope : Scope} (i : Nat) {y : Str} {py spos : Pos} (own : List (Str × Nat)) (hm : lcB m xs = some ys) (ok : Th → Prop) (hc : X.calm = true) (hN : X.N.Nodup) (bo : BlkOk X.N X.env.scope scope own) (hI : JI X Γ T tg iter ok (xs.map it)) (hok : ok T)
    (turn : ∀ x o, x ∈ xs → m x = some o → ∃ put ws, (∀ w ∈ ws, w ∈ own.map (·.2)) ∧ Blk X scope (fun Y => JG Y tg (it x) put ws) ∧ Blk X scope (fun Y => JT Y (put ((own.map (·.2)).foldr (fun v g => g.set v none) Γ)) T test o.isSome) ∧ ∀ y, o = some y → Blk X scope fun Y => JE Y (put ((own.map (·.2)).foldr (fun v g => g.set v none) Γ)) T elt (Dat y)) (hk : JSs X W (Γ.set i (some (Dat ys))) T stmts D)
    (hsw : swapsWith (.ListComp elt [⟨tg, iter, [test], 0⟩] scope pos) (some (.Name y py)) spos.line X.env = pure true) (hy : X.N[i]? = some y := by rfl) (hyl : X.env.scope.names.lookup y = some .local := by rfl) (hs : ∀ x, foldedSetIterable iter X.env x = pure x := by exact folded_no rfl) :
    JSs X W Γ T (.Assign [.Name y py] (.ListComp elt [⟨tg, iter, [test], 0⟩] scope pos) spos :: stmts) D := by
  unfold lcB at hm
  split at hm
  · obtain ⟨os, h0, h1, h2⟩ := lcO_os hm
    refine js_step ?_ hk
    rw [← h0]
    refine js_setLc (os := os) i own hc hN bo hI hok (by simp [h1]) (by simpa [← h1] using ‹xs.length ≤ 1000000›) (fun i ρ o hρ ho => ?_) ⟨rfl, rfl⟩ hy hyl hsw hs
    rw [List.getElem?_map] at hρ
    cases hx : xs[i]? with
    | none => rw [hx] at hρ; cases hρ
    | some x =>
      rw [hx] at hρ
      cases hρ
      obtain ⟨put, ws, a1, a2, a3, a4⟩ := turn x o (List.mem_of_getElem? hx) (h2 i x o hx ho)
      exact ⟨put, ws, a1, a2, fun s H C cl fp => jts_one (a3 s H C cl fp), a4⟩
  · cases hm
/-- both ways go on in one state -/
theorem js_ifj {Γ' : Slots} {T' : Th} {A B : List Stmt} {k : Bool} (hc : JT X Γ T c k) (ha : k = true → JSs X W Γ T A { D with nx := fun Γ1 T1 => Wk Γ1 Γ' ∧ T1 = T' }) (hb : k = false → JSs X W Γ T B { D with nx := fun Γ1 T1 => Wk Γ1 Γ' ∧ T1 = T' }) (hk : JSs X W Γ' T' stmts D) :
    JSs X W Γ T (.If c A B pos :: stmts) D := js_cons (js_if hc ha hb) fun _ _ ⟨a, b⟩ => by subst b; exact js_wk a hk
/-- the rest is shown at each way's end -/
theorem js_ifd {A B : List Stmt} {k : Bool} (hc : JT X Γ T c k) (ha : k = true → JSs X W Γ T A { D with nx := fun Γ1 T1 => JSs X W Γ1 T1 stmts D }) (hb : k = false → JSs X W Γ T B { D with nx := fun Γ1 T1 => JSs X W Γ1 T1 stmts D }) :
    JSs X W Γ T (.If c A B pos :: stmts) D := js_cons (js_if hc ha hb) fun _ _ h => h
variable {A R : Type} [Rp R] {vals : A → List VR} {m : A → Option R} {n : Nat} {ps : List Str} {x : Str}
theorem je_callC (a : A) {r : R} (h : m a = some r) (C : Cal X.prog X.w X.K X.mg X.base n x ps (pureSpec vals fun a => (m a).map Dat).sp) (hr : Room n X.A) (hg : Gl X x)
    (hA : JA X Γ T (e :: es) (vals a)) (hdb : (x == ("__debug__" : Str)) = false := by decide) (he : starEach (e :: es) X.env = (false, eval e X.env) :: starEach es X.env := by exact star1 rfl) (hpl : (backTo pos (starEach es X.env)).any (·.1) = false := by exact backTo_any (stars rfl)) :
    JE X Γ T (.Call (.Name x p) (e :: es) [] pos) (Dat r) := by
  obtain ⟨f, fd, Fn, hm, hk, hb⟩ := C
  exact je_callP a h Fn hr hg hm hk hb hA hdb he hpl
end
/-! ### the end of a law -/
theorem walk_ofEB {l : PySem.W.OpenLaw} {n k : Nat} {q : Program} {loose : List Str} {XP : (Str → Option Value) → Heap → Prop} {YP : World → Heap → Prop} {d : DefRec} {x : Str}
    (hn : l.most = some n) (hn2 : n ≤ sizeLine) (hdf : d.params.defaults = []) (hr : Room k callerA)
    (F : ∀ (w : World) (mg : Str → Option Value) (fa : Addr) (h : Heap), YP w h → h.Ns mainGlobals mg → mg d.name = some (.ref fa) →
      ∃ (K : PySem.W.Frag) (fd : FuncData) (sp : Sp), K.In h ∧ (∀ (s : Shared) (u : Value), BindsTo s fd ⟨[u], []⟩ [(x, u)]) ∧
        (∀ (H : Hp) (a : Addr) (ns : List Int), ns.length ≤ n → (∀ z ∈ ns, Builtin.Int.intBits z ≤ 1048576) → SqL K H a (ns.map V.int) → sp [.ref a] H (fun v _ => v = .bl true) fun _ _ _ => False) ∧
        ∀ base : Heap, K.In base → base.Ns mainGlobals mg → FnOk l.prog w K mg base (L2N.CX l.prog w) k fa fd [x] sp) :
    PySem.W.WalkO q loose XP YP l.row.toRowW d [] (fun f vs => PySem.call f vs) := by
  refine Att.attach_callB hn hdf fun w s₀ s₁ mg mb fa o pm cd doc a vs ns G Y ho hd hcd hmg hobj hints hlen hbits hg => ?_
  obtain ⟨K, fd, sp, KX, hb, hsp, hF⟩ := F w mg fa _ Y G.T.g hmg
  exact law_call KX G.T.g G.T.b G.T.builtins G.T.nolimit hg hobj hints (Nat.le_trans hlen hn2) hr hF hb (fun H hO hS => hsp H a ns hlen hbits hS) fun H e s' h => by
    obtain ⟨_, _, _, _, _, _, _, _, _, _, _, _, z⟩ := h
    exact z.elim
/-- a law whose mirror tells True of every script -/
theorem law_sp {K : PySem.W.Frag} {m : List Int → Option Bool} (hm : ∀ ns : List Int, ns.length ≤ 63 → (∀ z ∈ ns, Builtin.Int.intBits z ≤ 1048576) → m ns = some true) (H : Hp) (a : Addr) (ns : List Int) (hl : ns.length ≤ 63) (hb : ∀ z ∈ ns, Builtin.Int.intBits z ≤ 1048576) (hS : SqL K H a (ns.map V.int)) :
    (pureSpec (fun ns => [Scr K ns]) fun ns => (m ns).map Dat).sp [.ref a] H (fun v _ => v = .bl true) fun _ _ _ => False := by
  have e := hm ns hl hb
  refine ⟨ns, H, [], [], ⟨Dat true, by show (m ns).map Dat = _; rw [e]; rfl⟩, .cons ⟨a, rfl, hS⟩ .nil, .nil, ⟨Same.refl H, fun c h => (List.not_mem_nil h).elim, fun c h => (List.not_mem_nil h).elim, List.nodup_nil, fun c h => (List.not_mem_nil h).elim⟩, fun v H' ⟨ρ, T, F', L', ⟨h1, _⟩, _, h3, _⟩ => ?_, fun _ _ _ _ _ z => z.elim⟩
  replace h1 : (m ns).map Dat = some ρ := h1
  rw [e] at h1
  cases h1
  exact h3
end G

/-! GH: rules that the printed proofs name. -/
namespace G
open PySem PySem.Spec PyProof.Rows L2
open Rp (rep)
section
variable {X : Cx} {W : WX} {Γ Γ' : Slots} {T T' : Th} {a b c e o : Expr} {es : List Expr} {rest : List Stmt} {D : Po} {pos apos : Pos} {ρ : VR} {B : Type} [Rp B] {xs ys : List B} {p : Addr}
theorem jt_eq {k k' : Bool} (h : JT X Γ T e k) (q : k = k') : JT X Γ T e k' := q ▸ h
theorem js_newL (i : Nat) {x : Str} {pos' : Pos} (hN : X.N.Nodup) (h : JA X Γ T es (xs.map Dat)) (hl : xs.length ≤ sizeLine) (k : ∀ p, JSs X W (Γ.set i (some (Ref p))) ((p, OL xs) :: T) rest D) (hi : X.N[i]? = some x := by rfl) (hx : Loc X.env.scope x := by first | exact Or.inl rfl | exact Or.inr rfl)
    (hs : swapsWith (.List es pos) (some (.Name x pos')) apos.line X.env = pure false := by exact swaps_no rfl) (hf : X.fn x = true ∨ X.env.scope.names.lookup x = some .local := by first | exact .inl rfl | exact .inr rfl) : JSs X W Γ T (.Assign [.Name x pos'] (.List es pos) apos :: rest) D :=
  js_cons (M := fun Γ1 T1 => ∃ p, Γ1 = Γ.set i (some (Ref p)) ∧ T1 = (p, OL xs) :: T) (js_setX i hN (jx_list h hl) (fun ρ T' ⟨p, h1, h2⟩ => ⟨p, by rw [h1], h2⟩) (fun _ _ z => z.elim) hi hx hs hf) fun _ _ ⟨p, h1, h2⟩ => by subst h1 h2; exact k p
theorem js_app (i : Nat) {y : B} (hi : T[i]? = some (p, OL xs)) (ho : JE X Γ T o (Ref p)) (he : JE X Γ T e (Dat y)) (h : appO xs y = some ys) (k : JSs X W Γ (T.set i (p, OL ys)) rest D) (hs : starEach [e] X.env = (false, eval e X.env) :: starEach [] X.env := by exact star1 rfl)
    (hp : ∀ {to : TE} {t : TA}, PE X o to → PA X [e] t → PE X (.Call (.Attribute o "append" apos) [e] [] pos) (tBM X.K "list" rAppend to t) := by exact fun h h' => pe_bm PySem.F.plainAttrs_list PySem.F.slot_list_append PySem.F.type_list_append mt_append h h')
    {pos2 : Pos} (hs2 : swapsWith (.Call (.Attribute o "append" apos) [e] [] pos) none pos2.line X.env = pure false := by exact swaps_no rfl) : JSs X W Γ T (.Expr (.Call (.Attribute o "append" apos) [e] [] pos) pos2 :: rest) D := by
  obtain ⟨hl, rfl⟩ := of_when h
  exact js_cons (M := fun Γ1 T1 => Γ1 = Γ ∧ T1 = T.set i (p, OL (xs ++ [y]))) (js_exprX (jx_append i hi ho he hl hs hp) (fun ρ T' ⟨_, h2⟩ => ⟨rfl, h2⟩) (fun _ _ z => z.elim) hs2) fun _ _ ⟨h1, h2⟩ => by subst h1 h2; exact k
theorem js_clr (i : Nat) (hi : T[i]? = some (p, OL xs)) (ho : JE X Γ T o (Ref p)) (k : JSs X W Γ (T.set i (p, OL ([] : List B))) rest D) (hp : ∀ {to : TE}, PE X o to → PE X (.Call (.Attribute o "clear" apos) [] [] pos) (tBM0 X.K "list" rClear to) := by exact fun h => pe_bm0 PySem.F.plainAttrs_list PySem.F.slot_list_clear PySem.F.type_list_clear mt_clear h)
    {pos2 : Pos} (hs2 : swapsWith (.Call (.Attribute o "clear" apos) [] [] pos) none pos2.line X.env = pure false := by exact swaps_no rfl) : JSs X W Γ T (.Expr (.Call (.Attribute o "clear" apos) [] [] pos) pos2 :: rest) D :=
  js_cons (M := fun Γ1 T1 => Γ1 = Γ ∧ T1 = T.set i (p, OL ([] : List B))) (js_exprX (jx_clear i hi ho hp) (fun ρ T' ⟨_, h2⟩ => ⟨rfl, h2⟩) (fun _ _ z => z.elim) hs2) fun _ _ ⟨h1, h2⟩ => by subst h1 h2; exact k
theorem js_freezeAt (k i : Nat) {sts : List Stmt} (hk : T[k]? = some (p, OL xs)) (hi : Γ[i]? = some (some (Ref p))) (h : JSs X W (Γ.set i (some (Dat xs))) (T.eraseIdx k) sts D) : JSs X W Γ T sts D :=
  js_pm (perm_pick k hk) (js_freeze (p := p) (xs := xs) rfl (by simpa using h) fun F σ r s => sr_fr i r hi s)
theorem js_augI (i : Nat) {x : Str} {pos' : Pos} {op : Operator} {g : Int → Int → Int} {u v z : Int} (hN : X.N.Nodup) (hip : PIp X op (ipI g)) (hv : Γ[i]? = some (some (Dat u))) (he : JE X Γ T e (Dat v)) (hz : some (g u v) = some z) (k : JSs X W (Γ.set i (some (Dat z))) T rest D)
    (hi : X.N[i]? = some x := by rfl) (hx : Loc X.env.scope x := by first | exact Or.inl rfl | exact Or.inr rfl) (hf : X.fn x = true ∨ X.env.scope.names.lookup x = some .local := by first | exact .inl rfl | exact .inr rfl) : JSs X W Γ T (.AugAssign (.Name x pos') op e pos :: rest) D := by
  cases hz
  exact js_step (js_aug i hN hip hv he (fun F L Lf H x y Q t o rx ry k => ⟨u, v, rx, ry, k F L H _ (Same.refl F) t o rfl⟩) ⟨rfl, rfl⟩ hi hx hf) k
theorem bcase (b : Bool) : b = true ∨ b = false := by cases b; exact .inr rfl; exact .inl rfl
theorem units_of {A : Around} {k : Nat} (h : Room k A) : A.units + 64 < cLine := by have := h.un; omega
/-! a written dict, asked at once -/
def lookK (kvs : List (Str × Int)) (w : Str) (d : Int) : Int := ((kvs.find? fun kv => decide (kv.1 = w)).map (·.2)).getD d
theorem tPairs_con : ∀ (kvs : List (Str × Int)) (σ : L2.St) (H : Hp) (Q : List (V × V) → Hp → Prop), Q (kvs.map fun kv => (V.str kv.1, V.int kv.2)) H → tPairs (kvs.map fun kv => (tC (V.str kv.1), tC (V.int kv.2))) σ H Q
  | [], _, _, _, h => h
  | kv :: kvs, σ, H, Q, h => tPairs_con kvs σ H (fun ps H2 => Q ((V.str kv.1, V.int kv.2) :: ps) H2) h
theorem merge_new : ∀ (kvs acc : List (Key × V)), (kvs.map (·.1)).Nodup → (∀ k ∈ kvs.map (·.1), k ∉ acc.map (·.1)) → mergeK acc kvs = acc ++ kvs
  | [], acc, _, _ => (List.append_nil acc).symm
  | (k, v) :: kvs, acc, hn, hd => by
    have h1 : putK acc k v = acc ++ [(k, v)] := by
      unfold putK
      rw [if_neg]
      intro h
      obtain ⟨q, hq, e⟩ := List.any_eq_true.mp h
      exact hd k (List.mem_cons_self ..) (List.mem_map.mpr ⟨q, hq, of_decide_eq_true e⟩)
    have hn' : k ∉ kvs.map (·.1) ∧ (kvs.map (·.1)).Nodup := List.nodup_cons.mp hn
    show mergeK (putK acc k v) kvs = _
    rw [h1, merge_new kvs (acc ++ [(k, v)]) hn'.2 ?_, List.append_assoc]
    · rfl
    · intro k' hk' hm
      rw [List.map_append] at hm
      rcases List.mem_append.mp hm with h | h
      · exact hd k' (List.mem_cons_of_mem _ hk') h
      · simp at h
        subst h
        exact hn'.1 (by simpa using hk')
theorem val_look (w : Str) (d : Int) : ∀ kvs : List (Str × Int), (valV (kvs.map fun kv => ((Sum.inr kv.1 : Key), V.int kv.2)) (Sum.inr w)).getD (.int d) = .int (lookK kvs w d)
  | [] => rfl
  | kv :: kvs => by
    have ih := val_look w d kvs
    unfold valV lookK at ih ⊢
    rw [List.map_cons, List.find?_cons, List.find?_cons, key_rr]
    cases decide (kv.1 = w) with
    | true => rfl
    | false => exact ih
theorem je_dictGet {kvs : List (Str × Int)} {keys : List (Option Expr)} {values : List Expr} {w : Str} {d : Int} {dpos : Pos} (hu : X.A.units + 64 < cLine) (hP : PPs X dpos keys values (kvs.map fun kv => (tC (V.str kv.1), tC (V.int kv.2)))) (hn : (kvs.map (·.1)).Nodup) (h0 : keys ≠ []) (hz : kvs.length ≤ 15)
    (ha : JE X Γ T a (Dat w)) (hb : JE X Γ T b (Dat d)) (hall : keys.all (·.isSome) = true := by rfl) (hl : keys.length = values.length := by rfl) (h15 : keys.length ≤ 15 := by decide) (m : M2 X (.Dict keys values dpos) "get" apos a b pos := by exact ⟨rfl, rfl, rfl, rfl⟩) :
    JE X Γ T (.Call (.Attribute (.Dict keys values dpos) "get" apos) [a, b] [] pos) (Dat (lookK kvs w d)) := fun F σ L Lf H s t ow Q k =>
  we_of (pe_dget2 (Nat.lt_of_le_of_lt (Nat.add_le_add_left (by decide) _) hu) (pe_disp hP hall hl h0 h15) we_pe we_pe m) (by
    intro p hp
    refine tPairs_con kvs σ _ _ ⟨upd_same, kvs.map fun kv => (Sum.inr kv.1, V.int kv.2), by rw [List.map_map]; rfl, by rw [List.length_map]; exact hz, ?_⟩
    have e0 : mergeK [] (kvs.map fun kv => ((Sum.inr kv.1 : Key), V.int kv.2)) = kvs.map fun kv => ((Sum.inr kv.1 : Key), V.int kv.2) := by
      rw [merge_new _ [] ?_ (fun _ _ h => by simp at h)]
      · rfl
      · rw [List.map_map]
        refine List.pairwise_map.mpr ?_
        exact List.Pairwise.imp (fun {a b} h q => h (Sum.inr.inj q)) (List.pairwise_map.mp hn)
    rw [e0]
    have o1 : Own F ((p, .dK (kvs.map fun kv => ((Sum.inr kv.1 : Key), V.int kv.2))) :: (L ++ Lf)) (upd (upd H p (.dK [])) p (.dK (kvs.map fun kv => ((Sum.inr kv.1 : Key), V.int kv.2)))) := (ow.born hp).put
    refine ⟨p, rfl, .inl ⟨_, .inl o1.at⟩, ha F σ L ((p, .dK (kvs.map fun kv => ((Sum.inr kv.1 : Key), V.int kv.2))) :: Lf) _ s t (o1.perm List.perm_middle.symm) _ fun F1 M1 H1 x e1 t1 o2 r1 => hb F1 σ M1 _ H1 (s.mono e1) t1 o2 _ fun F2 M2 H2 y e2 t2 o3 r2 => ?_⟩
    have o4 := o3.perm List.perm_middle
    cases (show x = .str w from r1)
    cases (show y = .int d from r2)
    exact ⟨_, DGet.k (k := Sum.inr w) o4.at, k F2 M2 H2 _ (e1.trans e2) t2 o4.tail (val_look w d kvs)⟩)
/-! is True, is False -/
theorem jc_isB {u v : Bool} (ha : JE X Γ T a (Dat u)) (hb : JE X Γ T b (Dat v)) : JC X Γ T .Is a b (Dat (decide (u = v))) := jc_op op_is_bl (fun F L Lf H x y Q t o rx ry k => ⟨u, v, rx, ry, k F L H _ (Same.refl F) t o rfl⟩) ha hb
theorem jc_niB {u v : Bool} (ha : JE X Γ T a (Dat u)) (hb : JE X Γ T b (Dat v)) : JC X Γ T .IsNot a b (Dat (!decide (u = v))) := jc_op op_isnot_bl (fun F L Lf H x y Q t o rx ry k => ⟨u, v, rx, ry, k F L H _ (Same.refl F) t o rfl⟩) ha hb
end
/-! ### equality of data -/
class Dpv (A : Type) [Rp A] where
  toD : A → PyData
  dep : Nat
  lok : A → Bool
  dp : ∀ {K : PySem.W.Frag} {F H : Hp} {v : V} {a : A}, Same F H → rep F v a → Dp K H v (toD a)
  eq : ∀ a b : A, PyData.eqv (toD a) (toD b) = true ↔ a = b
  lay : ∀ a : A, lok a = true → (toD a).canLay0 = true
  low : ∀ a : A, (toD a).depth ≤ dep
/-- data without texts -/
class DpvT (A : Type) [Rp A] extends Dpv A where
  all : ∀ a : A, lok a = true
instance : DpvT Int where
  toD := .int
  dep := 0
  lok := fun _ => true
  dp := fun _ h => by cases (show _ = V.int _ from h); exact .int _
  eq := fun a b => by simp [PyData.eqv]
  lay := fun _ _ => by simp [PyData.canLay0]
  low := fun _ => by simp [PyData.depth]
  all := fun _ => rfl
instance : DpvT Bool where
  toD := .bool
  dep := 0
  lok := fun _ => true
  dp := fun _ h => by cases (show _ = V.bl _ from h); exact .bl _
  eq := fun a b => by simp [PyData.eqv]
  lay := fun _ _ => by simp [PyData.canLay0]
  low := fun _ => by simp [PyData.depth]
  all := fun _ => rfl
instance : Dpv Str where
  toD := .str
  dep := 0
  lok := PyData.strOk
  dp := fun _ h => by cases (show _ = V.str _ from h); exact .str _
  eq := fun a b => by simp [PyData.eqv]
  lay := fun _ h => by rw [PyData.canLay0]; exact h
  low := fun _ => by simp [PyData.depth]
section
variable {A : Type} [Rp A] [Dpv A]
theorem dpAll {K : PySem.W.Frag} {F H : Hp} (e : Same F H) : ∀ {vs : List V} {xs : List A}, Paired (rep F) vs xs → DpAll K H vs (xs.map Dpv.toD)
  | _, _, .nil => .nil
  | _, _, .cons h t => .cons (Dpv.dp e h) (dpAll e t)
theorem eqAll : ∀ xs ys : List A, PyData.eqvAll (xs.map Dpv.toD) (ys.map Dpv.toD) = true ↔ xs = ys
  | [], [] => by simp [PyData.eqvAll]
  | [], _ :: _ => by simp [PyData.eqvAll]
  | _ :: _, [] => by simp [PyData.eqvAll]
  | x :: xs, y :: ys => by simp [PyData.eqvAll, eqAll xs ys, Dpv.eq]
theorem layAll : ∀ xs : List A, (xs.all Dpv.lok = true) → PyData.canLayAll0 (xs.map Dpv.toD) = true
  | [], _ => by simp [PyData.canLayAll0]
  | x :: xs, h => by
    rw [List.all_cons, Bool.and_eq_true] at h
    simp [PyData.canLayAll0, layAll xs h.2, Dpv.lay x h.1]
theorem lowAll : ∀ xs : List A, PyData.depthAll (xs.map Dpv.toD) ≤ Dpv.dep A
  | [] => by simp [PyData.depthAll]
  | x :: xs => by
    have h1 := lowAll xs
    have h2 := Dpv.low x
    simp only [List.map_cons, PyData.depthAll]
    omega
end
instance instDpvList {A : Type} [Rp A] [Dpv A] : Dpv (List A) where
  toD := fun xs => .list (xs.map Dpv.toD)
  dep := Dpv.dep A + 1
  lok := fun xs => xs.all Dpv.lok
  dp := fun e ⟨p, vs, h1, h2, h3⟩ => by
    subst h1
    exact .lst (SqL.of (e _ _ h2)) (dpAll e h3)
  eq := fun a b => by
    rw [PyData.eqv]
    exact eqAll a b
  lay := fun a h => by
    rw [PyData.canLay0]
    exact layAll a h
  low := fun a => by
    rw [PyData.depth]
    exact Nat.succ_le_succ (lowAll a)
instance {A : Type} [Rp A] [DpvT A] : DpvT (List A) where
  toDpv := instDpvList
  all := fun xs => List.all_eq_true.mpr fun x _ => DpvT.all x
instance instDpvPair {A B : Type} [Rp A] [Rp B] [Dpv A] [Dpv B] : Dpv (A × B) where
  toD := fun x => .tuple [Dpv.toD x.1, Dpv.toD x.2]
  dep := max (Dpv.dep A) (Dpv.dep B) + 1
  lok := fun x => Dpv.lok x.1 && Dpv.lok x.2
  dp := fun e ⟨p, x, y, h1, h2, h3, h4⟩ => by
    subst h1
    exact .tup (SqT.of (e _ _ h2)) (.cons (Dpv.dp e h3) (.cons (Dpv.dp e h4) .nil))
  eq := fun a b => by
    rw [PyData.eqv]
    simp only [PyData.eqvAll, Bool.and_true, Bool.and_eq_true, Dpv.eq]
    constructor
    · intro h; exact Prod.ext h.1 h.2
    · intro h; subst h; exact ⟨rfl, rfl⟩
  lay := fun a h => by
    rw [Bool.and_eq_true] at h
    rw [PyData.canLay0]
    simp [PyData.canLayAll0, Dpv.lay _ h.1, Dpv.lay _ h.2]
  low := fun a => by
    have h1 := Dpv.low a.1
    have h2 := Dpv.low a.2
    simp only [PyData.depth, PyData.depthAll]
    omega
instance {A B : Type} [Rp A] [Rp B] [DpvT A] [DpvT B] : DpvT (A × B) where
  toDpv := instDpvPair
  all := fun x => by show (Dpv.lok x.1 && Dpv.lok x.2) = true; rw [DpvT.all, DpvT.all]; rfl
instance instDpvT3 {A B C : Type} [Rp A] [Rp B] [Rp C] [Dpv A] [Dpv B] [Dpv C] : Dpv (T3 A B C) where
  toD := fun x => .tuple [Dpv.toD x.a, Dpv.toD x.b, Dpv.toD x.c]
  dep := max (Dpv.dep A) (max (Dpv.dep B) (Dpv.dep C)) + 1
  lok := fun x => Dpv.lok x.a && (Dpv.lok x.b && Dpv.lok x.c)
  dp := fun e ⟨p, x, y, z, h1, h2, h3, h4, h5⟩ => by
    subst h1
    exact .tup (SqT.of (e _ _ h2)) (.cons (Dpv.dp e h3) (.cons (Dpv.dp e h4) (.cons (Dpv.dp e h5) .nil)))
  eq := fun a b => by
    rw [PyData.eqv]
    simp only [PyData.eqvAll, Bool.and_true, Bool.and_eq_true, Dpv.eq]
    constructor
    · intro h; cases a; cases b; simp only at h; obtain ⟨rfl, rfl, rfl⟩ := h; rfl
    · intro h; subst h; exact ⟨rfl, rfl, rfl⟩
  lay := fun a h => by
    rw [Bool.and_eq_true, Bool.and_eq_true] at h
    rw [PyData.canLay0]
    simp [PyData.canLayAll0, Dpv.lay _ h.1, Dpv.lay _ h.2.1, Dpv.lay _ h.2.2]
  low := fun a => by
    have h1 := Dpv.low a.a
    have h2 := Dpv.low a.b
    have h3 := Dpv.low a.c
    simp only [PyData.depth, PyData.depthAll]
    omega
instance {A B C : Type} [Rp A] [Rp B] [Rp C] [DpvT A] [DpvT B] [DpvT C] : DpvT (T3 A B C) where
  toDpv := instDpvT3
  all := fun x => by show (Dpv.lok x.a && (Dpv.lok x.b && Dpv.lok x.c)) = true; rw [DpvT.all, DpvT.all, DpvT.all]; rfl
section
variable {X : Cx} {Γ : Slots} {T : Th} {a b : Expr} {α β : VR} {A : Type} [Rp A] [Dpv A] [DecidableEq A] {x y : A}
abbrev RdD (K : PySem.W.Frag) (T : Th) (α : VR) (x : A) : Prop := ∀ F L Lf H v, TR F T L → Own F (L ++ Lf) H → α.rel F v → Dp K H v (Dpv.toD x)
theorem dpv_dat {K : PySem.W.Frag} : RdD K T (Dat x) x := fun F L Lf H v t o r => Dpv.dp o.sub r
theorem dpv_own {K : PySem.W.Frag} {p : Addr} {xs : List A} (k : Nat) (h : T[k]? = some (p, OL xs)) : RdD K T (Ref p) xs := fun F L Lf H v t o r => by
  obtain ⟨p, vs, rfl, h2, h3⟩ := rdm_own k h F L Lf H v t o r
  exact .lst (SqL.of h2) (dpAll o.sub h3)
theorem dpv_scr {K : PySem.W.Frag} {ns : List Int} : RdD K T (Scr K ns) ns := fun F L Lf H v t o ⟨p, h1, h2⟩ => by
  subst h1
  exact .lst (Same.seq o.sub h2) (dpAll o.sub (paired_ints ns))
theorem shaped_of (h : Dpv.dep A ≤ 64) (hl : Dpv.lok x = true) : SeqAt.shaped (Dpv.toD x) = true := by
  unfold SeqAt.shaped
  rw [Dpv.lay x hl, decide_eq_true (Nat.le_trans (Dpv.low x) h)]
  rfl
theorem eqv_dec : PyData.eqv (Dpv.toD x) (Dpv.toD y) = decide (x = y) := by
  by_cases h : x = y
  · rw [decide_eq_true h]; exact (Dpv.eq x y).mpr h
  · rw [decide_eq_false h]
    cases q : PyData.eqv (Dpv.toD x) (Dpv.toD y) with
    | false => rfl
    | true => exact absurd ((Dpv.eq x y).mp q) h
/-- equality of data with texts: their signs must be signs -/
def eqO (x y : A) : Option Bool := when (Dpv.lok x = true ∧ Dpv.lok y = true) (decide (x = y))
theorem jc_eqO {k : Bool} (h : eqO x y = some k) (hu : X.A.units + 64 < cLine) (ha : JE X Γ T a α) (hx : RdD X.K T α x) (hb : JE X Γ T b β) (hy : RdD X.K T β y) (hd : Dpv.dep A ≤ 64 := by decide) : JC X Γ T .Eq a b (Dat k) := by
  obtain ⟨⟨h1, h2⟩, rfl⟩ := of_when h
  exact jc_op (op_eqD hu) (fun F L Lf H u v Q t o ru rv k => ⟨_, _, hx F L Lf H u t o ru, hy F L Lf H v t o rv, shaped_of hd h1, shaped_of hd h2, k F L H _ (Same.refl F) t o (by show V.bl _ = V.bl _; rw [eqv_dec])⟩) ha hb
theorem jc_neO {k : Bool} (h : eqO x y = some k) (hu : X.A.units + 64 < cLine) (ha : JE X Γ T a α) (hx : RdD X.K T α x) (hb : JE X Γ T b β) (hy : RdD X.K T β y) (hd : Dpv.dep A ≤ 64 := by decide) : JC X Γ T .NotEq a b (Dat (!k)) := by
  obtain ⟨⟨h1, h2⟩, rfl⟩ := of_when h
  exact jc_op (op_neD hu) (fun F L Lf H u v Q t o ru rv k => ⟨_, _, hx F L Lf H u t o ru, hy F L Lf H v t o rv, shaped_of hd h1, shaped_of hd h2, k F L H _ (Same.refl F) t o (by show V.bl _ = V.bl _; rw [eqv_dec])⟩) ha hb
end
section
variable {X : Cx} {Γ : Slots} {T : Th} {a b : Expr} {α β : VR} {A : Type} [Rp A] [DpvT A] [DecidableEq A] {x y : A}
theorem jc_eqD (hu : X.A.units + 64 < cLine) (ha : JE X Γ T a α) (hx : RdD X.K T α x) (hb : JE X Γ T b β) (hy : RdD X.K T β y) (hd : Dpv.dep A ≤ 64 := by decide) : JC X Γ T .Eq a b (Dat (decide (x = y))) :=
  jc_eqO (when_ok ⟨DpvT.all x, DpvT.all y⟩) hu ha hx hb hy hd
theorem jc_neD (hu : X.A.units + 64 < cLine) (ha : JE X Γ T a α) (hx : RdD X.K T α x) (hb : JE X Γ T b β) (hy : RdD X.K T β y) (hd : Dpv.dep A ≤ 64 := by decide) : JC X Γ T .NotEq a b (Dat (!decide (x = y))) :=
  jc_neO (when_ok ⟨DpvT.all x, DpvT.all y⟩) hu ha hx hb hy hd
end
theorem non_int (F : Hp) (y : Int) : ¬ rep F V.non y := fun h => nomatch (show V.non = V.int y from h)
theorem non_bl (F : Hp) (y : Bool) : ¬ rep F V.non y := fun h => nomatch (show V.non = V.bl y from h)
theorem non_str (F : Hp) (y : Str) : ¬ rep F V.non y := fun h => nomatch (show V.non = V.str y from h)
theorem non_list {A : Type} [Rp A] (F : Hp) (y : List A) : ¬ rep F V.non y := fun ⟨_, _, h, _⟩ => nomatch h
theorem non_tup2 {A B : Type} [Rp A] [Rp B] (F : Hp) (y : A × B) : ¬ rep F V.non y := fun ⟨_, _, _, h, _⟩ => nomatch h
theorem non_tup3 {A B C : Type} [Rp A] [Rp B] [Rp C] (F : Hp) (y : T3 A B C) : ¬ rep F V.non y := fun ⟨_, _, _, _, h, _⟩ => nomatch h
end G

/-! GI: owned objects and dicts, what turns them. -/
namespace G
open PySem PySem.Spec PyProof.Rows L2
open Rp (rep)
/-! ### less is owned -/
/-- T may be seen as T' -/
def TEnt (T T' : Th) : Prop := ∀ F L, TR F T L → ∃ L' Ld, L.Perm (L' ++ Ld) ∧ TR F T' L'
theorem TEnt.refl (T : Th) : TEnt T T := fun F L t => ⟨L, [], by rw [List.append_nil], t⟩
theorem TEnt.trans {T T1 T2 : Th} (a : TEnt T T1) (b : TEnt T1 T2) : TEnt T T2 := fun F L t => by
  obtain ⟨L1, D1, p1, t1⟩ := a F L t
  obtain ⟨L2, D2, p2, t2⟩ := b F L1 t1
  exact ⟨L2, D2 ++ D1, (p1.trans (p2.append_right D1)).trans (by rw [List.append_assoc]), t2⟩
theorem TEnt.perm {T T' : Th} (h : T.Perm T') : TEnt T T' := fun F L t => by
  obtain ⟨L', p, t'⟩ := t.perm h
  exact ⟨L', [], by rw [List.append_nil]; exact p.symm, t'⟩
theorem TEnt.cons {T T' : Th} (x : Addr × OV) (h : TEnt T T') : TEnt (x :: T) (x :: T') := fun F L t => by
  cases t with
  | @cons p o T L1 L2 a t =>
    obtain ⟨L', Ld, p1, t1⟩ := h F L2 t
    exact ⟨L1 ++ L', Ld, by rw [List.append_assoc]; exact p1.append_left L1, .cons a t1⟩
theorem TEnt.drop {T T' : Th} (x : Addr × OV) (h : TEnt T T') : TEnt (x :: T) T' := fun F L t => by
  cases t with
  | @cons p o T L1 L2 a t =>
    obtain ⟨L', Ld, p1, t1⟩ := h F L2 t
    exact ⟨L', Ld ++ L1, (p1.append_left L1).trans (List.perm_append_comm.trans (by rw [List.append_assoc])), t1⟩
theorem TEnt.nil (T : Th) : TEnt T [] := fun F L _ => ⟨[], L, .refl _, .nil⟩
theorem TEnt.pick {T T' : Th} (k : Nat) {x : Addr × OV} (hk : T[k]? = some x) (h : TEnt (T.eraseIdx k) T') : TEnt T (x :: T') := (TEnt.perm (perm_pick k hk)).trans (h.cons x)
theorem TEnt.own {T T' : Th} {F : Hp} {L Lf : List Cell} {H : Hp} (e : TEnt T T') (t : TR F T L) (o : Own F (L ++ Lf) H) : ∃ L', TR F T' L' ∧ Own F (L' ++ Lf) H := by
  obtain ⟨L', Ld, p, t'⟩ := e F L t
  refine ⟨L', t', ?_⟩
  have o1 : Own F (Ld ++ (L' ++ Lf)) H := o.perm ((p.append_right Lf).trans (by
    rw [List.append_assoc]
    exact (List.perm_append_comm_assoc L' Ld Lf)))
  exact o1.right
section
variable {X : Cx} {W : WX} {Γ Γ' : Slots} {T T' Tr : Th} {st : Stmt} {rest sts : List Stmt} {D D' : Po} {e o tg a b c : Expr} {es : List Expr} {pos apos : Pos} {ρ : VR} {R : VR → Th → Prop} {xr : Value → Th → Prop} {x : Str}
theorem js_ent (h : TEnt T T') (k : JSs X W Γ T' sts D) : JSs X W Γ T sts D := fun F σ L Lf H s t o w => by
  obtain ⟨L', t', o'⟩ := h.own t o
  exact k F σ L' Lf H s t' o' w
theorem js_retE (he : JE X Γ T e ρ) (c : TEnt T T') (h : D.rt ρ T') : JS X W Γ T (.Return (some e) pos) D := fun F σ L Lf H s t o w =>
  ws_of (ps_ret we_pe) (he F σ L Lf H s t o _ fun F1 M1 H1 v e1 t1 o1 r => by
    obtain ⟨L', t', o'⟩ := c.own t1 o1
    exact ⟨ρ, T', F1, L', h, e1, r, t', o'⟩)
theorem js_nilE (c : TEnt T T') (h : D.nx Γ T') : JSs X W Γ T [] D := js_ent c (js_nil h)
/-- the result of a step that turns what is owned -/
theorem jx_ent (he : JX X W Γ T e R xr) {R' : VR → Th → Prop} (h : ∀ ρ T1, R ρ T1 → ∃ T2, TEnt T1 T2 ∧ R' ρ T2) : JX X W Γ T e R' xr := fun F σ L Lf H s t o Q q qx =>
  he F σ L Lf H s t o Q (fun v H' ⟨ρ, T1, F', L', h1, h2, h3, h4, h5⟩ => by
    obtain ⟨T2, c, h6⟩ := h ρ T1 h1
    obtain ⟨L2, t2, o2⟩ := c.own h4 h5
    exact q v H' ⟨ρ, T2, F', L2, h6, h2, h3, t2, o2⟩) qx
/-! statements over such steps, and what follows -/
theorem js_setK (i : Nat) {pos' : Pos} (hN : X.N.Nodup) (he : JX X W Γ T e R xr) (hD : ∀ ρ T', R ρ T' → JSs X W (Γ.set i (some ρ)) T' rest D) (hE : ∀ c T', xr c T' → D.xr c T') (hi : X.N[i]? = some x := by rfl) (hx : Loc X.env.scope x := by first | exact Or.inl rfl | exact Or.inr rfl)
    (hs : swapsWith e (some (.Name x pos')) pos.line X.env = pure false := by exact swaps_no rfl) (hf : X.fn x = true ∨ X.env.scope.names.lookup x = some .local := by first | exact .inl rfl | exact .inr rfl) : JSs X W Γ T (.Assign [.Name x pos'] e pos :: rest) D :=
  js_cons (M := fun Γ' T' => JSs X W Γ' T' rest D) (js_setX i hN he hD hE hi hx hs hf) fun _ _ h => h
theorem js_exprK (he : JX X W Γ T e R xr) (hD : ∀ ρ T', R ρ T' → JSs X W Γ T' rest D) (hE : ∀ c T', xr c T' → D.xr c T') (hs : swapsWith e none pos.line X.env = pure false := by exact swaps_no rfl) : JSs X W Γ T (.Expr e pos :: rest) D :=
  js_cons (M := fun Γ' T' => JSs X W Γ' T' rest D) (js_exprX he hD hE hs) fun _ _ h => h
theorem js_asgK (he : JX X W Γ T e R xr) (hg : ∀ ρ T', R ρ T' → ∃ put ws, JG X tg ρ put ws ∧ JSs X W (put Γ) T' rest D) (hE : ∀ c T', xr c T' → D.xr c T') (hs : swapsWithSole [tg] e pos.line X.env = pure false := by exact sole_no rfl) (hw : swappedStores [tg] e X.env = pure none := by exact stores_no rfl) (hn : (assignEach [tg] X.env).map (·.2) = [assign tg X.env] := by exact assign_one rfl) :
    JSs X W Γ T (.Assign [tg] e pos :: rest) D := js_cons (M := fun Γ' T' => JSs X W Γ' T' rest D) (js_asgX (P := fun _ _ _ => True) he hg hE hs hw hn) fun _ _ h => h
theorem js_retK (he : JX X W Γ T e R xr) (hD : ∀ ρ T', R ρ T' → ∃ T2, TEnt T' T2 ∧ D.rt ρ T2) (hE : ∀ c T', xr c T' → D.xr c T') : JS X W Γ T (.Return (some e) pos) D :=
  js_retX (jx_ent he hD) (fun _ _ h => h) hE
/-! tests that turn what is owned -/
def JTX (X : Cx) (Γ : Slots) (T : Th) (e : Expr) (R : Bool → Th → Prop) : Prop := ∀ F σ L Lf H, SR F Γ σ → TR F T L → Own F (L ++ Lf) H → ∀ Q : Bool → Hp → Prop, (∀ b T' F' M' H', R b T' → Same F F' → TR F' T' M' → Own F' (M' ++ Lf) H' → Q b H') → WT X e σ H Q
def JTWX (X : Cx) (Γ : Slots) (T : Th) (e : Expr) (R : Bool → Th → Prop) : Prop := ∀ F σ L Lf H, SR F Γ σ → TR F T L → Own F (L ++ Lf) H → ∀ Q : Bool → Hp → Prop, (∀ b T' F' M' H', R b T' → Same F F' → TR F' T' M' → Own F' (M' ++ Lf) H' → Q b H') → WTW X e σ H Q
theorem jtx_of {k : Bool} {R : Bool → Th → Prop} (h : JT X Γ T e k) (hR : R k T) : JTX X Γ T e R := fun F σ L Lf H s t o Q q => h F σ L Lf H s t o Q fun F' M' H' e' t' o' => q k T F' M' H' hR e' t' o'
theorem JTWX.jt {R : Bool → Th → Prop} (h : JTWX X Γ T e R) : JTX X Γ T e R := fun F σ L Lf H s t o Q q => ⟨fun pins s' I => (h F σ L Lf H s t o Q q).run (eval e X.env) pins s' I⟩
theorem jtx_not {R : Bool → Th → Prop} (h : JTX X Γ T a fun b T' => R (!b) T') : JTX X Γ T (.UnaryOp .Not a pos) R := fun F σ L Lf H s t o Q q => wt_of (pt_not wt_pt) (h F σ L Lf H s t o _ fun b T1 F1 M1 H1 r e1 t1 o1 => q (!b) T1 F1 M1 H1 r e1 t1 o1)
theorem jwx_and1 {R : Bool → Th → Prop} (h : JTX X Γ T a R) : JTWX X Γ T (.BoolOp .And [a] pos) R := fun F σ L Lf H s t o Q q => wtw_of (pw_and1 wt_pt) (h F σ L Lf H s t o Q q)
theorem jwx_or1 {R : Bool → Th → Prop} (h : JTX X Γ T a R) : JTWX X Γ T (.BoolOp .Or [a] pos) R := fun F σ L Lf H s t o Q q => wtw_of (pw_or1 wt_pt) (h F σ L Lf H s t o Q q)
variable {restE : List Expr}
theorem jwx_and {R : Bool → Th → Prop} (ha : JTX X Γ T a fun k T1 => (k = false → R false T1) ∧ (k = true → JTWX X Γ T1 (.BoolOp .And (b :: restE) pos) R)) : JTWX X Γ T (.BoolOp .And (a :: b :: restE) pos) R := fun F σ L Lf H s t o Q q =>
  wtw_of (pw_and wt_pt wtw_pw) (ha F σ L Lf H s t o _ fun k T1 F1 M1 H1 r e1 t1 o1 => by
    cases k with
    | true => exact r.2 rfl F1 σ M1 Lf H1 (s.mono e1) t1 o1 _ fun b T2 F2 M2 H2 r2 e2 t2 o2 => q b T2 F2 M2 H2 r2 (e1.trans e2) t2 o2
    | false => exact q false T1 F1 M1 H1 (r.1 rfl) e1 t1 o1)
theorem jwx_or {R : Bool → Th → Prop} (ha : JTX X Γ T a fun k T1 => (k = true → R true T1) ∧ (k = false → JTWX X Γ T1 (.BoolOp .Or (b :: restE) pos) R)) : JTWX X Γ T (.BoolOp .Or (a :: b :: restE) pos) R := fun F σ L Lf H s t o Q q =>
  wtw_of (pw_or wt_pt wtw_pw) (ha F σ L Lf H s t o _ fun k T1 F1 M1 H1 r e1 t1 o1 => by
    cases k with
    | false => exact r.2 rfl F1 σ M1 Lf H1 (s.mono e1) t1 o1 _ fun b T2 F2 M2 H2 r2 e2 t2 o2 => q b T2 F2 M2 H2 r2 (e1.trans e2) t2 o2
    | true => exact q true T1 F1 M1 H1 (r.1 rfl) e1 t1 o1)
/-- a step's truth -/
theorem jtx_val {R : Bool → Th → Prop} (h : JX X W Γ T e (fun ρ T' => ∃ k, ρ = Dat k ∧ R k T') nox) (he : ∀ whole, isTrue e X.env whole = (do let v ← whole; standAt e.pos; holding [v] (truthy v)) := by exact true_plain rfl) : JTX X Γ T e R := fun F σ L Lf H s t o Q q =>
  wt_of (pt_val we_pe he) (h F σ L Lf H s t o _ (fun v H' ⟨ρ, T', F', L', ⟨k, h1, h2⟩, h3, h4, h5, h6⟩ => by subst h1; exact ⟨k, h4, q k T' F' L' H' h2 h3 h5 h6⟩) fun _ _ _ _ _ z => z.elim)
/-- a comparison whose left side is a step -/
theorem jtx_c {op : CmpOp} {r : R2} {R : Bool → Th → Prop} (ho : OpR X (compareOp op) r) (ha : JX X W Γ T a (fun ρ T' => ∃ β k, JE X Γ T' b β ∧ Op2 T' r ρ β (Dat k) ∧ R k T') nox) (hm : behindInMarks op b = false := by exact behind_no rfl) : JTX X Γ T (.Compare a [op] [b] pos) R := fun F σ L Lf H s t o Q q =>
  wt_of (pt_cmp (pc_op ho we_pe we_pe) hm) (ha F σ L Lf H s t o _ (fun u H1 ⟨ρ, T1, F1, M1, ⟨β, k, hb, hr, hR⟩, e1, r1, t1, o1⟩ => hb F1 σ M1 Lf H1 (s.mono e1) t1 o1 _ fun F2 M2 H2 y e2 t2 o2 r2 => hr F2 M2 Lf H2 u y _ t2 o2 (ρ.mono e2 r1) r2 fun F3 M3 H3 v e3 t3 o3 rv => ⟨k, rv, q k T1 F3 M3 H3 hR ((e1.trans e2).trans e3) t3 o3⟩) fun _ _ _ _ _ z => z.elim)
theorem js_ifX {A B : List Stmt} {R : Bool → Th → Prop} (hc : JTX X Γ T c R) (ha : ∀ T', R true T' → JSs X W Γ T' A { D with nx := fun Γ1 T1 => JSs X W Γ1 T1 rest D }) (hb : ∀ T', R false T' → JSs X W Γ T' B { D with nx := fun Γ1 T1 => JSs X W Γ1 T1 rest D }) :
    JSs X W Γ T (.If c A B pos :: rest) D := by
  refine js_cons (M := fun Γ' T' => JSs X W Γ' T' rest D) ?_ fun _ _ h => h
  intro F σ L Lf H s t o w
  refine ws_of (ps_if wt_pt wss_pss wss_pss) (hc F σ L Lf H s t o _ fun b T1 F1 M1 H1 r e1 t1 o1 => ?_)
  cases b with
  | true => exact wss_le (ends_le (Po.Le.refl _) e1) (ha T1 r F1 σ M1 Lf H1 (s.mono e1) t1 o1 (w.mono e1 fun _ _ q => q))
  | false => exact wss_le (ends_le (Po.Le.refl _) e1) (hb T1 r F1 σ M1 Lf H1 (s.mono e1) t1 o1 (w.mono e1 fun _ _ q => q))
/-- if c: A, where A does not go on; the rest otherwise -/
theorem js_ifrX {A : List Stmt} (hc : JTX X Γ T c fun b T' => (b = true → JSs X W Γ T' A { D with nx := fun _ _ => False }) ∧ (b = false → JSs X W Γ T' rest D)) : JSs X W Γ T (.If c A [] pos :: rest) D :=
  js_ifX hc (fun T' r => jss_le (r.1 rfl) ⟨fun _ _ z => z.elim, fun _ _ q => q, fun _ _ q => q, fun _ _ q => q, fun _ _ q => q⟩) fun T' r => js_nil (r.2 rfl)
end
end G

/-! GJ: own classes: instances, fields, methods; calls by promises with owned things. -/
namespace G
open PySem PySem.Spec PyProof.Rows L2
open Rp (rep)
/-! ### instances -/
/-- an instance whose fields hold these -/
def OIns (C : Addr) (fs : List (Str × VR)) : OV where
  rel := fun F p L => ∃ (dx : Addr) (vs : List V), VRs F (fs.map fun x : Str × VR => x.2) vs ∧ L = [(p, .ins C dx ((fs.map (·.1)).zip vs)), (dx, .own p)]
  mono := fun e ⟨dx, vs, h, q⟩ => ⟨dx, vs, VRs.mono e h, q⟩
/-- a field: a value, or an owned thing of the instance's own -/
inductive FV where
  | v (ρ : VR)
  | o (u : OV)
inductive FRs (F : Hp) : List (Str × FV) → List V → List Cell → Prop
  | nil : FRs F [] [] []
  | v {n ρ fs x vs L} : ρ.rel F x → FRs F fs vs L → FRs F ((n, .v ρ) :: fs) (x :: vs) L
  | o {n u fs q vs L1 L} : u.rel F q L1 → FRs F fs vs L → FRs F ((n, .o u) :: fs) (.ref q :: vs) (L1 ++ L)
theorem FRs.mono {F F' : Hp} (e : Same F F') {fs : List (Str × FV)} {vs : List V} {L : List Cell} (h : FRs F fs vs L) : FRs F' fs vs L := by
  induction h with
  | nil => exact .nil
  | v h _ ih => exact .v (VR.mono _ e h) ih
  | o h _ ih => exact .o (OV.mono _ e h) ih
def OObj (C : Addr) (fs : List (Str × FV)) : OV := ⟨fun F p L => ∃ dx vs Ls, FRs F fs vs Ls ∧ L = (p, .ins C dx ((fs.map (·.1)).zip vs)) :: (dx, .own p) :: Ls, fun e ⟨dx, vs, Ls, h, q⟩ => ⟨dx, vs, Ls, h.mono e, q⟩⟩
def refs : List (Str × FV) → List Addr → List (Str × VR)
  | [], _ => []
  | (n, .v ρ) :: fs, qs => (n, ρ) :: refs fs qs
  | (n, .o _) :: fs, q :: qs => (n, Ref q) :: refs fs qs
  | (n, .o _) :: fs, [] => (n, Ref 0) :: refs fs []
def owned : List (Str × FV) → List Addr → Th
  | [], _ => []
  | (_, .v _) :: fs, qs => owned fs qs
  | (_, .o u) :: fs, q :: qs => (q, u) :: owned fs qs
  | (_, .o u) :: fs, [] => (0, u) :: owned fs []
def nOwn : List (Str × FV) → Nat
  | [] => 0
  | (_, .v _) :: fs => nOwn fs
  | (_, .o _) :: fs => nOwn fs + 1
theorem refs_names : ∀ (fs : List (Str × FV)) (qs : List Addr), (refs fs qs).map (·.1) = fs.map (·.1)
  | [], _ => rfl
  | (n, .v ρ) :: fs, qs => by simp [refs, refs_names fs qs]
  | (n, .o _) :: fs, q :: qs => by simp [refs, refs_names fs qs]
  | (n, .o _) :: fs, [] => by simp [refs, refs_names fs []]
theorem FRs.open_ {F : Hp} {fs : List (Str × FV)} {vs : List V} {L : List Cell} (h : FRs F fs vs L) : ∃ qs, qs.length = nOwn fs ∧ VRs F ((refs fs qs).map (·.2)) vs ∧ TR F (owned fs qs) L := by
  induction h with
  | nil => exact ⟨[], rfl, .nil, .nil⟩
  | v h _ ih => obtain ⟨qs, h1, h2, h3⟩ := ih; exact ⟨qs, h1, .cons h h2, h3⟩
  | @o n u fs q vs L1 L h _ ih => obtain ⟨qs, h1, h2, h3⟩ := ih; exact ⟨q :: qs, by simp [nOwn, h1], .cons rfl h2, .cons h h3⟩
theorem FRs.close {F : Hp} : ∀ {fs : List (Str × FV)} {qs : List Addr} {vs : List V} {L : List Cell}, qs.length = nOwn fs → VRs F ((refs fs qs).map (·.2)) vs → TR F (owned fs qs) L → FRs F fs vs L
  | [], _, _, _, _, h, t => by cases h; cases t; exact .nil
  | (n, .v ρ) :: fs, qs, _, _, hl, .cons h hs, t => .v h (FRs.close (fs := fs) hl hs t)
  | (n, .o u) :: fs, q :: qs, _, _, hl, .cons h hs, t => by
    cases t with
    | cons a t =>
      cases (show _ = V.ref q from h)
      exact .o a (FRs.close (fs := fs) (by simpa [nOwn] using hl) hs t)
  | (n, .o u) :: fs, [], _, _, hl, _, _ => by simp [nOwn] at hl
section
variable {X : Cx} {W : WX} {Γ Γ' : Slots} {T T' Tr : Th} {st : Stmt} {rest sts : List Stmt} {D D' : Po} {e o tg a b c : Expr} {es : List Expr} {pos apos : Pos} {ρ : VR} {R : VR → Th → Prop} {xr : Value → Th → Prop} {x f m : Str} {p C : Addr} {fs : List (Str × FV)} {gs : List (Str × VR)}
/-- an object laid open -/
theorem js_open (k : Nat) (hk : T[k]? = some (p, OObj C fs)) (h : ∀ qs, qs.length = nOwn fs → JSs X W Γ ((p, OIns C (refs fs qs)) :: (owned fs qs ++ T.eraseIdx k)) sts D) : JSs X W Γ T sts D := fun F σ L Lf H s t ow w => by
  obtain ⟨L', pm, t'⟩ := t.perm (perm_pick k hk)
  have ow' := ow.perm (pm.symm.append_right Lf)
  cases t' with
  | @cons _ _ _ L1 L2 a t2 =>
    obtain ⟨dx, vs, Ls, hf, rfl⟩ := a
    obtain ⟨qs, h1, h2, h3⟩ := hf.open_
    refine h qs h1 F σ ([(p, .ins C dx ((fs.map (·.1)).zip vs)), (dx, .own p)] ++ (Ls ++ L2)) Lf H s (.cons ⟨dx, vs, h2, by rw [refs_names]⟩ (h3.app t2)) ?_ w
    rw [← List.append_assoc]
    exact ow'
theorem TEnt.close {qs : List Addr} (hl : qs.length = nOwn fs) : TEnt ((p, OIns C (refs fs qs)) :: (owned fs qs ++ T)) ((p, OObj C fs) :: T) := fun F L t => by
  cases t with
  | cons a t =>
    obtain ⟨dx, vs, h2, rfl⟩ := a
    obtain ⟨L1, L2, rfl, t1, t2⟩ := t.split
    refine ⟨((p, .ins C dx ((fs.map (·.1)).zip vs)) :: (dx, .own p) :: L1) ++ L2, [], by rw [refs_names, List.append_nil]; exact .refl _, .cons ⟨dx, vs, L1, FRs.close hl h2 t1, rfl⟩ t2⟩
/-- T[k] is an instance of C that has no field m -/
def InsAt (T : Th) (p C : Addr) (m : Str) : Prop := ∀ F L Lf H, TR F T L → Own F (L ++ Lf) H → ∃ dx fs, H p = some (.ins C dx fs) ∧ fs.lookup m = none
theorem lookup_zip_none {m : Str} : ∀ {ns : List Str} {vs : List V}, ns.contains m = false → (ns.zip vs).lookup m = none
  | [], _, _ => rfl
  | _ :: _, [], _ => rfl
  | n :: ns, v :: vs, h => by
    rw [List.contains_cons, Bool.or_eq_false_iff] at h
    rw [List.zip_cons_cons, List.lookup_cons, h.1]
    exact lookup_zip_none h.2
theorem insAt_obj (k : Nat) (hk : T[k]? = some (p, OObj C fs)) {ns : List Str} (hn : fs.map (·.1) = ns) (hm : ns.contains m = false) : InsAt T p C m := fun F L Lf H t ow => by
  subst hn
  obtain ⟨Lk, Lr, ⟨dx, vs, Ls, hf, rfl⟩, o'⟩ := t.cell ow hk
  exact ⟨dx, _, o'.cel _ (List.mem_cons_self ..), lookup_zip_none hm⟩
theorem insAt_ins (k : Nat) (hk : T[k]? = some (p, OIns C gs)) {ns : List Str} (hn : gs.map (·.1) = ns) (hm : ns.contains m = false) : InsAt T p C m := fun F L Lf H t ow => by
  subst hn
  obtain ⟨Lk, Lr, ⟨dx, vs, hf, rfl⟩, o'⟩ := t.cell ow hk
  exact ⟨dx, _, o'.cel _ (List.mem_cons_self ..), lookup_zip_none hm⟩
theorem vrs_look {F : Hp} {f : Str} {ρ : VR} : ∀ {gs : List (Str × VR)} {vs : List V}, VRs F (gs.map (·.2)) vs → gs.lookup f = some ρ → ∃ v, ((gs.map (·.1)).zip vs).lookup f = some v ∧ ρ.rel F v
  | [], _, _, h => by simp at h
  | (n, r) :: gs, _, .cons hr hs, h => by
    rw [List.lookup_cons] at h
    rw [List.map_cons, List.zip_cons_cons, List.lookup_cons]
    cases q : (f == n) with
    | true => rw [q] at h; cases h; exact ⟨_, rfl, hr⟩
    | false => rw [q] at h; exact vrs_look hs h
theorem frs_look {F : Hp} {f : Str} {ρ : VR} {fs : List (Str × FV)} {vs : List V} {L : List Cell} (hf : FRs F fs vs L) : fs.lookup f = some (.v ρ) → ∃ v, ((fs.map (·.1)).zip vs).lookup f = some v ∧ ρ.rel F v := by
  induction hf with
  | nil => intro h; simp at h
  | @v n r fs x vs L hr _ ih =>
    intro h
    rw [List.lookup_cons] at h
    rw [List.map_cons, List.zip_cons_cons, List.lookup_cons]
    cases q : (f == n) with
    | true => rw [q] at h; cases h; exact ⟨_, rfl, hr⟩
    | false => rw [q] at h; exact ih h
  | @o n u fs q0 vs L1 L hr _ ih =>
    intro h
    rw [List.lookup_cons] at h
    rw [List.map_cons, List.zip_cons_cons, List.lookup_cons]
    cases q : (f == n) with
    | true => rw [q] at h; cases h
    | false => rw [q] at h; exact ih h
def noCall : Expr → Bool
  | .Call _ _ _ _ => false
  | _ => true
theorem base_of {o : Expr} {m : Str} {env : Env} {w : Sem Value} (h : noCall o = true) : attributeBase o m env w = w := by
  cases o <;> first | (cases h; done) | rfl
/-- o.f of an instance -/
theorem je_fld (k : Nat) (ho : JE X Γ T o (Ref p)) (hk : T[k]? = some (p, OIns C gs)) (hc : Cls X.K C) (hn : NoAttr X.K C f) (hf : gs.lookup f = some ρ) (hb : noCall o = true := by rfl) : JE X Γ T (.Attribute o f pos) ρ := fun F σ L Lf H s t ow Q q =>
  we_of (pe_fld we_pe (base_of hb)) (ho F σ L Lf H s t ow _ fun F1 M1 H1 v e1 t1 o1 r1 => by
    obtain ⟨Lk, Lr, ⟨dx, vs, h1, rfl⟩, o'⟩ := t1.cell o1 hk
    obtain ⟨u, h2, h3⟩ := vrs_look h1 hf
    exact ⟨p, C, dx, _, u, r1, o'.cel _ (List.mem_cons_self ..), hc, hn, h2, q F1 M1 H1 u e1 t1 o1 h3⟩)
theorem je_fldO (k : Nat) (ho : JE X Γ T o (Ref p)) (hk : T[k]? = some (p, OObj C fs)) (hc : Cls X.K C) (hn : NoAttr X.K C f) (hf : fs.lookup f = some (.v ρ)) (hb : noCall o = true := by rfl) : JE X Γ T (.Attribute o f pos) ρ := fun F σ L Lf H s t ow Q q =>
  we_of (pe_fld we_pe (base_of hb)) (ho F σ L Lf H s t ow _ fun F1 M1 H1 v e1 t1 o1 r1 => by
    obtain ⟨Lk, Lr, ⟨dx, vs, Ls, h1, rfl⟩, o'⟩ := t1.cell o1 hk
    obtain ⟨u, h2, h3⟩ := frs_look h1 hf
    exact ⟨p, C, dx, _, u, r1, o'.cel _ (List.mem_cons_self ..), hc, hn, h2, q F1 M1 H1 u e1 t1 o1 h3⟩)
/-- a field's new value -/
def putR (f : Str) (ρ : VR) : List (Str × VR) → List (Str × VR)
  | [] => [(f, ρ)]
  | (g, x) :: r => if g = f then (g, ρ) :: r else (g, x) :: putR f ρ r
theorem putF_put {F : Hp} {f : Str} {ρ : VR} {v : V} (hv : ρ.rel F v) : ∀ {gs : List (Str × VR)} {vs : List V}, VRs F (gs.map (·.2)) vs → ∃ vs', putF f v ((gs.map (·.1)).zip vs) = ((putR f ρ gs).map (·.1)).zip vs' ∧ VRs F ((putR f ρ gs).map (·.2)) vs'
  | [], _, .nil => ⟨[v], rfl, .cons hv .nil⟩
  | (n, r) :: gs, x :: vs, .cons hr hs => by
    rw [List.map_cons, List.zip_cons_cons]
    unfold putF putR
    by_cases q : n = f
    · rw [if_pos q, if_pos q]
      exact ⟨v :: vs, rfl, .cons hv hs⟩
    · rw [if_neg q, if_neg q]
      obtain ⟨vs', h1, h2⟩ := putF_put hv hs
      exact ⟨x :: vs', by rw [h1]; rfl, .cons hr h2⟩
/-- o.f = e, where e may be a step -/
theorem js_fld (k : Nat) {gs' : List (Str × VR)} {pos' : Pos} (he : JX X W Γ T e R xr) (hD : ∀ ρ T', R ρ T' → ∃ gs, JE X Γ T' o (Ref p) ∧ T'[k]? = some (p, OIns C gs) ∧ gs.length < 1000 ∧ JSs X W Γ (T'.set k (p, OIns C (putR f ρ gs))) rest D) (hE : ∀ c T', xr c T' → D.xr c T') (hc : Cls X.K C) (hn : NoAttr X.K C f)
    (hs : swapsWith e (some (.Attribute o f pos')) pos.line X.env = pure false := by exact swaps_no rfl) : JSs X W Γ T (.Assign [.Attribute o f pos'] e pos :: rest) D := by
  refine js_cons (M := fun Γ' T' => JSs X W Γ' T' rest D) ?_ fun _ _ h => h
  intro F σ L Lf H s t ow w
  refine ws_of (ps_fld we_pe we_pe hs) (he F σ L Lf H s t ow _ (fun v H' ⟨ρ, T', F', L', h1, h2, h3, h4, h5⟩ => ?_) fun c T' F' L' H' h1 h2 h3 h4 => w c T' F' L' σ H' (hE c T' h1) h2 h3 h4)
  obtain ⟨gs, ho, hk, hl, hJ⟩ := hD ρ T' h1
  refine ho F' σ L' Lf H' (s.mono h2) h4 h5 _ fun F1 M1 H1 u e1 t1 o1 r1 => ?_
  obtain ⟨Lk, Lr, ⟨dx, vs, hv, rfl⟩, o', nx⟩ := t1.upd o1 hk
  obtain ⟨vs', h6, h7⟩ := putF_put (f := f) (ρ.mono e1 h3) hv
  have hlen : ((gs.map (·.1)).zip vs).length < 1000 := by
    rw [List.length_zip, List.length_map]
    omega
  refine ⟨p, C, dx, _, r1, o'.cel _ (List.mem_cons_self ..), hc, hn, hlen, ?_⟩
  obtain ⟨L2, t2, o2⟩ := nx F1 [(p, .ins C dx (((putR f ρ gs).map (·.1)).zip vs')), (dx, .own p)] (OIns C (putR f ρ gs)) _ (Same.refl _) ⟨dx, vs', h7, rfl⟩ (by rw [← h6]; exact o'.put)
  exact ⟨Γ, _, F1, L2, hJ, h2.trans e1, (s.mono h2).mono e1, t2, o2⟩
/-! ### methods, new instances -/
theorem ht_of {o : Expr} {m : Str} {apos pos : Pos} {es : List Expr} {env : Env} (ho : noCall o = true) (hs : es.all noStar = true) (hl : es.length < 30) (hp : (apos.endLine == pos.line) = true) :
    eval (.Call (.Attribute o m apos) es [] pos) env = (do
      let ov ← eval o env
      standAt apos.atName
      let (f, first) ← holding [ov] (getMethod ov m (do return (← importBound o env).getD true))
      callWith pos f first (backTo pos (starEach es env)) (backToKw pos (keywordEach [] env))) := by
  have h1 : eval (.Call (.Attribute o m apos) es [] pos) env = (do
      let ov ← attributeBase o m env (eval o env)
      standAt apos.atName
      methodCall o m apos pos env ov (es.length + 0) (backTo pos (starEach es env)) (backToKw pos (keywordEach [] env))) := rfl
  rw [h1, base_of ho]
  have hf : methodCallForm (es.length + 0) (backTo pos (starEach es env)) (backToKw pos (keywordEach [] env)) = true := by
    unfold methodCallForm
    have h2 := backTo_any (pos := pos) (stars (env := env) hs)
    have h3 : (backTo pos (starEach es env)).all (fun x => !x.1) = true := by
      rw [List.all_eq_true]
      intro x hx
      rw [List.any_eq_false] at h2
      have := h2 x hx
      cases q : x.1 with
      | true => exact absurd q this
      | false => rfl
    rw [h3]
    show (true && (true && decide (es.length + 0 + 0 < 30))) = true
    rw [decide_eq_true (by omega)]
    rfl
  unfold methodCall
  rw [hf]
  unfold calleeOf methodCallPos
  simp only [if_true, Bool.not_true, Bool.false_or, hp]
  rfl
end
end G

/-! GK: promises with owned things; dicts. -/
namespace G
open PySem PySem.Spec PyProof.Rows L2
open Rp (rep)
/-- a def's promise by a mirror: owned things in and out -/
def mSpec {A R : Type} (vals : A → List VR) (owns : A → Th) (m : A → Option R) (res : A → R → VR → Th → Prop) : GSpec A := { ok := fun a => ∃ r, m a = some r, vals := vals, owns := owns, res := fun a ρ T => ∃ r, m a = some r ∧ res a r ρ T }
/-- a method's promise stands -/
def CalM (P : Program) (w : World) (K : PySem.W.Frag) (mg : Str → Option Value) (base : Heap) (k : Nat) (C : Addr) (m : Str) (ps : List Str) (sp : Sp) : Prop :=
  ∃ f fd, FnOk P w K mg base (L2N.CX P w) k f fd ps sp ∧ Meth K C m f ∧ Binds K fd ps [] ∧ Cls K C
/-- .. a class's __init__ -/
def CalI (P : Program) (w : World) (K : PySem.W.Frag) (mg : Str → Option Value) (base : Heap) (k : Nat) (x : Str) (C : Addr) (ps : List Str) (sp : Sp) : Prop :=
  ∃ f fd, FnOk P w K mg base (L2N.CX P w) k f fd ps sp ∧ Mk K C f ∧ mg x = some (.ref C) ∧ Binds K fd ps []
section
variable {P : Program} {w : World} {K : PySem.W.Frag} {mg : Str → Option Value} {base : Heap}
theorem fnM {x qual : Str} {st : Stmt} {f : Addr} {fd : FuncData} {N ps : List Str} {k : Nat} {A R : Type} (vals : A → List VR) (owns : A → Th) (m : A → Option R) (res : A → R → VR → Th → Prop) (F : FnD K x qual st f fd) (S : FnScope N ps (defScope st)) (hn : ∀ a, (vals a).length = ps.length)
    (body : ∀ (cdv : Value) (Ar : Around) (outer : List Env) (s : Shared) (H : Hp) (E : XK), Room k (Ar.deeper (envOfC qual (defScope st) s.heap.objs.size f cdv)) → ∀ a r, m a = some r →
      JSs (bodyX P w K mg base N qual st f cdv Ar outer s H E) (wOf E) (G0 N (vals a)) (owns a) (defBody st) { nx := fun _ T => res a r (Dat ()) T, rt := res a r }) : FnOk P w K mg base (L2N.CX P w) (k + 1) f fd ps (mSpec vals owns m res).sp :=
  fnG _ F S hn fun cdv Ar outer s H E hr a ⟨r, ha⟩ => jss_le (body cdv Ar outer s H E hr a r ha) ⟨fun _ T h => ⟨r, ha, h⟩, fun _ T h => ⟨r, ha, h⟩, fun _ _ h => h, fun _ _ h => h, fun _ _ h => h⟩
end
section
variable {X : Cx} {W : WX} {Γ Γ' : Slots} {T T' Tr : Th} {st : Stmt} {rest sts : List Stmt} {D D' : Po} {e o tg b c : Expr} {es : List Expr} {pos apos pn : Pos} {ρ : VR} {x f m : Str} {p C : Addr} {A R : Type} {vals : A → List VR} {owns : A → Th} {mi : A → Option R} {res : A → R → VR → Th → Prop} {n : Nat} {ps : List Str} {ρs : List VR}
theorem jx_callM (a : A) {r : R} (h : mi a = some r) (Ca : Cal X.prog X.w X.K X.mg X.base n x ps (mSpec vals owns mi res).sp) (hr : Room n X.A) (hg : Gl X x) (hA : JA X Γ T (e :: es) (vals a)) (hT : T.Perm (owns a ++ Tr)) (hdb : (x == ("__debug__" : Str)) = false := by decide) (he : starEach (e :: es) X.env = (false, eval e X.env) :: starEach es X.env := by exact star1 rfl) (hpl : (backTo pos (starEach es X.env)).any (·.1) = false := by exact backTo_any (stars rfl)) :
    JX X W Γ T (.Call (.Name x pn) (e :: es) [] pos) (fun ρ T' => ∃ To, res a r ρ To ∧ T' = To ++ Tr) nox := fun F σ L Lf H s t o Q q _ => by
  obtain ⟨f, fd, Fn, hm, hk, hb⟩ := Ca
  refine we_of (pe_call (E := E0) Fn hr hg hm hk hb .nil passN wa_pa hdb he hpl) (hA F σ L Lf H s t o _ fun F1 M1 H1 vs e1 t1 o1 hv => ?_)
  rw [List.append_nil]
  obtain ⟨N1, p1, t2⟩ := t1.perm hT
  exact sp_use (g := mSpec vals owns mi res) ⟨r, h⟩ hv t2 (o1.perm (p1.symm.append_right Lf)) (fun v H' ⟨ρ', T', F', L', ⟨To, ⟨r', h1, h1'⟩, h6⟩, h2, h3, h4, h5⟩ => by
    cases h.symm.trans h1
    exact q v H' ⟨ρ', T', F', L', ⟨To, h1', h6⟩, e1.trans h2, h3, h4, h5⟩) fun c To _ _ _ h => h.elim
theorem je_callM (a : A) {r : R} (h : mi a = some r) (Ca : Cal X.prog X.w X.K X.mg X.base n x ps (mSpec vals owns mi res).sp) (hr : Room n X.A) (hg : Gl X x) (hA : JA X Γ T (e :: es) (vals a)) (hT : T.Perm (owns a ++ Tr)) (hres : ∀ ρ' To, res a r ρ' To → ρ' = ρ ∧ To = owns a) (hdb : (x == ("__debug__" : Str)) = false := by decide) (he : starEach (e :: es) X.env = (false, eval e X.env) :: starEach es X.env := by exact star1 rfl) (hpl : (backTo pos (starEach es X.env)).any (·.1) = false := by exact backTo_any (stars rfl)) :
    JE X Γ T (.Call (.Name x pn) (e :: es) [] pos) ρ := by
  obtain ⟨f, fd, Fn, hm, hk, hb⟩ := Ca
  exact je_call (g := mSpec vals owns mi res) Fn hr hg hm hk hb a ⟨r, h⟩ hA hT (fun ρ' To ⟨r', h1, h2⟩ => by cases h.symm.trans h1; exact hres _ _ h2) (fun _ _ z => z) hdb he hpl
theorem jx_methM (a : A) {r : R} (h : mi a = some r) (Ca : CalM X.prog X.w X.K X.mg X.base n C m ps (mSpec vals owns mi res).sp) (hr : Room n X.A) (ho : JE X Γ T o (Ref p)) (hI : InsAt T p C m) (hA : JA X Γ T (e :: es) ρs) (hv : vals a = Ref p :: ρs) (hT : T.Perm (owns a ++ Tr))
    (hc : noCall o = true := by rfl) (hs : (e :: es).all noStar = true := by rfl) (hl : (e :: es).length < 30 := by decide) (hp : (apos.endLine == pos.line) = true := by rfl) :
    JX X W Γ T (.Call (.Attribute o m apos) (e :: es) [] pos) (fun ρ T' => ∃ To, res a r ρ To ∧ T' = To ++ Tr) nox := fun F σ L Lf H s t ow Q q _ => by
  obtain ⟨f, fd, Fn, hm, hb, hcl⟩ := Ca
  have hs' : noStar e = true ∧ es.all noStar = true := by rw [List.all_cons, Bool.and_eq_true] at hs; exact hs
  refine we_of (pe_meth (E := E0) we_pe hcl hm Fn hr hb .nil passN wa_pa (star1 hs'.1) (backTo_any (stars hs'.2)) (ht_of hc hs hl hp)) (ho F σ L Lf H s t ow _ fun F1 M1 H1 v e1 t1 o1 r1 => ?_)
  obtain ⟨dx, fs, h1, h2⟩ := hI F1 M1 Lf H1 t1 o1
  refine ⟨p, dx, fs, r1, h1, h2, hA F1 σ M1 Lf H1 (s.mono e1) t1 o1 _ fun F2 M2 H2 vs e2 t2 o2 rs => ?_⟩
  rw [List.append_nil]
  obtain ⟨N1, p1, t3⟩ := t2.perm hT
  exact sp_use (g := mSpec vals owns mi res) ⟨r, h⟩ (by show VRs F2 (vals a) _; rw [hv]; exact .cons r1 rs) t3 (o2.perm (p1.symm.append_right Lf)) (fun v H' ⟨ρ', T', F', L', ⟨To, ⟨r', h1, h1'⟩, h6⟩, h2, h3, h4, h5⟩ => by
    cases h.symm.trans h1
    exact q v H' ⟨ρ', T', F', L', ⟨To, h1', h6⟩, (e1.trans e2).trans h2, h3, h4, h5⟩) fun c To _ _ _ h => h.elim
theorem jx_meth0 (a : A) {r : R} (h : mi a = some r) (Ca : CalM X.prog X.w X.K X.mg X.base n C m ps (mSpec vals owns mi res).sp) (hr : Room n X.A) (ho : JE X Γ T o (Ref p)) (hI : InsAt T p C m) (hv : vals a = [Ref p]) (hT : T.Perm (owns a ++ Tr))
    (hc : noCall o = true := by rfl) (hp : (apos.endLine == pos.line) = true := by rfl) :
    JX X W Γ T (.Call (.Attribute o m apos) [] [] pos) (fun ρ T' => ∃ To, res a r ρ To ∧ T' = To ++ Tr) nox := fun F σ L Lf H s t ow Q q _ => by
  obtain ⟨f, fd, Fn, hm, hb, hcl⟩ := Ca
  refine we_of (pe_meth0 (E := E0) we_pe hcl hm Fn hr hb .nil passN (ht_of hc rfl (by decide) hp)) (ho F σ L Lf H s t ow _ fun F1 M1 H1 v e1 t1 o1 r1 => ?_)
  obtain ⟨dx, fs, h1, h2⟩ := hI F1 M1 Lf H1 t1 o1
  refine ⟨p, dx, fs, r1, h1, h2, ?_⟩
  show (mSpec vals owns mi res).sp (v :: ([] ++ [])) H1 Q E0
  obtain ⟨N1, p1, t3⟩ := t1.perm hT
  exact sp_use (g := mSpec vals owns mi res) ⟨r, h⟩ (by show VRs F1 (vals a) _; rw [hv]; exact .cons r1 .nil) t3 (o1.perm (p1.symm.append_right Lf)) (fun v H' ⟨ρ', T', F', L', ⟨To, ⟨r', h1, h1'⟩, h6⟩, h2, h3, h4, h5⟩ => by
    cases h.symm.trans h1
    exact q v H' ⟨ρ', T', F', L', ⟨To, h1', h6⟩, e1.trans h2, h3, h4, h5⟩) fun c To _ _ _ h => h.elim
/-- a step that gives back what is owned as it was -/
theorem je_jx {R : VR → Th → Prop} (h : JX X (fun _ _ _ _ => True) Γ T e R nox) (hR : ∀ ρ' T', R ρ' T' → ρ' = ρ ∧ T'.Perm T) : JE X Γ T e ρ := fun F σ L Lf H s t o Q q =>
  h F σ L Lf H s t o Q (fun v H' ⟨ρ', T', F', L', h1, h2, h3, h4, h5⟩ => by
    obtain ⟨rfl, hp⟩ := hR _ _ h1
    obtain ⟨N2, p2, t3⟩ := h4.perm hp
    exact q F' N2 H' v h2 t3 (h5.perm (p2.symm.append_right Lf)) h3) fun _ _ _ _ _ z => z.elim
theorem je_methM (a : A) {r : R} (h : mi a = some r) (Ca : CalM X.prog X.w X.K X.mg X.base n C m ps (mSpec vals owns mi res).sp) (hr : Room n X.A) (ho : JE X Γ T o (Ref p)) (hI : InsAt T p C m) (hA : JA X Γ T (e :: es) ρs) (hv : vals a = Ref p :: ρs) (hT : T.Perm (owns a ++ Tr)) (hres : ∀ ρ' To, res a r ρ' To → ρ' = ρ ∧ To = owns a)
    (hc : noCall o = true := by rfl) (hs : (e :: es).all noStar = true := by rfl) (hl : (e :: es).length < 30 := by decide) (hp : (apos.endLine == pos.line) = true := by rfl) :
    JE X Γ T (.Call (.Attribute o m apos) (e :: es) [] pos) ρ := je_jx (jx_methM a h Ca hr ho hI hA hv hT hc hs hl hp) fun ρ' T' ⟨To, h1, h2⟩ => by
  obtain ⟨rfl, rfl⟩ := hres _ _ h1
  exact ⟨rfl, h2 ▸ hT.symm⟩
theorem je_meth0 (a : A) {r : R} (h : mi a = some r) (Ca : CalM X.prog X.w X.K X.mg X.base n C m ps (mSpec vals owns mi res).sp) (hr : Room n X.A) (ho : JE X Γ T o (Ref p)) (hI : InsAt T p C m) (hv : vals a = [Ref p]) (hT : T.Perm (owns a ++ Tr)) (hres : ∀ ρ' To, res a r ρ' To → ρ' = ρ ∧ To = owns a)
    (hc : noCall o = true := by rfl) (hp : (apos.endLine == pos.line) = true := by rfl) :
    JE X Γ T (.Call (.Attribute o m apos) [] [] pos) ρ := je_jx (jx_meth0 a h Ca hr ho hI hv hT hc hp) fun ρ' T' ⟨To, h1, h2⟩ => by
  obtain ⟨rfl, rfl⟩ := hres _ _ h1
  exact ⟨rfl, h2 ▸ hT.symm⟩
/-- a new instance -/
theorem jx_make {T0 : Th} (a : Addr → A) {r : R} (h : ∀ p, mi (a p) = some r) (Ca : CalI X.prog X.w X.K X.mg X.base n x C ps (mSpec vals owns mi res).sp) (hr : Room (n + 1) X.A) (hg : Gl X x) (hA : JA X Γ T (e :: es) ρs) (hv : ∀ p, vals (a p) = Ref p :: ρs) (hw : ∀ p, owns (a p) = (p, OIns C []) :: T0) (hT : T.Perm (T0 ++ Tr)) (hn : ∀ p ρ To, res (a p) r ρ To → ρ = Dat ())
    (hdb : (x == ("__debug__" : Str)) = false := by decide) (he : starEach (e :: es) X.env = (false, eval e X.env) :: starEach es X.env := by exact star1 rfl) (hpl : (backTo pos (starEach es X.env)).any (·.1) = false := by exact backTo_any (stars rfl)) :
    JX X W Γ T (.Call (.Name x pn) (e :: es) [] pos) (fun ρ T' => ∃ p To, res (a p) r (Dat ()) To ∧ ρ = Ref p ∧ T' = To ++ Tr) nox := fun F σ L Lf H s t o Q q _ => by
  obtain ⟨f, fd, Fn, hm, hg', hb⟩ := Ca
  refine we_of (pe_make (E := E0) hm Fn hr hg hg' hb .nil passN wa_pa hdb he hpl) (hA F σ L Lf H s t o _ fun F1 M1 H1 vs e1 t1 o1 hvs => ?_)
  intro xa dx hx hdx ne
  rw [List.append_nil]
  obtain ⟨N1, p1, t2⟩ := t1.perm hT
  have o2 := (o1.born (o := .own xa) hdx).born (p := xa) (o := .ins C dx []) (by rw [upd_ne (Ne.symm ne)]; exact hx)
  have o3 : Own F1 (([(xa, HO.ins C dx []), (dx, HO.own xa)] ++ N1) ++ Lf) _ := o2.perm (by
    rw [List.append_assoc]
    exact ((p1.symm.append_right Lf).cons _).cons _)
  exact sp_use (g := mSpec vals owns mi res) (a := a xa) (Tr := Tr) ⟨r, h xa⟩ (by show VRs F1 (vals (a xa)) _; rw [hv]; exact .cons rfl hvs) (by
    show TR F1 (owns (a xa) ++ Tr) _
    rw [hw]
    exact .cons (L1 := [(xa, HO.ins C dx []), (dx, HO.own xa)]) ⟨dx, [], .nil, rfl⟩ t2) o3 (fun v H' ⟨ρ', T', F', L', ⟨To, ⟨r', h1, h1'⟩, h6⟩, h2, h3, h4, h5⟩ => by
    cases (h xa).symm.trans h1
    cases hn _ _ _ h1'
    exact ⟨h3, q (.ref xa) H' ⟨Ref xa, T', F', L', ⟨xa, To, h1', rfl, h6⟩, e1.trans h2, rfl, h4, h5⟩⟩) fun c To _ _ _ h => h.elim
end
/-! ### dicts -/
theorem valV_inj {κ κ' : Type} [DecidableEq κ] [DecidableEq κ'] (g : κ → κ') (hg : ∀ a b, g a = g b → a = b) (k : κ) : ∀ ws : List (κ × V), valV (ws.map fun w => (g w.1, w.2)) (g k) = valV ws k
  | [] => rfl
  | w :: ws => by
    rw [List.map_cons]
    by_cases h : w.1 = k
    · rw [valV_pos (show (g w.1, w.2).1 = g k by rw [h]), valV_pos h]
    · rw [valV_neg (show ¬ (g w.1, w.2).1 = g k from fun q => h (hg _ _ q)), valV_neg h]
      exact valV_inj g hg k ws
theorem putK_inj {κ κ' : Type} [DecidableEq κ] [DecidableEq κ'] (g : κ → κ') (hg : ∀ a b, g a = g b → a = b) (k : κ) (v : V) (ws : List (κ × V)) : putK (ws.map fun w => (g w.1, w.2)) (g k) v = (putK ws k v).map fun w => (g w.1, w.2) := by
  unfold putK
  have e : ((ws.map fun w => (g w.1, w.2)).any fun kv => decide (kv.1 = g k)) = ws.any fun kv => decide (kv.1 = k) := by
    rw [List.any_map]
    congr 1
    funext w
    by_cases h : w.1 = k
    · simp [h]
    · have : ¬ g w.1 = g k := fun q => h (hg _ _ q)
      simp [h, this]
  rw [e]
  split
  · rw [List.map_map, List.map_map]
    refine List.map_congr_left fun w _ => ?_
    by_cases h : w.1 = k
    · simp [h]
    · have : ¬ g w.1 = g k := fun q => h (hg _ _ q)
      simp [h, this]
  · rw [List.map_append]
    rfl
/-- what may be a dict's key -/
class DKey (κ : Type) [Rp κ] [DecidableEq κ] where
  ho : List (κ × V) → HO
  nt : ∀ ws, isTup (ho ws) = false
  mu : ∀ ws, Mut (some (ho ws))
  get : ∀ {F H : Hp} {p : Addr} {v : V} {k : κ} {ws : List (κ × V)}, Same F H → rep F v k → Rd H p (ho ws) → DGet H p v (valV ws k)
  put : ∀ {F H : Hp} {p : Addr} {v y : V} {k : κ} {ws : List (κ × V)}, Same F H → rep F v k → H p = some (ho ws) → ws.length < sizeLine → DPut H p v y (upd H p (ho (putK ws k y)))
  isD : ∀ {H : Hp} {p : Addr} {ws : List (κ × V)}, Rd H p (ho ws) → IsD H p
  new : ∀ {X : Cx} {pos : Pos}, PE X (.Dict [] [] pos) fun _ H Q => ∀ p, H p = none → Q (.ref p) (upd H p (ho []))
  len : ∀ {X : Cx}, CallR X (.builtin "len") fun xs H Q => ∃ (p : Addr) (ws : List (κ × V)), xs = [.ref p] ∧ H p = some (ho ws) ∧ Q (.int ((ws.length : Nat) : Int)) H
  it : Addr → Obj → List (κ × V) → It
  go : ∀ {d : Addr} {o : Obj} {ws : List (κ × V)} {i : Nat} {H : Hp}, H d = some (.frz o (ho ws)) → i < ws.length → (it d o ws).go i H
  stop : ∀ {d : Addr} {o : Obj} {ws : List (κ × V)} {i : Nat} {H : Hp}, H d = some (.frz o (ho ws)) → ws.length ≤ i → (it d o ws).stop i H
  yld : ∀ {d : Addr} {o : Obj} {ws : List (κ × V)} {i : Nat} {H H' : Hp} {x : V} {F : Hp} {L : List Cell}, (it d o ws).yld i H x H' → Own F L H → ∃ F' w, ws[i]? = some w ∧ Same F F' ∧ Own F' L H' ∧ rep F' x w.1
  pick : ∀ {d : Addr} {o : Obj} {ws : List (κ × V)} {H : Hp} {R : It → Hp → Prop}, H d = some (.frz o (ho ws)) → R (it d o ws) H → (∃ kvs, H d = some (.frz o (.dK kvs)) ∧ R (Itk d o kvs) H) ∨ ∃ kvs, H d = some (.frz o (.dT kvs)) ∧ R (Itkt d o kvs) H
class SKey (κ : Type) [Sca κ] where
  key : κ → Key
  inj : ∀ a b, key a = key b → a = b
  val : ∀ a, kV (key a) = Sca.val a
instance : SKey Int := ⟨Sum.inl, fun _ _ h => Sum.inl.inj h, fun _ => rfl⟩
instance : SKey Str := ⟨Sum.inr, fun _ _ h => Sum.inr.inj h, fun _ => rfl⟩
theorem callR_le {X : Cx} {f : Value} {r r' : List V → Hp → VK → Prop} (h : CallR X f r) (le : ∀ xs H Q, r' xs H Q → r xs H Q) : CallR X f r' := fun pins s σ H xs us Q I rs q => h pins s σ H xs us Q I rs (le _ _ _ q)
instance {κ : Type} [Sca κ] [SKey κ] [DecidableEq κ] : DKey κ where
  ho ws := .dK (ws.map fun w => (SKey.key w.1, w.2))
  nt _ := rfl
  mu _ := True.intro
  get := fun {F H p v k ws} e r h => by
    obtain rfl := (Sca.ok _ _ _).mp r
    rw [← SKey.val, ← valV_inj SKey.key SKey.inj]
    exact .inl ⟨_, _, h, rfl, rfl⟩
  put := fun {F H p v y k ws} e r h hl => by
    obtain rfl := (Sca.ok _ _ _).mp r
    rw [← SKey.val, ← putK_inj SKey.key SKey.inj]
    exact DPut.k h (by rw [List.length_map]; exact hl)
  isD := fun h => .inl ⟨_, h⟩
  new := pe_dnewK
  len := callR_le call_lenD fun xs H Q ⟨p, ws, h1, h2, h3⟩ => ⟨p, _, h1, h2, by rw [List.length_map]; exact h3⟩
  it d o ws := Itk d o (ws.map fun w => (SKey.key w.1, w.2))
  go h hi := ⟨h, by rw [List.length_map]; exact hi⟩
  stop h hi := ⟨h, by rw [List.length_map]; exact hi⟩
  yld := fun {d o ws i H H' x F L} h ow => by
    obtain ⟨rfl, k, v, h1, rfl⟩ := h
    rw [List.getElem?_map] at h1
    cases hw : ws[i]? with
    | none => rw [hw] at h1; cases h1
    | some w =>
      rw [hw] at h1
      cases h1
      exact ⟨F, w, rfl, Same.refl F, ow, (Sca.ok _ _ _).mpr (SKey.val _)⟩
  pick h q := .inl ⟨_, h, q⟩
instance {κ κ' : Type} [Sca κ] [SKey κ] [DecidableEq κ] [Sca κ'] [SKey κ'] [DecidableEq κ'] : DKey (κ × κ') where
  ho ws := .dT (ws.map fun w => ([SKey.key w.1.1, SKey.key w.1.2], w.2))
  nt _ := rfl
  mu _ := True.intro
  get := fun {F H p v k ws} e ⟨q, x, y, h1, h2, h3, h4⟩ h => by
    subst h1
    obtain rfl := (Sca.ok _ _ _).mp h3
    obtain rfl := (Sca.ok _ _ _).mp h4
    have h5 : H q = some (.tup ([SKey.key k.1, SKey.key k.2].map kV)) := by
      rw [e _ _ h2]
      show _ = some (HO.tup [kV (SKey.key k.1), kV (SKey.key k.2)])
      rw [SKey.val, SKey.val]
    rw [← valV_inj (fun k : κ × κ' => [SKey.key k.1, SKey.key k.2]) (fun a b h => by
      have h' := List.cons.inj h
      exact Prod.ext (SKey.inj _ _ h'.1) (SKey.inj _ _ (List.cons.inj h'.2).1))]
    exact .inr ⟨_, _, q, h, rfl, h5, rfl⟩
  put := fun {F H p v y k ws} e ⟨q, x, z, h1, h2, h3, h4⟩ h hl => by
    subst h1
    obtain rfl := (Sca.ok _ _ _).mp h3
    obtain rfl := (Sca.ok _ _ _).mp h4
    have h5 : H q = some (.tup ([SKey.key k.1, SKey.key k.2].map kV)) := by
      rw [e _ _ h2]
      show _ = some (HO.tup [kV (SKey.key k.1), kV (SKey.key k.2)])
      rw [SKey.val, SKey.val]
    rw [← putK_inj (fun k : κ × κ' => [SKey.key k.1, SKey.key k.2]) (fun a b h => by
      have h' := List.cons.inj h
      exact Prod.ext (SKey.inj _ _ h'.1) (SKey.inj _ _ (List.cons.inj h'.2).1))]
    exact DPut.t h h5 (by rw [List.length_map]; exact hl)
  isD := fun h => .inr ⟨_, h⟩
  new := pe_dnewT
  len := callR_le call_len_dT fun xs H Q ⟨p, ws, h1, h2, h3⟩ => ⟨p, _, h1, h2, by rw [List.length_map]; exact h3⟩
  it d o ws := Itkt d o (ws.map fun w => ([SKey.key w.1.1, SKey.key w.1.2], w.2))
  go h hi := ⟨h, by rw [List.length_map]; exact hi⟩
  stop h hi := ⟨h, by rw [List.length_map]; exact hi⟩
  yld := fun {d o ws i H H' x F L} h ow => by
    obtain ⟨rfl, k, v, q, h1, rfl, h2⟩ := h
    rw [List.getElem?_map] at h1
    cases hw : ws[i]? with
    | none => rw [hw] at h1; cases h1
    | some w =>
      rw [hw] at h1
      cases h1
      obtain ⟨F', a1, a2, a3⟩ := ow.adopt h2
      exact ⟨F', w, rfl, a1, a2, q, kV (SKey.key w.1.1), kV (SKey.key w.1.2), rfl, a3, (Sca.ok _ _ _).mpr (SKey.val _), (Sca.ok _ _ _).mpr (SKey.val _)⟩
  pick h q := .inr ⟨_, h, q⟩
end G

/-! GL: owned dicts read and changed; texts walked; globals; tuples of owned things; the head's facts. -/
namespace G
open PySem PySem.Spec PyProof.Rows L2
open Rp (rep)
/-! ### dicts as lists of pairs -/
section
variable {κ A : Type} [DecidableEq κ]
def dget (d : List (κ × A)) (k : κ) : Option A := (d.find? fun kv => decide (kv.1 = k)).map (·.2)
def dput (d : List (κ × A)) (k : κ) (a : A) : List (κ × A) := if (d.any fun kv => decide (kv.1 = k)) = true then d.map (fun kv => if kv.1 = k then (kv.1, a) else kv) else d ++ [(k, a)]
def dputO (d : List (κ × A)) (k : κ) (a : A) : Option (List (κ × A)) := when (d.length < sizeLine) (dput d k a)
end
abbrev DR {κ A : Type} [Rp A] (F : Hp) (w : κ × V) (kv : κ × A) : Prop := w.1 = kv.1 ∧ rep F w.2 kv.2
/-- an owned dict -/
def OD {κ A : Type} [Rp κ] [DecidableEq κ] [DKey κ] [Rp A] (d : List (κ × A)) : OV where
  rel := fun F p L => ∃ ws : List (κ × V), Paired (DR F) ws d ∧ L = [(p, DKey.ho ws)]
  mono := fun e ⟨ws, h, q⟩ => ⟨ws, Paired.mono (fun _ _ z => ⟨z.1, Rp.mono e z.2⟩) h, q⟩
section
variable {κ A : Type} [Rp κ] [DecidableEq κ] [DKey κ] [Rp A]
theorem dr_get {F : Hp} {k : κ} : ∀ {ws : List (κ × V)} {d : List (κ × A)}, Paired (DR F) ws d → match dget d k with | some a => ∃ v, valV ws k = some v ∧ rep F v a | none => valV ws k = none
  | _, _, .nil => rfl
  | w :: ws, kv :: d, .cons h t => by
    have ih := dr_get (k := k) t
    by_cases q : kv.1 = k
    · have e1 : dget (kv :: d) k = some kv.2 := by simp [dget, q]
      rw [e1]
      exact ⟨w.2, valV_pos (h.1.trans q), h.2⟩
    · have e1 : dget (kv :: d) k = dget d k := by simp [dget, q]
      rw [e1, valV_neg (fun z => q (h.1.symm.trans z))]
      exact ih
theorem dr_any {F : Hp} {k : κ} : ∀ {ws : List (κ × V)} {d : List (κ × A)}, Paired (DR F) ws d → (ws.any fun kv => decide (kv.1 = k)) = d.any fun kv => decide (kv.1 = k)
  | _, _, .nil => rfl
  | w :: ws, kv :: d, .cons h t => by rw [List.any_cons, List.any_cons, dr_any t, h.1]
theorem dr_set {F : Hp} {k : κ} {v : V} {a : A} (hv : rep F v a) : ∀ {ws : List (κ × V)} {d : List (κ × A)}, Paired (DR F) ws d → Paired (DR F) (ws.map fun kv => if kv.1 = k then (kv.1, v) else kv) (d.map fun kv => if kv.1 = k then (kv.1, a) else kv)
  | _, _, .nil => .nil
  | w :: ws, kv :: d, .cons h t => by
    refine .cons ?_ (dr_set hv t)
    dsimp only
    by_cases q : kv.1 = k
    · rw [if_pos q, if_pos (h.1.trans q)]; exact ⟨h.1, hv⟩
    · rw [if_neg q, if_neg (fun z => q (h.1.symm.trans z))]; exact h
theorem dr_put {F : Hp} {k : κ} {v : V} {a : A} (hv : rep F v a) {ws : List (κ × V)} {d : List (κ × A)} (h : Paired (DR F) ws d) : Paired (DR F) (putK ws k v) (dput d k a) := by
  unfold putK dput
  rw [dr_any h]
  split
  · exact dr_set hv h
  · exact Paired.append h (.cons ⟨rfl, hv⟩ .nil)
variable {X : Cx} {W : WX} {Γ Γ' : Slots} {T T' Tr : Th} {st : Stmt} {rest sts : List Stmt} {D D' : Po} {e o i tg b c : Expr} {es : List Expr} {pos pos' apos pn : Pos} {ρ : VR} {R : VR → Th → Prop} {xr : Value → Th → Prop} {x f m : Str} {p C : Addr} {d : List (κ × A)} {k : κ} {a : A}
theorem hu1 {A : Around} (h : A.units + 64 < cLine) : A.units + 1 < cLine := Nat.lt_of_le_of_lt (Nat.add_le_add_left (by decide) _) h
theorem nosl_of (h : PlainIx i) : NoSl i := h
theorem je_dget (n : Nat) (h : dget d k = some a) (hu : X.A.units + 64 < cLine) (ho : JE X Γ T o (Ref p)) (hn : T[n]? = some (p, OD d)) (hi : JE X Γ T i (Dat k)) (hs : PlainIx i := by exact fun _ _ => rfl) : JE X Γ T (.Subscript o i pos) (Dat a) := fun F σ L Lf H s t ow Q q =>
  we_of (pe_dget (hu1 hu) we_pe we_pe hs) (ho F σ L Lf H s t ow _ fun F1 M1 H1 u e1 t1 o1 r1 => hi F1 σ M1 Lf H1 (s.mono e1) t1 o1 _ fun F2 M2 H2 y e2 t2 o2 r2 => by
    obtain ⟨Lk, Lr, ⟨ws, h1, rfl⟩, o'⟩ := t2.cell o2 hn
    have h2 := dr_get (k := k) h1
    rw [h] at h2
    obtain ⟨v, h3, h4⟩ := h2
    refine ⟨p, v, r1, ?_, q F2 M2 H2 v (e1.trans e2) t2 o2 h4⟩
    rw [← h3]
    exact DKey.get o2.sub r2 (.inl (o'.cel _ (List.mem_cons_self ..))))
theorem jc_din (n : Nat) (hu : X.A.units + 64 < cLine) (hi : JE X Γ T i (Dat k)) (ho : JE X Γ T o (Ref p)) (hn : T[n]? = some (p, OD d)) : JC X Γ T .In i o (Dat (dget d k).isSome) := fun F σ L Lf H s t ow Q q =>
  ⟨_, pc_din (hu1 hu) we_pe we_pe, hi F σ L Lf H s t ow _ fun F1 M1 H1 y e1 t1 o1 r1 => ho F1 σ M1 Lf H1 (s.mono e1) t1 o1 _ fun F2 M2 H2 u e2 t2 o2 r2 => by
    obtain ⟨Lk, Lr, ⟨ws, h1, rfl⟩, o'⟩ := t2.cell o2 hn
    refine ⟨p, valV ws k, r2, DKey.get o2.sub (Rp.mono e2 r1) (.inl (o'.cel _ (List.mem_cons_self ..))), q F2 M2 H2 _ (e1.trans e2) t2 o2 ?_⟩
    have h2 := dr_get (k := k) h1
    cases h : dget d k with
    | some a => rw [h] at h2; obtain ⟨v, h3, _⟩ := h2; rw [h3]; rfl
    | none => rw [h] at h2; rw [show valV ws k = none from h2]; rfl⟩
theorem jc_dni (n : Nat) (hu : X.A.units + 64 < cLine) (hi : JE X Γ T i (Dat k)) (ho : JE X Γ T o (Ref p)) (hn : T[n]? = some (p, OD d)) : JC X Γ T .NotIn i o (Dat (!(dget d k).isSome)) := fun F σ L Lf H s t ow Q q =>
  ⟨_, pc_dnotin (hu1 hu) we_pe we_pe, hi F σ L Lf H s t ow _ fun F1 M1 H1 y e1 t1 o1 r1 => ho F1 σ M1 Lf H1 (s.mono e1) t1 o1 _ fun F2 M2 H2 u e2 t2 o2 r2 => by
    obtain ⟨Lk, Lr, ⟨ws, h1, rfl⟩, o'⟩ := t2.cell o2 hn
    refine ⟨p, valV ws k, r2, DKey.get o2.sub (Rp.mono e2 r1) (.inl (o'.cel _ (List.mem_cons_self ..))), q F2 M2 H2 _ (e1.trans e2) t2 o2 ?_⟩
    have h2 := dr_get (k := k) h1
    cases h : dget d k with
    | some a => rw [h] at h2; obtain ⟨v, h3, _⟩ := h2; rw [h3]; rfl
    | none => rw [h] at h2; rw [show valV ws k = none from h2]; rfl⟩
/-- o[i] = e, where e may be a step -/
theorem js_dput (n : Nat) (hu : X.A.units + 64 < cLine) (he : JX X W Γ T e R xr) (hD : ∀ ρ T', R ρ T' → ∃ (p : Addr) (d d' : List (κ × A)) (k : κ) (a : A), ρ = Dat a ∧ JE X Γ T' o (Ref p) ∧ JE X Γ T' i (Dat k) ∧ T'[n]? = some (p, OD d) ∧ dputO d k a = some d' ∧ JSs X W Γ (T'.set n (p, OD d')) rest D) (hE : ∀ c T', xr c T' → D.xr c T')
    (hs : swapsWith e (some (.Subscript o i pos')) pos.line X.env = pure false := by exact swaps_no rfl) : JSs X W Γ T (.Assign [.Subscript o i pos'] e pos :: rest) D := by
  refine js_cons (M := fun Γ' T' => JSs X W Γ' T' rest D) ?_ fun _ _ h => h
  intro F σ L Lf H s t ow w
  refine ws_of (ps_dput (hu1 hu) we_pe we_pe we_pe hs) (he F σ L Lf H s t ow _ (fun v H' ⟨ρ, T', F', L', h1, h2, h3, h4, h5⟩ => ?_) fun c T' F' L' H' h1 h2 h3 h4 => w c T' F' L' σ H' (hE c T' h1) h2 h3 h4)
  obtain ⟨p, d, d', k, a, rfl, ho, hi, hn, hd, hJ⟩ := hD ρ T' h1
  obtain ⟨hl, rfl⟩ := of_when hd
  refine ho F' σ L' Lf H' (s.mono h2) h4 h5 _ fun F1 M1 H1 u e1 t1 o1 r1 => hi F1 σ M1 Lf H1 ((s.mono h2).mono e1) t1 o1 _ fun F2 M2 H2 y e2 t2 o2 r2 => ?_
  obtain ⟨Lk, Lr, ⟨ws, hw, rfl⟩, o', nx⟩ := t2.upd o2 hn
  have hws : ws.length < sizeLine := by rw [hw.length]; exact hl
  refine ⟨p, _, r1, DKey.put o2.sub r2 (o'.cel _ (List.mem_cons_self ..)) hws, ?_⟩
  obtain ⟨L2', t3, o3⟩ := nx F2 [(p, DKey.ho (putK ws k v))] (OD (dput d k a)) _ (Same.refl _) ⟨_, dr_put (Rp.mono (e1.trans e2) h3) hw, rfl⟩ (o'.put (DKey.nt _))
  exact ⟨Γ, _, F2, L2', hJ, (h2.trans e1).trans e2, ((s.mono h2).mono e1).mono e2, t3, o3⟩
/-- a new dict, owned -/
theorem jx_dict : JX X W Γ T (.Dict [] [] pos) (fun ρ T' => ∃ p, ρ = Ref p ∧ T' = (p, OD ([] : List (κ × A))) :: T) nox := fun F σ L Lf H s t o Q q _ =>
  we_of (DKey.new (κ := κ)) fun p hp => q _ _ ⟨Ref p, _, F, (p, DKey.ho ([] : List (κ × V))) :: L, ⟨p, rfl, rfl⟩, Same.refl _, rfl, .cons (L1 := [(p, DKey.ho ([] : List (κ × V)))]) ⟨[], .nil, rfl⟩ t, o.born hp (DKey.nt _)⟩
theorem je_lenD (n : Nat) {pp : Pos} (hg : Gl X "len") (hm : X.mg "len" = none) (ho : JE X Γ T o (Ref p)) (hn : T[n]? = some (p, OD d)) (hs : starEach [o] X.env = (false, eval o X.env) :: starEach [] X.env := by exact star1 rfl) : JE X Γ T (.Call (.Name "len" pp) [o] [] pos) (Dat (d.length : Int)) :=
  je_ca (pe_callB (DKey.len (κ := κ)) hg hm PySem.boot_len wa_pa (by decide) (by decide) hs (by rfl)) (ja_cons ho ja_nil hs) fun F L Lf H vs Q t o' rs q => by
    obtain ⟨x, rfl, rx⟩ := vrs1 rs
    obtain ⟨Lk, Lr, ⟨ws, h1, rfl⟩, o2⟩ := t.cell o' hn
    exact ⟨p, ws, by rw [show x = .ref p from rx], o2.cel _ (List.mem_cons_self ..), q F L H _ (Same.refl F) t o' (by rw [h1.length]; rfl)⟩
end
/-! ### texts -/
/-- the sgns of a text, each a text -/
def sgns (x : Str) : List Str := x.cps.toList.map fun c => ⟨#[c]⟩
/-- one sign within a text; of no sign nothing is told -/
def signIn (c x : Str) : Option Bool := match c.cps.toList with | [c'] => some (decide (c' ∈ x.cps.toList)) | _ => none
section
variable {X : Cx} {W : WX} {Γ : Slots} {T : Th} {e o a b tg iter : Expr} {pos : Pos} {x c : Str}
theorem ji_str (h : JE X Γ T iter (Dat x)) : JI X Γ T tg iter (fun _ => True) ((sgns x).map Dat) := fun F σ L Lf H s t o R k =>
  ⟨_, pi_str we_pe, h F σ L Lf H s t o _ fun F1 M1 H1 v e1 t1 o1 r => ⟨x, r, k _ F1 M1 H1 e1 t1 o1 fun T' _ F2 L2' Lf2 H2 i e2 t2 o2 => by
    have hl : ((sgns x).map (Dat : Str → VR)).length = x.cps.size := by simp [sgns]
    refine ⟨fun hle => ?_, fun ρ hρ => ?_⟩
    · rw [hl] at hle; exact hle
    · have hi : i < x.cps.size := by
        have := (List.getElem?_eq_some_iff.mp hρ).1
        rwa [hl] at this
      rw [List.getElem?_map] at hρ
      unfold sgns at hρ
      rw [List.getElem?_map, Array.getElem?_toList, Array.getElem?_eq_getElem hi] at hρ
      cases hρ
      exact ⟨hi, fun y H' ⟨p, hp⟩ => ⟨F2, Same.refl _, by rw [p]; exact o2, by
        obtain ⟨c', h1, h2⟩ := hp
        rw [Array.getElem?_eq_getElem hi] at h1
        cases h1
        exact h2⟩⟩⟩⟩
theorem sign_of {c x : Str} {k : Bool} (h : signIn c x = some k) : ∃ c', c = ⟨#[c']⟩ ∧ k = decide (c' ∈ x.cps.toList) := by
  unfold signIn at h
  split at h
  · cases h
    rename_i c' hc
    refine ⟨c', ?_, rfl⟩
    cases c with
    | mk cps =>
      congr 1
      exact Array.toList_inj.mp hc
  · cases h
theorem jc_inS {k : Bool} (h : signIn c x = some k) (ha : JE X Γ T a (Dat c)) (hb : JE X Γ T b (Dat x)) : JC X Γ T .In a b (Dat k) := by
  obtain ⟨c', rfl, rfl⟩ := sign_of h
  exact jc_op op_in_sign (fun F L Lf H u v Q t o ru rv q => ⟨c', x, ru, rv, q F L H _ (Same.refl F) t o rfl⟩) ha hb
theorem jc_niS {k : Bool} (h : signIn c x = some k) (ha : JE X Γ T a (Dat c)) (hb : JE X Γ T b (Dat x)) : JC X Γ T .NotIn a b (Dat (!k)) := by
  obtain ⟨c', rfl, rfl⟩ := sign_of h
  exact jc_op op_notIn_sign (fun F L Lf H u v Q t o ru rv q => ⟨c', x, ru, rv, q F L H _ (Same.refl F) t o rfl⟩) ha hb
/-! ### globals -/
theorem je_gint {f : Str} {i : Int} (hg : Gl X f) (hm : ∃ t, X.mg f = some (.int i t)) (hd : (f == ("__debug__" : Str)) = false := by decide) : JE X Γ T (.Name f pos) (Dat i) := by
  obtain ⟨t, hm⟩ := hm
  exact je_con (pe_glob (v := .int i) hg hm ⟨t, rfl⟩ hd) fun _ => rfl
theorem je_gstr {f : Str} {i : Str} (hg : Gl X f) (hm : ∃ t, X.mg f = some (.str i t)) (hd : (f == ("__debug__" : Str)) = false := by decide) : JE X Γ T (.Name f pos) (Dat i) := by
  obtain ⟨t, hm⟩ := hm
  exact je_con (pe_glob (v := .str i) hg hm ⟨t, rfl⟩ hd) fun _ => rfl
/-- a written tuple of texts -/
def TupS (K : PySem.W.Frag) (q : Addr) (zs : List Str) : VR := ⟨fun F v => v = .ref q ∧ ∀ H, SqT K H q (zs.map V.str), fun _ h => h⟩
theorem je_gtup {f : Str} {q : Addr} {zs : List Str} (hg : Gl X f) (hm : X.mg f = some (.ref q)) (hS : ∀ H, SqT X.K H q (zs.map V.str)) (hd : (f == ("__debug__" : Str)) = false := by decide) : JE X Γ T (.Name f pos) (TupS X.K q zs) := je_con (pe_glob (v := .ref q) hg hm rfl hd) fun _ => ⟨rfl, hS⟩
theorem paired_strs {F : Hp} : ∀ zs : List Str, Paired (rep F) (zs.map V.str) zs
  | [] => .nil
  | _ :: zs => .cons rfl (paired_strs zs)
theorem jc_inT {q : Addr} {zs : List Str} (ha : JE X Γ T a (Dat x)) (hb : JE X Γ T b (TupS X.K q zs)) : JC X Γ T .In a b (Dat (decide (x ∈ zs))) :=
  jc_op op_in_seq (fun F L Lf H u v Q t o ru rv k => by
    obtain rfl := (Sca.ok _ _ _).mp ru
    obtain ⟨h4, h5⟩ := inV_dec (F := F) (x := x) (paired_strs zs)
    exact ⟨q, _, rv.1, .inr (rv.2 H), Sca.flat x, h4, k F L H _ (Same.refl F) t o (by show V.bl _ = V.bl _; rw [if_neg (by decide), h5])⟩) ha hb
theorem jc_niT {q : Addr} {zs : List Str} (ha : JE X Γ T a (Dat x)) (hb : JE X Γ T b (TupS X.K q zs)) : JC X Γ T .NotIn a b (Dat (!decide (x ∈ zs))) :=
  jc_op op_notIn_seq (fun F L Lf H u v Q t o ru rv k => by
    obtain rfl := (Sca.ok _ _ _).mp ru
    obtain ⟨h4, h5⟩ := inV_dec (F := F) (x := x) (paired_strs zs)
    exact ⟨q, _, rv.1, .inr (rv.2 H), Sca.flat x, h4, k F L H _ (Same.refl F) t o (by show V.bl _ = V.bl _; rw [if_pos rfl, h5])⟩) ha hb
end
/-! ### tuples that hold owned things -/
def TupV (ρs : List VR) : VR := ⟨fun F v => ∃ p vs, v = .ref p ∧ F p = some (.tup vs) ∧ VRs F ρs vs, fun e ⟨p, vs, h1, h2, h3⟩ => ⟨p, vs, h1, e _ _ h2, VRs.mono e h3⟩⟩
section
variable {X : Cx} {W : WX} {Γ : Slots} {T : Th} {e o a b tg iter : Expr} {es : List Expr} {pos : Pos} {ρ : VR} {ρs : List VR}
theorem je_tupV {n : Nat} (h : JA X Γ T es ρs) (hl : ρs.length ≤ sizeLine) : JE X Γ T (.Tuple es n pos) (TupV ρs) := fun F σ L Lf H s t o Q k =>
  we_of (pe_tup wa_pa) (h F σ L Lf H s t o _ fun F1 M1 H1 vs e1 t1 o1 rs => by
    refine ⟨by rw [← rs.length]; exact hl, fun p hp => ?_⟩
    obtain ⟨e2, o2, e3⟩ := own_ice (o := .tup vs) o1 hp
    exact k _ M1 _ _ (e1.trans e2) (t1.mono e2) o2 ⟨p, vs, rfl, e3, VRs.mono e2 rs⟩)
theorem vrs_at {F : Hp} : ∀ {ρs : List VR} {vs : List V} {i : Nat}, VRs F ρs vs → ρs[i]? = some ρ → ∃ v, vs[i]? = some v ∧ ρ.rel F v
  | _, _, i, .nil, h => by simp at h
  | _, _, 0, .cons h _, e => by simp only [List.getElem?_cons_zero, Option.some.injEq] at e; subst e; exact ⟨_, rfl, h⟩
  | _, _, i + 1, .cons _ t, e => by rw [List.getElem?_cons_succ] at e ⊢; exact vrs_at t e
theorem je_ixV {i : Nat} (ha : JE X Γ T a (TupV ρs)) (hb : JE X Γ T b (Dat (i : Int))) (h : ρs[i]? = some ρ) (hs : PlainIx b := by exact fun _ _ => rfl) : JE X Γ T (.Subscript a b pos) ρ :=
  je_two (t := tOp (rIxT X.K)) (pe_ix ix_tup we_pe we_pe hs) (fun _ _ _ _ _ h => h) ha hb fun F L Lf H u v Q t o ⟨p, vs, h1, h2, h3⟩ rv k => by
    obtain ⟨w, h4, h5⟩ := vrs_at h3 h
    exact ⟨p, vs, i, w, h1, rv, .inl (.inl (o.sub _ _ h2)), atI_nat h4, k F L H _ (Same.refl F) t o h5⟩
theorem jg_tupV {ts : List Expr} {n m : Nat} {put : Slots → Slots} {ws : List Nat} (hc : X.calm = true) (h : JGs X ts ρs put ws) (hm : ρs.length = m) (hp : ∀ {t : TGs}, PGs X ts t → PG X (.Tuple ts n pos) (gTup X.K m t) := by exact fun h => pg_tup rfl h) : JG X (.Tuple ts n pos) (TupV ρs) put ws :=
  fun Γ T F σ L Lf H v s t o ⟨p, vs, h1, h2, h3⟩ Q k => by
    obtain ⟨tt, g, q⟩ := h Γ T F σ L Lf H vs s t o h3 Q k
    exact ⟨_, hp g, p, vs, h1, .inl (.inl (o.sub _ _ h2)), by rw [← h3.length]; exact hm, q⟩
end
end G
/-! ### the head's facts, with one more -/
namespace He
open PySem PySem.Spec PyProof.Rows L2
abbrev AlX : Type := AlD × Bool
def obsX (fa : List Fa) (fn : List DefD) (ex : PySem.W.Frag → Bool) (K : PySem.W.Frag) : AlX := (obsD fa fn K, ex K)
def valX (fn : List DefD) : AlX := (valD fn, true)
def SaysX (fa : List Fa) (fn : List DefD) (ex : PySem.W.Frag → Bool) (K : PySem.W.Frag) : Prop := obsX fa fn ex K = valX fn
def obsXG (n : Nat) (fa : List Fa) (fn : List DefD) (ex : PySem.W.Frag → Bool) (g : Addr → Option Obj) : AlX := obsX fa fn ex (frG g (asD g n))
def hookX (n : Nat) (fa : List Fa) (fn : List DefD) (ex : PySem.W.Frag → Bool) : PySem.W.Hook where
  α := AlX
  obs := fun s => obsXG n fa fn ex s.heap.get?
  val := fun _ => valX fn
  says := fun _ h => ∃ K : PySem.W.Frag, K.In h ∧ SaysX fa fn ex K
  of := fun _ _ e => ⟨_, frG_in, e⟩
  keeps := fun _ _ _ ⟨K, hK, c⟩ k => ⟨K, PySem.W.Frag.In.keeps hK k, c⟩
theorem obsXG_eq {n : Nat} {fa : List Fa} {fn : List DefD} {ex : PySem.W.Frag → Bool} {g : Addr → Option Obj} {s : Shared} (h : ∀ a, g a = s.heap.get? a) : obsXG n fa fn ex g = (hookX n fa fn ex).obs s := by
  have e : g = s.heap.get? := funext h
  rw [e] <;> rfl
theorem SaysX.d {fa : List Fa} {fn : List DefD} {ex : PySem.W.Frag → Bool} {K : PySem.W.Frag} (c : SaysX fa fn ex K) : SaysD fa fn K := congrArg (fun z : AlX => z.1) c
theorem SaysX.x {fa : List Fa} {fn : List DefD} {ex : PySem.W.Frag → Bool} {K : PySem.W.Frag} (c : SaysX fa fn ex K) : ex K = true := congrArg (fun z : AlX => z.2) c
theorem tup_strs {K : PySem.W.Frag} {x : Str} {zs : List Str} (h : tupB K x (zs.map Dv.str) = true) (H : Hp) : SqT K H (ga K x) (zs.map V.str) := by
  have := tupB_ok h H
  rwa [List.map_map] at this
end He

/-! GM: plain laws about mirrors. -/
namespace G
open PySem PySem.Spec L2
section
variable {α β S R : Type}
theorem mapO_eq {f : α → Option β} {g : α → β} : ∀ {xs : List α}, (∀ x ∈ xs, f x = some (g x)) → mapO f xs = some (xs.map g)
  | [], _ => rfl
  | x :: xs, h => by
    unfold mapO
    rw [h x (List.mem_cons_self ..), mapO_eq fun y hy => h y (List.mem_cons_of_mem _ hy)]
    rfl
theorem mapB_eq {f : α → Option β} {g : α → β} {xs : List α} (hl : xs.length ≤ 1000000) (h : ∀ x ∈ xs, f x = some (g x)) : mapB f xs = some (xs.map g) := by
  unfold mapB; rw [if_pos hl]; exact mapO_eq h
theorem lcO_eq {f : α → Option (Option β)} {p : α → Bool} {g : α → β} : ∀ {xs : List α}, (∀ x ∈ xs, f x = some (if p x = true then some (g x) else none)) → lcO f xs = some ((xs.filter p).map g)
  | [], _ => rfl
  | x :: xs, h => by
    unfold lcO
    rw [h x (List.mem_cons_self ..), lcO_eq (p := p) (g := g) fun y hy => h y (List.mem_cons_of_mem _ hy)]
    cases q : p x <;> simp [q]
theorem lcB_eq {f : α → Option (Option β)} {p : α → Bool} {g : α → β} {xs : List α} (hl : xs.length ≤ 1000000) (h : ∀ x ∈ xs, f x = some (if p x = true then some (g x) else none)) : lcB f xs = some ((xs.filter p).map g) := by
  unfold lcB; rw [if_pos hl]; exact lcO_eq h
theorem foldO_eq {f : S → α → Option S} {g : S → α → S} : ∀ {xs : List α} {s : S}, (∀ s x, x ∈ xs → f s x = some (g s x)) → foldO f s xs = some (xs.foldl g s)
  | [], _, _ => rfl
  | x :: xs, s, h => by
    unfold foldO
    rw [h s x (List.mem_cons_self ..)]
    exact foldO_eq fun s y hy => h s y (List.mem_cons_of_mem _ hy)
/-- by an invariant over the number of turns -/
theorem foldO_inv {f : S → α → Option S} (Inv : Nat → S → Prop) {xs : List α} {s : S} (h0 : Inv 0 s) (hs : ∀ i x s, xs[i]? = some x → Inv i s → ∃ s', f s x = some s' ∧ Inv (i + 1) s') : ∃ s', foldO f s xs = some s' ∧ Inv xs.length s' := by
  have main : ∀ (ys : List α) (i : Nat) (s : S), xs.drop i = ys → Inv i s → i ≤ xs.length → ∃ s', foldO f s ys = some s' ∧ Inv xs.length s' := by
    intro ys
    induction ys with
    | nil =>
      intro i s hd hi hl
      have : i = xs.length := by have := congrArg List.length hd; simp at this; omega
      subst this
      exact ⟨s, rfl, hi⟩
    | cons y ys ih =>
      intro i s hd hi hl
      have hx : xs[i]? = some y := by rw [← List.head?_drop, hd]; rfl
      obtain ⟨s', h1, h2⟩ := hs i y s hx hi
      have hlt : i < xs.length := (List.getElem?_eq_some_iff.mp hx).1
      obtain ⟨s2, h3, h4⟩ := ih (i + 1) s' (by rw [← List.drop_drop, hd]; rfl) h2 hlt
      exact ⟨s2, by unfold foldO; rw [h1]; exact h3, h4⟩
  exact main xs 0 s rfl h0 (Nat.zero_le _)
theorem foldC_inv {f : S → α → Option (Ctl S R)} (Inv : Nat → S → Prop) {xs : List α} {s : S} (h0 : Inv 0 s) (hs : ∀ i x s, xs[i]? = some x → Inv i s → ∃ s', f s x = some (.go s') ∧ Inv (i + 1) s') : ∃ s', foldC f s xs = some (.go s') ∧ Inv xs.length s' := by
  have main : ∀ (ys : List α) (i : Nat) (s : S), xs.drop i = ys → Inv i s → i ≤ xs.length → ∃ s', foldC f s ys = some (.go s') ∧ Inv xs.length s' := by
    intro ys
    induction ys with
    | nil =>
      intro i s hd hi hl
      have : i = xs.length := by have := congrArg List.length hd; simp at this; omega
      subst this
      exact ⟨s, rfl, hi⟩
    | cons y ys ih =>
      intro i s hd hi hl
      have hx : xs[i]? = some y := by rw [← List.head?_drop, hd]; rfl
      obtain ⟨s', h1, h2⟩ := hs i y s hx hi
      have hlt : i < xs.length := (List.getElem?_eq_some_iff.mp hx).1
      obtain ⟨s2, h3, h4⟩ := ih (i + 1) s' (by rw [← List.drop_drop, hd]; rfl) h2 hlt
      exact ⟨s2, by unfold foldC; rw [h1]; exact h3, h4⟩
  exact main xs 0 s rfl h0 (Nat.zero_le _)
/-- a loop of checks that all hold -/
theorem foldC_unit {f : Unit → α → Option (Ctl Unit R)} {xs : List α} (h : ∀ x ∈ xs, f () x = some (.go ())) : foldC f () xs = some (.go ()) := by
  obtain ⟨_, h1, _⟩ := foldC_inv (f := f) (xs := xs) (s := ()) (fun _ _ => True) trivial fun i x s hx _ => ⟨(), h x (List.mem_of_getElem? hx), trivial⟩
  exact h1
end
theorem rngO_eq {a b : Int} (h1 : -(2 ^ 62) ≤ a) (h2 : a < 2 ^ 62) (h3 : -(2 ^ 62) ≤ b) (h4 : b < 2 ^ 62) : rngO a b = some (intsFrom a (b - a).toNat) := when_ok ⟨h1, h2, h3, h4⟩
theorem rngO_0 {b : Int} (h1 : 0 ≤ b) (h2 : b < 2 ^ 62) : rngO 0 b = some (intsFrom 0 b.toNat) := by
  rw [rngO_eq (by decide) (by decide) (by omega) h2, Int.sub_zero]
theorem mem_intsFrom {a x : Int} {n : Nat} : x ∈ intsFrom a n ↔ a ≤ x ∧ x < a + n := by
  unfold intsFrom
  rw [List.mem_map]
  constructor
  · rintro ⟨i, hi, rfl⟩
    have := List.mem_range.mp hi
    omega
  · intro h
    exact ⟨(x - a).toNat, List.mem_range.mpr (by omega), by omega⟩
theorem atI_ofNat {α : Type} (xs : List α) (i : Nat) : atI xs (i : Int) = xs[i]? := by
  cases h : xs[i]? with
  | some x => exact atI_nat h
  | none =>
    have := List.getElem?_eq_none_iff.mp h
    unfold atI ixN
    rw [if_pos (Int.natCast_nonneg i), if_neg (by omega)]
    rfl
theorem atI_nn {α : Type} (xs : List α) {i : Int} (h : 0 ≤ i) : atI xs i = xs[i.toNat]? := by
  obtain ⟨n, rfl⟩ := Int.eq_ofNat_of_zero_le h
  exact atI_ofNat xs n
theorem shlO_eq {i j : Int} (h : CShl i j) : shlO i j = some (i * 2 ^ j.toNat) := when_ok h
theorem shlO_1 {j : Int} (h0 : 0 ≤ j) (h : j ≤ 1000000) : shlO 1 j = some (2 ^ j.toNat) := by
  rw [shlO_eq, Int.one_mul]
  refine ⟨h0, ?_⟩
  have : Builtin.Int.intBits 1 = 1 := by decide +kernel
  rw [this]
  have : (1 : Int) + 1000000 ≤ 2 ^ 27 := by decide
  omega
theorem divO_eq {i j : Int} (h0 : 0 < j) (h : j.natAbs.log2 < 9000) : divO i j = some (i / j) := when_ok ⟨h0, h⟩
theorem divO_pow {i : Int} {k : Nat} (h : k < 9000) : divO i (2 ^ k) = some (i / 2 ^ k) := by
  refine divO_eq (Int.pow_pos (by decide)) ?_
  rw [Int.natAbs_pow]
  show ((2 : Nat) ^ k).log2 < 9000
  rw [Nat.log2_two_pow]
  exact h
theorem modO_eq {i j : Int} (h0 : 0 < j) : modO i j = some (i % j) := when_ok h0
end G
namespace G
open PySem PySem.Spec L2
/-! ### texts -/
theorem slen_app (a b : Str) : (a ++ b).length = a.length + b.length := PySem.Str.length_append a b
theorem addS_eq {x y : Str} (h : x.length + y.length ≤ 16777216) : addS x y = some (x ++ y) := when_ok (by rw [sizeLine_eq]; exact h)
theorem lenS_eq {x : Str} (h : x.length ≤ 16777216) : lenS x = some (x.length : Int) := when_ok (by rw [sizeLine_eq]; exact h)
theorem cutSO_eq {x : Str} {l u : Option Int} (h : x.length ≤ 16777216) : cutSO x l u = some (cutS x l u) := when_ok (by rw [sizeLine_eq]; exact h)
theorem ixStr_eq {x : Str} {i : Int} (h : x.length ≤ 16777216) (h0 : 0 ≤ i) (h1 : i < x.length) : ∃ c, x.cps.toList[i.toNat]? = some c ∧ ixStr x i = some ⟨#[c]⟩ := by
  have hl : i.toNat < x.cps.toList.length := by
    have : x.cps.toList.length = x.length := by simp [Str.length]
    omega
  refine ⟨x.cps.toList[i.toNat], List.getElem?_eq_getElem hl, ?_⟩
  unfold ixStr
  rw [if_pos (by rw [sizeLine_eq]; exact h), atI_nn _ h0, List.getElem?_eq_getElem hl]
  rfl
theorem appO_eq {α : Type} {xs : List α} {y : α} (h : xs.length < 16777216) : appO xs y = some (xs ++ [y]) := when_ok (by rw [sizeLine_eq]; exact h)
theorem atI_lt {α : Type} {xs : List α} {i : Int} (h : 0 ≤ i) (h1 : i < xs.length) : atI xs i = some (xs[i.toNat]'(by omega)) := by
  rw [atI_nn xs h, List.getElem?_eq_getElem]
/-- a search that ends at the first that does not fit -/
theorem foldC_all {α R : Type} {f : Unit → α → Option (Ctl Unit R)} {p : α → Bool} {r0 : R} : ∀ {xs : List α}, (∀ x ∈ xs, f () x = some (if p x = true then .go () else .ret r0)) → foldC f () xs = some (if xs.all p = true then .go () else .ret r0)
  | [], _ => rfl
  | x :: xs, h => by
    unfold foldC
    rw [h x (List.mem_cons_self ..)]
    cases q : p x with
    | false => simp [q]
    | true =>
      simp only [if_true, Option.bind_some, List.all_cons, q, Bool.true_and]
      exact foldC_all fun y hy => h y (List.mem_cons_of_mem _ hy)
end G

/-! GN: what the printed proofs name. -/
namespace G
open PySem PySem.Spec PyProof.Rows L2
open Rp (rep)
section
variable {T : Th} {x y z u : Addr × OV}
theorem perm0 : T.Perm ([] ++ T) := .refl _
theorem perm1 (k : Nat) (h : T[k]? = some x) : T.Perm ([x] ++ T.eraseIdx k) := perm_pick k h
theorem perm2 (k j : Nat) (h : T[k]? = some x) (h2 : (T.eraseIdx k)[j]? = some y) : T.Perm ([x, y] ++ (T.eraseIdx k).eraseIdx j) := (perm_pick k h).trans ((perm_pick j h2).cons x)
theorem perm3 (k j i : Nat) (h : T[k]? = some x) (h2 : (T.eraseIdx k)[j]? = some y) (h3 : ((T.eraseIdx k).eraseIdx j)[i]? = some z) : T.Perm ([x, y, z] ++ ((T.eraseIdx k).eraseIdx j).eraseIdx i) := (perm2 k j h h2).trans (((perm_pick i h3).cons y).cons x)
theorem perm4 (k j i l : Nat) (h : T[k]? = some x) (h2 : (T.eraseIdx k)[j]? = some y) (h3 : ((T.eraseIdx k).eraseIdx j)[i]? = some z) (h4 : (((T.eraseIdx k).eraseIdx j).eraseIdx i)[l]? = some u) : T.Perm ([x, y, z, u] ++ (((T.eraseIdx k).eraseIdx j).eraseIdx i).eraseIdx l) := (perm3 k j i h h2 h3).trans ((((perm_pick l h4).cons z).cons y).cons x)
end
theorem len0 {α : Type} {l : List α} (h : l.length = 0) : l = [] := List.length_eq_zero_iff.mp h
theorem len1 {α : Type} {l : List α} (h : l.length = 1) : ∃ a, l = [a] := List.length_eq_one_iff.mp h
theorem len2 {α : Type} {l : List α} (h : l.length = 2) : ∃ a b, l = [a, b] := by
  match l, h with
  | [a, b], _ => exact ⟨a, b, rfl⟩
theorem len3 {α : Type} {l : List α} (h : l.length = 3) : ∃ a b c, l = [a, b, c] := by
  match l, h with
  | [a, b, c], _ => exact ⟨a, b, c, rfl⟩
theorem len4 {α : Type} {l : List α} (h : l.length = 4) : ∃ a b c d, l = [a, b, c, d] := by
  match l, h with
  | [a, b, c, d], _ => exact ⟨a, b, c, d, rfl⟩
theorem len5 {α : Type} {l : List α} (h : l.length = 5) : ∃ a b c d e, l = [a, b, c, d, e] := by
  match l, h with
  | [a, b, c, d, e], _ => exact ⟨a, b, c, d, e, rfl⟩
def popO {A : Type} (xs : List A) : Option (List A × A) := xs.getLast?.map fun y => (xs.dropLast, y)
def extO {A : Type} (xs ys : List A) : Option (List A) := when (xs.length + ys.length ≤ sizeLine) (xs ++ ys)
/-- a while, its test apart -/
def whileK {S R : Type} (c : S → Option Bool) (f : S → Option (Ctl S R)) : Nat → S → Option (Ctl S R)
  | 0, _ => none
  | n + 1, s => (c s).bind fun b => if b = true then (f s).bind fun | .go s' => whileK c f n s' | .brk s' => some (.go s') | .ret r => some (.ret r) else some (.go s)
section
variable {X : Cx} {W : WX} {Γ Γ' : Slots} {T T' Tr : Th} {st : Stmt} {rest sts : List Stmt} {D D' : Po} {e o tg a b c : Expr} {es : List Expr} {pos apos pn : Pos} {ρ α β : VR} {x f m : Str} {p C : Addr} {A : Type} [Rp A] {xs ys : List A} {R : VR → Th → Prop} {xr : Value → Th → Prop}
theorem jx_popM (i : Nat) {r : List A × A} (h : popO xs = some r) (hi : T[i]? = some (p, OL xs)) (ho : JE X Γ T o (Ref p)) (hp : ∀ {to : TE}, PE X o to → PE X (.Call (.Attribute o "pop" apos) [] [] pos) (tBM0 X.K "list" rPop to) := by exact fun h => pe_bm0 PySem.F.plainAttrs_list PySem.F.slot_list_pop PySem.F.type_list_pop mt_pop h) :
    JX X W Γ T (.Call (.Attribute o "pop" apos) [] [] pos) (fun ρ T' => ρ = Dat r.2 ∧ T' = T.set i (p, OL r.1)) nox := by
  obtain ⟨y, h1, rfl⟩ := Option.map_eq_some_iff.mp h
  obtain ⟨ys, rfl⟩ := List.getLast?_eq_some_iff.mp h1
  rw [List.dropLast_concat]
  exact jx_pop i hi ho hp
/-- an operator whose left side is a step: by values -/
theorem jx_binD {op : Operator} {r : R2} {ρo : VR} {Tn : Th} (ho : OpR X (binaryOp op) r) (ha : JX X W Γ T a R nox) (hr : ∀ α T', R α T' → ∃ β γ, JE X Γ T' b β ∧ Op2 T' r α β γ ∧ γ = ρo ∧ T' = Tn) : JX X W Γ T (.BinOp a op b pos) (fun ρ T' => ρ = ρo ∧ T' = Tn) nox := fun F σ L Lf H s t o Q q _ =>
  we_of (pe_op ho we_pe we_pe) (ha F σ L Lf H s t o _ (fun u H1 ⟨α, T1, F1, M1, h1, e1, r1, t1, o1⟩ => by
    obtain ⟨β, γ, hb, h2, rfl, rfl⟩ := hr α T1 h1
    exact hb F1 σ M1 Lf H1 (s.mono e1) t1 o1 _ fun F2 M2 H2 y e2 t2 o2 r2 => h2 F2 M2 Lf H2 u y Q t2 o2 (α.mono e2 r1) r2 fun F3 M3 H3 z e3 t3 o3 r3 => q z H3 ⟨_, _, F3, M3, ⟨rfl, rfl⟩, (e1.trans e2).trans e3, r3, t3, o3⟩) fun _ _ _ _ _ z => z.elim)
theorem o2_eqS {B : Type} [Sca B] [DecidableEq B] {x y : B} : Op2 T (fun x y H Q => scal x y = true ∧ Q (.bl (decide (x = y))) H) (Dat x) (Dat y) (Dat (decide (x = y))) := fun F L Lf H u v Q t o rx ry k => by
  obtain rfl := (Sca.ok _ _ _).mp rx
  obtain rfl := (Sca.ok _ _ _).mp ry
  exact ⟨Sca.sc x y, k F L H _ (Same.refl F) t o (by show V.bl _ = V.bl _; rw [Sca.dec])⟩
theorem o2_neS {B : Type} [Sca B] [DecidableEq B] {x y : B} : Op2 T (fun x y H Q => scal x y = true ∧ Q (.bl (!decide (x = y))) H) (Dat x) (Dat y) (Dat (!decide (x = y))) := fun F L Lf H u v Q t o rx ry k => by
  obtain rfl := (Sca.ok _ _ _).mp rx
  obtain rfl := (Sca.ok _ _ _).mp ry
  exact ⟨Sca.sc x y, k F L H _ (Same.refl F) t o (by show V.bl _ = V.bl _; rw [Sca.dec])⟩
theorem je_unopt {o' : Option A} {y : A} (h : o' = some y) (he : JE X Γ T e (Dat o')) : JE X Γ T e (Dat y) := by
  subst h; exact je_as he fun _ _ r => r
theorem je_lenT2 {B : Type} [Rp B] {x : A} {y : B} {pp : Pos} (hg : Gl X "len") (hm : X.mg "len" = none) (ho : JE X Γ T o (Dat (x, y))) (hs : starEach [o] X.env = (false, eval o X.env) :: starEach [] X.env := by exact star1 rfl) : JE X Γ T (.Call (.Name "len" pp) [o] [] pos) (Dat (2 : Int)) :=
  je_ca (pe_callB call_len_seq hg hm PySem.boot_len wa_pa (by decide) (by decide) hs (by rfl)) (ja_cons ho ja_nil hs) fun F L Lf H vs Q t o' rs q => by
    obtain ⟨v, rfl, p, u, w, h1, h2, _⟩ := vrs1 rs
    exact ⟨p, [u, w], by rw [h1], .inr (.inl (.inl (o'.sub _ _ h2))), q F L H _ (Same.refl F) t o' rfl⟩
theorem je_lenT3 {B D : Type} [Rp B] [Rp D] {x : A} {y : B} {z : D} {pp : Pos} (hg : Gl X "len") (hm : X.mg "len" = none) (ho : JE X Γ T o (Dat (T3.mk x y z))) (hs : starEach [o] X.env = (false, eval o X.env) :: starEach [] X.env := by exact star1 rfl) : JE X Γ T (.Call (.Name "len" pp) [o] [] pos) (Dat (3 : Int)) :=
  je_ca (pe_callB call_len_seq hg hm PySem.boot_len wa_pa (by decide) (by decide) hs (by rfl)) (ja_cons ho ja_nil hs) fun F L Lf H vs Q t o' rs q => by
    obtain ⟨v, rfl, p, u, w, w', h1, h2, _⟩ := vrs1 rs
    exact ⟨p, [u, w, w'], by rw [h1], .inr (.inl (.inl (o'.sub _ _ h2))), q F L H _ (Same.refl F) t o' rfl⟩
theorem je_lenV {ρs : List VR} {n : Int} {pp : Pos} (hg : Gl X "len") (hm : X.mg "len" = none) (ho : JE X Γ T o (TupV ρs)) (hn : (ρs.length : Int) = n) (hs : starEach [o] X.env = (false, eval o X.env) :: starEach [] X.env := by exact star1 rfl) : JE X Γ T (.Call (.Name "len" pp) [o] [] pos) (Dat n) :=
  je_ca (pe_callB call_len_seq hg hm PySem.boot_len wa_pa (by decide) (by decide) hs (by rfl)) (ja_cons ho ja_nil hs) fun F L Lf H vs Q t o' rs q => by
    obtain ⟨v, rfl, p, us, h1, h2, h3⟩ := vrs1 rs
    exact ⟨p, us, by rw [h1], .inr (.inl (.inl (o'.sub _ _ h2))), q F L H _ (Same.refl F) t o' (by rw [← hn, h3.length]; rfl)⟩
theorem ty_tupV {K : PySem.W.Frag} {ρs : List VR} : ∀ F L Lf H v, TR F T L → Own F (L ++ Lf) H → (TupV ρs).rel F v → TyX K H v (.type "tuple") := fun F L Lf H v t o ⟨p, _, h1, h2, _⟩ => by
  subst h1; exact .base (.tup (o.sub _ _ h2))
/-- isinstance of what may be None -/
theorem je_isiO {q p' : Pos} {ty t' : String} {f : Str} {o' : Option A} (hg : Gl X "isinstance") (hm : X.mg "isinstance" = none) (ha : JE X Γ T a (Dat o')) (hc : PE X (.Name f q) (tC (.ty ty))) (hk : kitB t' ty = some true) (hk0 : kitB "NoneType" ty = some false)
    (hr : ∀ y : A, ∀ F L Lf H v, TR F T L → Own F (L ++ Lf) H → (Dat y).rel F v → TyX X.K H v (.type t')) (hs : starEach [a, .Name f q] X.env = (false, eval a X.env) :: starEach [.Name f q] X.env := by exact star1 rfl) (hs' : starEach [.Name f q] X.env = (false, eval (.Name f q) X.env) :: starEach [] X.env := by exact star1 rfl) :
    JE X Γ T (.Call (.Name "isinstance" p') [a, .Name f q] [] pos) (Dat o'.isSome) := by
  cases o' with
  | some y => exact je_isi hg hm (je_as (β := Dat y) ha fun _ _ r => r) hc hk (hr y) hs hs'
  | none => exact je_isi hg hm (je_as (β := Dat ()) ha fun _ _ r => r) hc hk0 ty_non hs hs'
theorem je_isiOF {q p' : Pos} {ty t' : String} {f : Str} {o' : Option A} (hg : Gl X "isinstance") (hm : X.mg "isinstance" = none) (ha : JE X Γ T a (Dat o')) (hc : PE X (.Name f q) (tC (.ty ty))) (hk : kitB t' ty = some false) (hk0 : kitB "NoneType" ty = some false)
    (hr : ∀ y : A, ∀ F L Lf H v, TR F T L → Own F (L ++ Lf) H → (Dat y).rel F v → TyX X.K H v (.type t')) (hs : starEach [a, .Name f q] X.env = (false, eval a X.env) :: starEach [.Name f q] X.env := by exact star1 rfl) (hs' : starEach [.Name f q] X.env = (false, eval (.Name f q) X.env) :: starEach [] X.env := by exact star1 rfl) :
    JE X Γ T (.Call (.Name "isinstance" p') [a, .Name f q] [] pos) (Dat false) := by
  cases o' with
  | some y => exact je_isi hg hm (je_as (β := Dat y) ha fun _ _ r => r) hc hk (hr y) hs hs'
  | none => exact je_isi hg hm (je_as (β := Dat ()) ha fun _ _ r => r) hc hk0 ty_non hs hs'
/-- list(xs), owned -/
theorem jx_listOf {pp : Pos} (hg : Gl X "list") (hm : X.mg "list" = none) (ha : JE X Γ T a ρ) (hr : Rdl X.K T ρ xs) (hs : starEach [a] X.env = (false, eval a X.env) :: starEach [] X.env := by exact star1 rfl) :
    JX X W Γ T (.Call (.Name "list" pp) [a] [] pos) (fun ρ T' => ∃ p, ρ = Ref p ∧ T' = (p, OL xs) :: T) nox := fun F σ L Lf H s t o Q q _ =>
  we_of (pe_callTy call_list_of hg hm (by decide +kernel) wa_pa (by decide) (by decide) hs (by rfl)) (ja_cons ha ja_nil hs F σ L Lf H s t o _ fun F1 M1 H1 vs e1 t1 o1 rs => by
    obtain ⟨x, rfl, rx⟩ := vrs1 rs
    obtain ⟨p, ws, h1, h2, h3⟩ := hr F1 M1 Lf H1 x t1 o1 rx
    refine ⟨p, ws, by rw [h1], .inl h2, fun l hl => ?_⟩
    exact q _ _ ⟨Ref l, _, F1, (l, .lst ws) :: M1, ⟨l, rfl, rfl⟩, e1, rfl, .cons (L1 := [(l, .lst ws)]) ⟨ws, h3, rfl⟩ t1, o1.born hl⟩)
/-! statements -/
theorem js_doc {x : Str} {j : Nat} {pos' : Pos} (h : JSs X W Γ T rest D) : JSs X W Γ T (.Expr (.Constant (.str x) j pos) pos' :: rest) D :=
  js_step (fun F σ L Lf H s t o w => ws_of ps_doc ⟨Γ, T, F, L, ⟨rfl, rfl⟩, Same.refl F, s, t, o⟩) h
theorem js_par (i j : Nat) {x y : Str} {px py pt pt2 : Pos} {kt k2 : Nat} (hN : X.N.Nodup) (ha : JE X Γ T a α) (hb : JE X Γ T b β) (k : JSs X W ((Γ.set i (some α)).set j (some β)) T rest D) (hc : X.calm = true := by rfl) (hi : X.N[i]? = some x := by rfl) (hj : X.N[j]? = some y := by rfl) (hij : i ≠ j := by decide)
    (hx : X.env.scope.names.lookup x = some .local := by rfl) (hy : X.env.scope.names.lookup y = some .local := by rfl) (hs1 : noStar a = true := by rfl) (hs2 : noStar b = true := by rfl)
    (hw : swappedStores [.Tuple [.Name x px, .Name y py] kt pt] (.Tuple [a, b] k2 pt2) X.env = pure (some [x, y]) := by rfl) : JSs X W Γ T (.Assign [.Tuple [.Name x px, .Name y py] kt pt] (.Tuple [a, b] k2 pt2) pos :: rest) D := by
  refine js_step ?_ k
  intro F σ L Lf H s t o w
  refine ws_of (ps_par hc hN hi hj hij hx hy wa_pa hw (sole_no rfl)) (ja_cons ha (ja_cons hb ja_nil (star1 hs2)) (star1 hs1) F σ L Lf H s t o _ fun F1 M1 H1 vs e1 t1 o1 rs => ?_)
  obtain ⟨u, v, rfl, r1, r2⟩ := vrs2 rs
  exact ⟨u, v, rfl, _, T, F1, M1, ⟨rfl, rfl⟩, e1, (((s.mono e1).set (s := some α) (o := some u) ⟨u, rfl, r1⟩ i).set (s := some β) (o := some v) ⟨v, rfl, r2⟩ j), t1, o1⟩
theorem js_augM (i : Nat) {x : Str} {pos' : Pos} {u v z : Int} (hN : X.N.Nodup) (hv : Γ[i]? = some (some (Dat u))) (he : JE X Γ T e (Dat v)) (hc : CMul u v) (hz : some (u * v) = some z) (k : JSs X W (Γ.set i (some (Dat z))) T rest D) (hip : PIp X .Mult (rI CMul fun i j => .int (i * j)))
    (hi : X.N[i]? = some x := by rfl) (hx : Loc X.env.scope x := by first | exact Or.inl rfl | exact Or.inr rfl) (hf : X.fn x = true ∨ X.env.scope.names.lookup x = some .local := by first | exact .inl rfl | exact .inr rfl) : JSs X W Γ T (.AugAssign (.Name x pos') .Mult e pos :: rest) D := by
  cases hz
  exact js_step (js_aug i hN hip hv he (fun F L Lf H x y Q t o rx ry k => ⟨u, v, rx, ry, hc, k F L H _ (Same.refl F) t o rfl⟩) ⟨rfl, rfl⟩ hi hx hf) k
theorem js_whileK {S R : Type} {c : Expr} {body : List Stmt} {t : S → Option Bool} {f : S → Option (Ctl S R)} {s0 : S} {r : Ctl S R} {n : Nat} (hm : whileK t f n s0 = some r) (Γs : S → Slots) (Ts : S → Th) (hp : PassesOwn (model X.prog X.w) X.A X.env X.xe) (hΓ : Wk Γ (Γs s0)) (hT : T = Ts s0)
    (test : ∀ s b, t s = some b → JT X (Γs s) (Ts s) c b)
    (turn : ∀ s r', t s = some true → f s = some r' → (∀ q, r' = .ret q → r = .ret q) → JSs X W (Γs s) (Ts s) body { D with nx := fun Γ' T' => ∃ s', r' = .go s' ∧ Wk Γ' (Γs s') ∧ T' = Ts s', ct := fun Γ' T' => ∃ s', r' = .go s' ∧ Wk Γ' (Γs s') ∧ T' = Ts s', bk := fun Γ' T' => ∃ s', r' = .brk s' ∧ Wk Γ' (Γs s') ∧ T' = Ts s' })
    (fin : ∀ s, r = .go s → JSs X W (Γs s) (Ts s) rest D) : JSs X W Γ T (.While c body [] pos :: rest) D := by
  refine js_cons (M := fun Γ' T' => ∃ s, r = .go s ∧ Wk Γ' (Γs s) ∧ T' = Ts s) ?_ fun _ _ ⟨s, h, a, b⟩ => by subst b; exact js_wk a (fin s h)
  refine js_while hp (fun m s => whileK t f m s = some r) Γs Ts s0 n hm hΓ hT fun m s inv => ?_
  cases m with
  | zero => cases inv
  | succ m =>
    obtain ⟨b, h1, h2⟩ := obind inv
    refine ⟨b, test s b h1, fun hk => ?_, fun hk => ?_⟩
    · subst hk
      rw [if_pos rfl] at h2
      obtain ⟨r', h3, h4⟩ := obind h2
      refine jss_le (turn s r' h1 h3 (fun q e => by subst e; cases h4; rfl)) ⟨fun _ _ ⟨s', e, a, b⟩ => ⟨m, s', Nat.lt_succ_self m, by subst e; exact h4, a, b⟩, fun _ _ q => q, fun Γ' T' ⟨s', e, a, b⟩ => ?_, fun _ _ ⟨s', e, a, b⟩ => ⟨m, s', Nat.lt_succ_self m, by subst e; exact h4, a, b⟩, fun _ _ q => q⟩
      subst e
      cases h4
      exact ⟨s', rfl, a, b⟩
    · subst hk
      rw [if_neg Bool.false_ne_true] at h2
      cases h2
      exact ⟨s, rfl, Wk.refl _, rfl⟩
end
section
variable {X : Cx} {W : WX} {Γ : Slots} {T : Th} {e : Expr} {ρ : VR} {p C : Addr} {fs : List (Str × FV)}
theorem tr_open (k : Nat) (hk : T[k]? = some (p, OObj C fs)) {F : Hp} {L Lf : List Cell} {H : Hp} (t : TR F T L) (ow : Own F (L ++ Lf) H) : ∃ qs L', qs.length = nOwn fs ∧ TR F ((p, OIns C (refs fs qs)) :: (owned fs qs ++ T.eraseIdx k)) L' ∧ Own F (L' ++ Lf) H := by
  obtain ⟨L2, pm, t'⟩ := t.perm (perm_pick k hk)
  have ow' := ow.perm (pm.symm.append_right Lf)
  cases t' with
  | @cons _ _ _ M1 M2 a t2 =>
    obtain ⟨dx, vs, Ls, hf, rfl⟩ := a
    obtain ⟨qs, g1, g2, g3⟩ := hf.open_
    exact ⟨qs, [(p, .ins C dx ((fs.map (·.1)).zip vs)), (dx, .own p)] ++ (Ls ++ M2), g1, .cons ⟨dx, vs, g2, by rw [refs_names]⟩ (g3.app t2), by rw [← List.append_assoc]; exact ow'⟩
theorem tr_shut (k : Nat) (hk : T[k]? = some (p, OObj C fs)) {qs : List Addr} (hq : qs.length = nOwn fs) {F : Hp} {L Lf : List Cell} {H : Hp} (t : TR F ((p, OIns C (refs fs qs)) :: (owned fs qs ++ T.eraseIdx k)) L) (ow : Own F (L ++ Lf) H) : ∃ L', TR F T L' ∧ Own F (L' ++ Lf) H :=
  (TEnt.trans (TEnt.close hq) (TEnt.perm (perm_pick k hk).symm)).own t ow
/-- a value read with an object laid open meanwhile -/
theorem je_open (k : Nat) (hk : T[k]? = some (p, OObj C fs)) (h : ∀ qs, qs.length = nOwn fs → JE X Γ ((p, OIns C (refs fs qs)) :: (owned fs qs ++ T.eraseIdx k)) e ρ) : JE X Γ T e ρ := fun F σ L Lf H s t o Q q => by
  obtain ⟨qs, L', hq, t', o'⟩ := tr_open k hk t o
  refine h qs hq F σ L' Lf H s t' o' Q fun F1 M1 H1 v e1 t1 o1 r1 => ?_
  obtain ⟨M2, t2, o2⟩ := tr_shut k hk hq t1 o1
  exact q F1 M2 H1 v e1 t2 o2 r1
theorem jt_open {b : Bool} (k : Nat) (hk : T[k]? = some (p, OObj C fs)) (h : ∀ qs, qs.length = nOwn fs → JT X Γ ((p, OIns C (refs fs qs)) :: (owned fs qs ++ T.eraseIdx k)) e b) : JT X Γ T e b := fun F σ L Lf H s t o Q q => by
  obtain ⟨qs, L', hq, t', o'⟩ := tr_open k hk t o
  refine h qs hq F σ L' Lf H s t' o' Q fun F1 M1 H1 e1 t1 o1 => ?_
  obtain ⟨M2, t2, o2⟩ := tr_shut k hk hq t1 o1
  exact q F1 M2 H1 e1 t2 o2
end
/-- a step, behind which an object is laid open -/
theorem jx_openO {X : Cx} {W : WX} {Γ : Slots} {T : Th} {e : Expr} {R : VR → Th → Prop} {xr : Value → Th → Prop} {p C : Addr} {fs : List (Str × FV)} (k : Nat) (he : JX X W Γ T e R xr) (hk : ∀ ρ T', R ρ T' → T'[k]? = some (p, OObj C fs)) :
    JX X W Γ T e (fun ρ T2 => ∃ qs T', qs.length = nOwn fs ∧ R ρ T' ∧ T2 = (p, OIns C (refs fs qs)) :: (owned fs qs ++ T'.eraseIdx k)) xr := fun F σ L Lf H s t o Q q qx =>
  he F σ L Lf H s t o Q (fun v H' ⟨ρ, T', F', L', h1, h2, h3, h4, h5⟩ => by
    obtain ⟨L2, pm, t'⟩ := h4.perm (perm_pick k (hk ρ T' h1))
    have ow' := h5.perm (pm.symm.append_right Lf)
    cases t' with
    | @cons _ _ _ M1 M2 a t2 =>
      obtain ⟨dx, vs, Ls, hf, rfl⟩ := a
      obtain ⟨qs, g1, g2, g3⟩ := hf.open_
      exact q v H' ⟨ρ, _, F', [(p, .ins C dx ((fs.map (·.1)).zip vs)), (dx, .own p)] ++ (Ls ++ M2), ⟨qs, T', g1, h1, rfl⟩, h2, h3, .cons ⟨dx, vs, g2, by rw [refs_names]⟩ (g3.app t2), by rw [← List.append_assoc]; exact ow'⟩) qx
/-- a law whose mirror tells True of every script -/
theorem law_spM {K : PySem.W.Frag} {m : List Int → Option Bool} (hm : ∀ ns : List Int, ns.length ≤ 63 → (∀ z ∈ ns, Builtin.Int.intBits z ≤ 1048576) → m ns = some true) (H : Hp) (a : Addr) (ns : List Int) (hl : ns.length ≤ 63) (hb : ∀ z ∈ ns, Builtin.Int.intBits z ≤ 1048576) (hS : SqL K H a (ns.map V.int)) :
    (mSpec (fun a : List Int => [Scr K a]) (fun _ => []) (fun a => m a) (fun _ r ρ T => ρ = Dat r ∧ T = [])).sp [.ref a] H (fun v _ => v = .bl true) fun _ _ _ => False := by
  have e := hm ns hl hb
  refine ⟨ns, H, [], [], ⟨true, e⟩, .cons ⟨a, rfl, hS⟩ .nil, .nil, ⟨Same.refl H, fun c h => (List.not_mem_nil h).elim, fun c h => (List.not_mem_nil h).elim, List.nodup_nil, fun c h => (List.not_mem_nil h).elim⟩, fun v H' ⟨ρ, T, F', L', ⟨r, h0, h1, _⟩, _, h3, _⟩ => ?_, fun _ _ _ _ _ z => z.elim⟩
  cases e.symm.trans h0
  cases h1
  exact h3
/-! plain laws about texts' signs -/
theorem signIn_sgn {x : Str} {c : Str} (h : c ∈ sgns x) (z : Str) : ∃ n, c = ⟨#[n]⟩ ∧ n ∈ x.cps.toList ∧ signIn c z = some (decide (n ∈ z.cps.toList)) := by
  unfold sgns at h
  obtain ⟨n, hn, rfl⟩ := List.mem_map.mp h
  exact ⟨n, rfl, hn, rfl⟩
end G

/-! GO: new lists; more built-ins; more walks. -/
namespace G
open PySem PySem.Spec PyProof.Rows L2
open Rp (rep)
abbrev W0 : WX := fun _ _ _ _ => True
/-- an expression that makes a new list -/
abbrev JF (X : Cx) (W : WX) (Γ : Slots) (T : Th) (e : Expr) {B : Type} [Rp B] (xs : List B) : Prop := JX X W Γ T e (fun ρ T' => ∃ p, ρ = Ref p ∧ T' = (p, OL xs) :: T) nox
section
variable {X : Cx} {W : WX} {Γ Γ' : Slots} {T T' Tr : Th} {st : Stmt} {rest sts : List Stmt} {D D' : Po} {e o tg a b c elt iter test : Expr} {es : List Expr} {pos apos pn : Pos} {ρ α β : VR} {x f m : Str} {p C : Addr} {A B : Type} [Rp A] [Rp B] {xs ys zs : List B} {R : VR → Th → Prop} {xr : Value → Th → Prop}
theorem je_jf (h : JF X W0 Γ T e xs) : JE X Γ T e (Dat xs) := fun F σ L Lf H s t o Q k =>
  h F σ L Lf H s t o Q (fun v H' ⟨ρ', T', F', L', ⟨p, h1, h2⟩, e', r, t', o'⟩ => by
    subst h1 h2
    cases t' with
    | @cons _ _ _ L1 L2 a t2 =>
      obtain ⟨vs, hp, rfl⟩ := a
      obtain ⟨o2, e2⟩ := Own.freeze (L := L2 ++ Lf) (by simpa using o')
      exact k _ L2 _ _ (e'.trans e2) (t2.mono e2) o2 ⟨p, vs, r, upd_same, Paired.mono (fun _ _ => Rp.mono e2) hp⟩) fun _ _ _ _ _ z => z.elim
/-- the new list at hand -/
theorem jf_new {F F1 : Hp} {M1 Lf : List Cell} {H1 : Hp} {Q : VK} {vs : List V} (q : ∀ v H', atV (fun ρ T' => ∃ p, ρ = Ref p ∧ T' = (p, OL xs) :: T) F Lf v H' → Q v H') (e : Same F F1) (t : TR F1 T M1) (o : Own F1 (M1 ++ Lf) H1) (h : Paired (rep F1) vs xs) : ∀ p, H1 p = none → Q (.ref p) (upd H1 p (.lst vs)) := fun p hp =>
  q _ _ ⟨Ref p, _, F1, (p, .lst vs) :: M1, ⟨p, rfl, rfl⟩, e, rfl, .cons (L1 := [(p, .lst vs)]) ⟨vs, h, rfl⟩ t, o.born hp⟩
theorem jf_list {xs : List B} (h : JA X Γ T es (xs.map Dat)) (hl : xs.length ≤ sizeLine) : JF X W Γ T (.List es pos) xs := jx_list h hl
theorem jf_listOf {pp : Pos} (hg : Gl X "list") (hm : X.mg "list" = none) (ha : JE X Γ T a ρ) (hr : Rdl X.K T ρ xs) (hs : starEach [a] X.env = (false, eval a X.env) :: starEach [] X.env := by exact star1 rfl) : JF X W Γ T (.Call (.Name "list" pp) [a] [] pos) xs := jx_listOf hg hm ha hr hs
/-! comprehensions -/
theorem jf_lc {ρs : List VR} {os : List (Option B)} {scope : Scope} {ok : Th → Prop} (own : List (Str × Nat)) (hc : X.calm = true) (hN : X.N.Nodup) (bo : BlkOk X.N X.env.scope scope own) {ifs : List Expr} (hI : JI X Γ T tg iter ok ρs) (hok : ok T) (hl : ρs.length = os.length) (hz : os.length ≤ 1000000)
    (turn : ∀ (i : Nat) (ρ : VR) (o : Option B), ρs[i]? = some ρ → os[i]? = some o → ∃ put ws, (∀ w ∈ ws, w ∈ own.map (·.2)) ∧ Blk X scope (fun Y => JG Y tg ρ put ws) ∧ Blk X scope (fun Y => JTs Y (put ((own.map (·.2)).foldr (fun v g => g.set v none) Γ)) T ifs o.isSome) ∧
      ∀ y, o = some y → Blk X scope fun Y => JE Y (put ((own.map (·.2)).foldr (fun v g => g.set v none) Γ)) T elt (Dat y)) (hs : ∀ x, foldedSetIterable iter X.env x = pure x := by exact folded_no rfl) :
    JF X W Γ T (.ListComp elt [⟨tg, iter, ifs, 0⟩] scope pos) (os.filterMap id) := fun F σ L Lf H s t o Q q _ =>
  we_of (pe_lcW hc hN bo hs) (lc_read hI hok hl hz turn s t o fun F' M' H' p us e t' o' pr =>
    q _ _ ⟨Ref p, _, F', (p, .lst us) :: M', ⟨p, rfl, rfl⟩, e, rfl, .cons (L1 := [(p, .lst us)]) ⟨us, pr, rfl⟩ t', o'⟩)
theorem jf_lcM {ys : List B} {A' : Type} {xs : List A'} {m : A' → Option B} {it : A' → VR} {scope : Scope} (own : List (Str × Nat)) (hm : mapB m xs = some ys) (ok : Th → Prop) (hc : X.calm = true) (hN : X.N.Nodup) (bo : BlkOk X.N X.env.scope scope own) (hI : JI X Γ T tg iter ok (xs.map it)) (hok : ok T)
    (turn : ∀ x y, x ∈ xs → m x = some y → ∃ put ws, (∀ w ∈ ws, w ∈ own.map (·.2)) ∧ Blk X scope (fun Y => JG Y tg (it x) put ws) ∧ Blk X scope fun Y => JE Y (put ((own.map (·.2)).foldr (fun v g => g.set v none) Γ)) T elt (Dat y)) (hs : ∀ x, foldedSetIterable iter X.env x = pure x := by exact folded_no rfl) :
    JF X W Γ T (.ListComp elt [⟨tg, iter, [], 0⟩] scope pos) ys := by
  unfold mapB at hm
  split at hm
  · obtain ⟨h1, h2⟩ := mapO_os hm
    have e : ys = (ys.map some).filterMap id := by simp [List.filterMap_map]
    rw [e]
    refine jf_lc (os := ys.map some) own hc hN bo hI hok (by simp [h1]) (by simpa [← h1] using ‹xs.length ≤ 1000000›) (fun i ρ o hρ ho => ?_) hs
    rw [List.getElem?_map] at hρ ho
    cases hx : xs[i]? with
    | none => rw [hx] at hρ; cases hρ
    | some x =>
      cases hy : ys[i]? with
      | none => rw [hy] at ho; cases ho
      | some y =>
        rw [hx] at hρ; rw [hy] at ho
        cases hρ; cases ho
        obtain ⟨put, ws, a1, a2, a3⟩ := turn x y (List.mem_of_getElem? hx) (h2 i x y hx hy)
        exact ⟨put, ws, a1, a2, fun _ _ _ _ _ => jts_nil, fun y' e => by cases e; exact a3⟩
  · cases hm
theorem jf_lcT {ys : List B} {A' : Type} {xs : List A'} {m : A' → Option (Option B)} {it : A' → VR} {scope : Scope} (own : List (Str × Nat)) (hm : lcB m xs = some ys) (ok : Th → Prop) (hc : X.calm = true) (hN : X.N.Nodup) (bo : BlkOk X.N X.env.scope scope own) (hI : JI X Γ T tg iter ok (xs.map it)) (hok : ok T)
    (turn : ∀ x o, x ∈ xs → m x = some o → ∃ put ws, (∀ w ∈ ws, w ∈ own.map (·.2)) ∧ Blk X scope (fun Y => JG Y tg (it x) put ws) ∧ Blk X scope (fun Y => JT Y (put ((own.map (·.2)).foldr (fun v g => g.set v none) Γ)) T test o.isSome) ∧ ∀ y, o = some y → Blk X scope fun Y => JE Y (put ((own.map (·.2)).foldr (fun v g => g.set v none) Γ)) T elt (Dat y)) (hs : ∀ x, foldedSetIterable iter X.env x = pure x := by exact folded_no rfl) :
    JF X W Γ T (.ListComp elt [⟨tg, iter, [test], 0⟩] scope pos) ys := by
  unfold lcB at hm
  split at hm
  · obtain ⟨os, h0, h1, h2⟩ := lcO_os hm
    rw [← h0]
    refine jf_lc (os := os) own hc hN bo hI hok (by simp [h1]) (by simpa [← h1] using ‹xs.length ≤ 1000000›) (fun i ρ o hρ ho => ?_) hs
    rw [List.getElem?_map] at hρ
    cases hx : xs[i]? with
    | none => rw [hx] at hρ; cases hρ
    | some x =>
      rw [hx] at hρ
      cases hρ
      obtain ⟨put, ws, a1, a2, a3, a4⟩ := turn x o (List.mem_of_getElem? hx) (h2 i x o hx ho)
      exact ⟨put, ws, a1, a2, fun s H C cl fp => jts_one (a3 s H C cl fp), a4⟩
  · cases hm
/-! a + b, slices -/
theorem jf_cat (h : extO xs ys = some zs) (ha : JE X Γ T a α) (hr : Rdm T α xs) (hb : JE X Γ T b β) (hr2 : Rdm T β ys) : JF X W Γ T (.BinOp a .Add b pos) zs := fun F σ L Lf H s t o Q q _ => by
  obtain ⟨hl, rfl⟩ := of_when h
  exact we_of (pe_op op_cat we_pe we_pe) (ha F σ L Lf H s t o _ fun F1 M1 H1 u e1 t1 o1 r1 => hb F1 σ M1 Lf H1 (s.mono e1) t1 o1 _ fun F2 M2 H2 v e2 t2 o2 r2 => by
    obtain ⟨p1, us, rfl, h2, h3⟩ := hr F2 M2 Lf H2 u t2 o2 (α.mono e2 r1)
    obtain ⟨p2, vs, rfl, h4, h5⟩ := hr2 F2 M2 Lf H2 v t2 o2 r2
    exact ⟨p1, p2, us, vs, rfl, rfl, h2, h4, by rw [h3.length, h5.length]; exact hl, jf_new q (e1.trans e2) t2 o2 (Paired.append h3 h5)⟩)
theorem jf_sl {lo hi : Option Expr} {l u : Option Int} {p2 : Pos} (ha : JE X Γ T a ρ) (hr : Rdl X.K T ρ xs) (hl : JO X Γ T lo l) (hu : JO X Γ T hi u) : JF X W Γ T (.Subscript a (.Slice lo hi none p2) pos) (cutL xs l u) := fun F σ L Lf H s t o Q k _ =>
  we_of (pe_slice sl_list we_pe wo_po wo_po) (ha F σ L Lf H s t o _ fun F1 M1 H1 x e1 t1 o1 rx => hl.go (s.mono e1) t1 o1 fun F2 M2 H2 e2 t2 o2 => hu.go ((s.mono e1).mono e2) t2 o2 fun F3 M3 H3 e3 t3 o3 => by
    obtain ⟨p, vs, h1, h2, h3⟩ := hr F3 M3 Lf H3 x t3 o3 (ρ.mono e3 (ρ.mono e2 rx))
    exact ⟨p, vs, h1, h2, jf_new k ((e1.trans e2).trans e3) t3 o3 (Paired.cut h3 l u)⟩)
/-! sorted -/
theorem ints_eq {F : Hp} : ∀ {ws : List V} {ns : List Int}, Paired (rep F) ws ns → ws = ns.map V.int
  | _, _, .nil => rfl
  | _, _, .cons h t => by rw [List.map_cons, ← ints_eq t]; cases (show _ = V.int _ from h); rfl
theorem strs_eq {F : Hp} : ∀ {ws : List V} {ns : List Str}, Paired (rep F) ws ns → ws = ns.map V.str
  | _, _, .nil => rfl
  | _, _, .cons h t => by rw [List.map_cons, ← strs_eq t]; cases (show _ = V.str _ from h); rfl
theorem bls_eq {F : Hp} : ∀ {ws : List V} {ns : List Bool}, Paired (rep F) ws ns → ws = ns.map V.bl
  | _, _, .nil => rfl
  | _, _, .cons h t => by rw [List.map_cons, ← bls_eq t]; cases (show _ = V.bl _ from h); rfl
def sortI (ns : List Int) : List Int := ns.mergeSort fun a b => decide (a ≤ b)
theorem sortI_perm (ns : List Int) : (sortI ns).Perm ns := List.mergeSort_perm ..
theorem sortI_le (ns : List Int) : (sortI ns).Pairwise (· ≤ ·) := by
  have h := List.pairwise_mergeSort (le := fun a b : Int => decide (a ≤ b)) (fun a b c h1 h2 => by simp only [decide_eq_true_eq] at *; omega) (fun a b => by simp only [Bool.or_eq_true, decide_eq_true_eq]; omega) ns
  exact h.imp fun h => of_decide_eq_true h
theorem sorted_one : ∀ {xs ys : List Int}, xs.Perm ys → xs.Pairwise (· ≤ ·) → ys.Pairwise (· ≤ ·) → xs = ys
  | [], ys, h, _, _ => h.nil_eq
  | x :: xs, [], h, _, _ => by have := h.length_eq; simp at this
  | x :: xs, y :: ys, h, h1, h2 => by
    have e : x = y := by
      have a1 := h.mem_iff.mp (List.mem_cons_self (a := x) (l := xs))
      have a2 := h.mem_iff.mpr (List.mem_cons_self (a := y) (l := ys))
      rw [List.pairwise_cons] at h1 h2
      rcases List.mem_cons.mp a1 with e | m1
      · exact e
      · rcases List.mem_cons.mp a2 with e | m2
        · exact e.symm
        · have := h2.1 x m1; have := h1.1 y m2; omega
    subst e
    rw [sorted_one (List.Perm.cons_inv h) (List.pairwise_cons.mp h1).2 (List.pairwise_cons.mp h2).2]
theorem jf_sorted {ns : List Int} {pp : Pos} (hg : Gl X "sorted") (hm : X.mg "sorted" = none) (ha : JE X Γ T a ρ) (hr : Rdl X.K T ρ ns) (hs : starEach [a] X.env = (false, eval a X.env) :: starEach [] X.env := by exact star1 rfl) : JF X W Γ T (.Call (.Name "sorted" pp) [a] [] pos) (sortI ns) := fun F σ L Lf H s t o Q q _ =>
  we_of (pe_callB cr_sortedI hg hm (by decide +kernel) wa_pa (by decide) (by decide) hs (by rfl)) (ja_cons ha ja_nil hs F σ L Lf H s t o _ fun F1 M1 H1 vs e1 t1 o1 rs => by
    obtain ⟨x, rfl, rx⟩ := vrs1 rs
    obtain ⟨p, ws, rfl, h2, h3⟩ := hr F1 M1 Lf H1 x t1 o1 rx
    have hw := ints_eq h3
    refine ⟨p, ns, rfl, hw ▸ h2, fun ns' q' hp hs' => ?_⟩
    rw [sorted_one (hp.trans (sortI_perm ns).symm) hs' (sortI_le ns)]
    exact jf_new q e1 t1 o1 (paired_ints _) q')
end
end G
namespace G
open PySem PySem.Spec PyProof.Rows L2
open Rp (rep)
theorem units_of5 {A : Around} {k : Nat} (h : Room k A) : A.units + 65 < cLine := by have := h.un; omega
/-! ### in, index: by equality of data -/
class NoN (A : Type) [Rp A] [Dpv A] : Prop where
  nn : ∀ a : A, Dpv.toD a ≠ PyData.none
instance : NoN Int := ⟨fun _ h => nomatch h⟩
instance : NoN Bool := ⟨fun _ h => nomatch h⟩
instance : NoN Str := ⟨fun _ h => nomatch h⟩
instance {A : Type} [Rp A] [Dpv A] : NoN (List A) := ⟨fun _ h => nomatch h⟩
instance {A B : Type} [Rp A] [Rp B] [Dpv A] [Dpv B] : NoN (A × B) := ⟨fun _ h => nomatch h⟩
instance {A B C : Type} [Rp A] [Rp B] [Rp C] [Dpv A] [Dpv B] [Dpv C] : NoN (T3 A B C) := ⟨fun _ h => nomatch h⟩
def optD {A : Type} [Rp A] [Dpv A] : Option A → PyData | none => .none | some a => Dpv.toD a
def optOk {A : Type} [Rp A] [Dpv A] : Option A → Bool | none => true | some a => Dpv.lok a
instance instDpvOpt {A : Type} [Rp A] [Dpv A] [NoN A] : Dpv (Option A) where
  toD := optD
  dep := Dpv.dep A
  lok := optOk
  dp := fun {K F H v a} e h => by
    cases a with
    | none => cases (show v = .non from h); exact .non
    | some a => exact Dpv.dp e h
  eq := fun a b => by
    cases a with
    | none =>
      cases b with
      | none => simp [optD, PyData.eqv]
      | some y =>
        have := NoN.nn y
        show PyData.eqv .none (Dpv.toD y) = true ↔ _
        revert this
        generalize Dpv.toD y = d
        intro hd
        cases d <;> simp [PyData.eqv] at hd ⊢
    | some x =>
      cases b with
      | none =>
        have := NoN.nn x
        show PyData.eqv (Dpv.toD x) .none = true ↔ _
        revert this
        generalize Dpv.toD x = d
        intro hd
        cases d <;> simp [PyData.eqv] at hd ⊢
      | some y =>
        show PyData.eqv (Dpv.toD x) (Dpv.toD y) = true ↔ _
        rw [Dpv.eq]
        exact ⟨fun h => by rw [h], fun h => Option.some.inj h⟩
  lay := fun a h => by
    cases a with
    | none => simp [optD, PyData.canLay0]
    | some x => exact Dpv.lay x h
  low := fun a => by
    cases a with
    | none => simp [optD, PyData.depth]
    | some x => exact Dpv.low x
instance {A : Type} [Rp A] [DpvT A] [NoN A] : DpvT (Option A) where
  toDpv := instDpvOpt
  all := fun x => by cases x with | none => rfl | some x => exact DpvT.all x
section
variable {X : Cx} {W : WX} {Γ Γ' : Slots} {T T' Tr : Th} {rest sts : List Stmt} {D D' : Po} {e o tg a b c : Expr} {es : List Expr} {pos apos pn : Pos} {ρ α β : VR} {p : Addr} {A B : Type} [Rp A] [Dpv A] [DecidableEq A] {x y : A} {xs ys : List A}
theorem any_eqv (x : A) : ∀ ys : List A, ((ys.map Dpv.toD).any fun z => PyData.eqv z (Dpv.toD x)) = decide (x ∈ ys)
  | [] => rfl
  | y :: ys => by
    rw [List.map_cons, List.any_cons, any_eqv x ys, eqv_dec]
    by_cases h : y = x
    · subst h; simp
    · have h2 : ¬ x = y := fun z => h z.symm
      simp [h, h2]
def inO (x : A) (ys : List A) : Option Bool := when (Dpv.lok x = true ∧ ys.all Dpv.lok = true) (decide (x ∈ ys))
theorem dpl {v : V} {K : PySem.W.Frag} {H : Hp} (h : Dp K H v (Dpv.toD ys)) : Dp K H v (.list (ys.map Dpv.toD)) := h
theorem jc_inO {k : Bool} (h : inO x ys = some k) (hu : X.A.units + 65 < cLine) (ha : JE X Γ T a α) (hx : RdD X.K T α x) (hb : JE X Γ T b β) (hy : RdD X.K T β ys) (hd : Dpv.dep A + 1 ≤ 64 := by decide) : JC X Γ T .In a b (Dat k) := by
  obtain ⟨⟨h1, h2⟩, rfl⟩ := of_when h
  exact jc_op (op_inD hu) (fun F L Lf H u v Q t o ru rv k => ⟨_, _, hx F L Lf H u t o ru, dpl (hy F L Lf H v t o rv), shaped_of (by omega) h1, shaped_of (A := List A) hd h2, k F L H _ (Same.refl F) t o (by show V.bl _ = V.bl _; rw [any_eqv])⟩) ha hb
theorem jc_niO {k : Bool} (h : inO x ys = some k) (hu : X.A.units + 65 < cLine) (ha : JE X Γ T a α) (hx : RdD X.K T α x) (hb : JE X Γ T b β) (hy : RdD X.K T β ys) (hd : Dpv.dep A + 1 ≤ 64 := by decide) : JC X Γ T .NotIn a b (Dat (!k)) := by
  obtain ⟨⟨h1, h2⟩, rfl⟩ := of_when h
  exact jc_op (op_notInD hu) (fun F L Lf H u v Q t o ru rv k => ⟨_, _, hx F L Lf H u t o ru, dpl (hy F L Lf H v t o rv), shaped_of (by omega) h1, shaped_of (A := List A) hd h2, k F L H _ (Same.refl F) t o (by show V.bl _ = V.bl _; rw [any_eqv])⟩) ha hb
def ixOf (xs : List A) (x : A) : Nat := xs.findIdx fun y => decide (y = x)
def indexO (xs : List A) (x : A) : Option Int := when (Dpv.lok x = true ∧ xs.all Dpv.lok = true ∧ x ∈ xs) (ixOf xs x : Int)
theorem je_indexO {i : Int} (h : indexO xs x = some i) (hu : X.A.units + 65 < cLine) (ho : JE X Γ T o α) (hr : Rdl X.K T α xs) (hx : RdD X.K T α xs) (he : JE X Γ T e β) (hy : RdD X.K T β x) (hd : Dpv.dep A + 1 ≤ 64 := by decide) (hs : starEach [e] X.env = (false, eval e X.env) :: starEach [] X.env := by exact star1 rfl)
    (hp : ∀ {to : TE} {t : TA}, PE X o to → PA X [e] t → PE X (.Call (.Attribute o "index" apos) [e] [] pos) (tBM X.K "list" (rIndexD X.K) to t) := by exact fun h h' => pe_bm PySem.F.plainAttrs_list PySem.F.slot_list_index PySem.F.type_list_index (mt_indexD (units_of5 ‹_›)) h h') :
    JE X Γ T (.Call (.Attribute o "index" apos) [e] [] pos) (Dat i) := fun F σ L Lf H s t ow Q q => by
  obtain ⟨⟨h1, h2, h3⟩, rfl⟩ := of_when h
  refine we_of (hp we_pe wa_pa) (ho F σ L Lf H s t ow _ fun F1 M1 H1 v e1 t1 o1 r1 => ?_)
  obtain ⟨l, vs, rfl, hq, hv⟩ := hr F1 M1 Lf H1 v t1 o1 r1
  refine ⟨.inl ⟨rfl, vs, hq⟩, ja_cons he ja_nil hs F1 σ M1 Lf H1 (s.mono e1) t1 o1 _ fun F2 M2 H2 us e2 t2 o2 rs => ?_⟩
  obtain ⟨u, rfl, ru⟩ := vrs1 rs
  have hlt : ixOf xs x < xs.length := List.findIdx_lt_length_of_exists ⟨x, h3, by simp⟩
  have hat : xs[ixOf xs x] = x := by
    have := List.findIdx_getElem (xs := xs) (p := fun y => decide (y = x)) (w := hlt)
    exact of_decide_eq_true this
  refine ⟨l, u, Dpv.toD x, xs.map Dpv.toD, ixOf xs x, Dpv.toD x, rfl, rfl, dpl (hx F2 M2 Lf H2 (.ref l) t2 o2 (α.mono e2 r1)), hy F2 M2 Lf H2 u t2 o2 ru, shaped_of (A := List A) hd h2, shaped_of (by omega) h1, ?_, ?_, fun m z hm hz => ?_, q F2 M2 H2 _ (e1.trans e2) t2 o2 rfl⟩
  · rw [List.getElem?_map, List.getElem?_eq_getElem hlt, hat]; rfl
  · rw [eqv_dec]; simp
  · rw [List.getElem?_map] at hz
    have hml : m < xs.length := by omega
    rw [List.getElem?_eq_getElem hml] at hz
    cases hz
    have := List.not_of_lt_findIdx (p := fun y => decide (y = x)) (xs := xs) hm
    rw [eqv_dec]
    simpa using this
end
/-! ### texts -/
instance (x : Str) (n : Int) : Decidable (MulOk x n) := inferInstanceAs (Decidable (_ ∧ _ ∧ _))
def mulS (x : Str) (n : Int) : Option Str := when (MulOk x n) (Txt.mul x n)
theorem op_mulS {X : Cx} : OpR X (binaryOp .Mult) (fun x y H Q => ∃ a i, x = .str a ∧ y = .int i ∧ MulOk a i ∧ Q (.str (Txt.mul a i)) H) := by
  intro pins s σ H x y v u Q I rx ry h
  obtain ⟨i, j, rfl, rfl, hz, q⟩ := h
  obtain ⟨t, rfl⟩ := rx
  obtain ⟨t', rfl⟩ := ry
  exact SB.mul hz (fun t' tk => ⟨.str _, H, I.tok _, ⟨_, rfl⟩, q⟩)
def splitO (x y : Str) : Option (List Str) := when ((y.length == 0) = false ∧ x.length + 2 ≤ sizeLine) (Txt.split x y)
def wordsO (x : Str) : Option (List Str) := when (x.length + 2 ≤ sizeLine) (Txt.words x)
def joinO (x : Str) (ys : List Str) : Option Str := when ((ys.map (·.length)).sum + ys.length * x.length ≤ 16777216) (Txt.join x ys)
def upperO (x : Str) : Option Str := when (x.length ≤ 5592405) (Txt.upper x)
section
variable {X : Cx} {W : WX} {Γ Γ' : Slots} {T T' Tr : Th} {rest sts : List Stmt} {D D' : Po} {e o tg a b c : Expr} {es : List Expr} {pos apos pn : Pos} {ρ α β : VR} {p : Addr} {x y z : Str} {ys : List Str}
theorem je_mulS {i : Int} (h : mulS x i = some z) (ha : JE X Γ T a (Dat x)) (hb : JE X Γ T b (Dat i)) : JE X Γ T (.BinOp a .Mult b pos) (Dat z) := by
  obtain ⟨h1, rfl⟩ := of_when h
  exact je_bin op_mulS (fun F L Lf H u v Q t o rx ry k => ⟨x, i, rx, ry, h1, k F L H _ (Same.refl F) t o rfl⟩) ha hb
theorem jf_split (h : splitO x y = some ys) (ho : JE X Γ T o (Dat x)) (he : JE X Γ T e (Dat y)) (hp : ∀ {to te : TE}, PE X o to → PE X e te → PE X (.Call (.Attribute o "split" apos) [e] [] pos) (tM1 (fun x xs H Q => ∃ a b, x = .str a ∧ xs = [.str b] ∧ (b.length == 0) = false ∧ a.length + 2 ≤ sizeLine ∧ rNewStrs (Txt.split a b) H Q) to te) := by exact fun h h' => pe_split h h' (star1n rfl)) :
    JF X W Γ T (.Call (.Attribute o "split" apos) [e] [] pos) ys := fun F σ L Lf H s t ow Q q _ => by
  obtain ⟨⟨h1, h2⟩, rfl⟩ := of_when h
  exact we_of (hp we_pe we_pe) (ho F σ L Lf H s t ow _ fun F1 M1 H1 v e1 t1 o1 r1 => ⟨⟨x, r1⟩, he F1 σ M1 Lf H1 (s.mono e1) t1 o1 _ fun F2 M2 H2 u e2 t2 o2 r2 => ⟨x, y, r1, by rw [show u = .str y from r2], h1, h2, jf_new q (e1.trans e2) t2 o2 (paired_strs _)⟩⟩)
theorem jf_words (h : wordsO x = some ys) (ho : JE X Γ T o (Dat x)) (hp : ∀ {to : TE}, PE X o to → PE X (.Call (.Attribute o "split" apos) [] [] pos) (tM0 (fun x xs H Q => ∃ a, x = .str a ∧ xs = [] ∧ a.length + 2 ≤ sizeLine ∧ rNewStrs (Txt.words a) H Q) to) := by exact fun h => pe_words h) :
    JF X W Γ T (.Call (.Attribute o "split" apos) [] [] pos) ys := fun F σ L Lf H s t ow Q q _ => by
  obtain ⟨h1, rfl⟩ := of_when h
  exact we_of (hp we_pe) (ho F σ L Lf H s t ow _ fun F1 M1 H1 v e1 t1 o1 r1 => ⟨⟨x, r1⟩, ⟨x, r1, rfl, h1, jf_new q e1 t1 o1 (paired_strs _)⟩⟩)
theorem je_join (h : joinO x ys = some z) (ho : JE X Γ T o (Dat x)) (he : JE X Γ T e α) (hr : Rdl X.K T α ys) (hp : ∀ {to te : TE}, PE X o to → PE X e te → PE X (.Call (.Attribute o "join" apos) [e] [] pos) (tM1 (fun x xs H Q => ∃ a p, ∃ ys : List Str, x = .str a ∧ xs = [.ref p] ∧ (SqL X.K H p (ys.map V.str) ∨ SqT X.K H p (ys.map V.str)) ∧
      (ys.map (·.length)).sum + ys.length * a.length ≤ 16777216 ∧ Q (.str (Txt.join a ys)) H) to te) := by exact fun h h' => pe_join h h' (star1n rfl)) :
    JE X Γ T (.Call (.Attribute o "join" apos) [e] [] pos) (Dat z) := fun F σ L Lf H s t ow Q q => by
  obtain ⟨h1, rfl⟩ := of_when h
  exact we_of (hp we_pe we_pe) (ho F σ L Lf H s t ow _ fun F1 M1 H1 v e1 t1 o1 r1 => ⟨⟨x, r1⟩, he F1 σ M1 Lf H1 (s.mono e1) t1 o1 _ fun F2 M2 H2 u e2 t2 o2 r2 => by
    obtain ⟨l, vs, rfl, hq, hv⟩ := hr F2 M2 Lf H2 u t2 o2 r2
    rw [strs_eq hv] at hq
    exact ⟨x, l, ys, r1, rfl, .inl hq, h1, q F2 M2 H2 _ (e1.trans e2) t2 o2 rfl⟩⟩)
theorem je_upper (h : upperO x = some z) (ho : JE X Γ T o (Dat x)) (hp : ∀ {to : TE}, PE X o to → PE X (.Call (.Attribute o "upper" apos) [] [] pos) (tM0 (fun x xs H Q => ∃ a, x = .str a ∧ xs = [] ∧ a.length ≤ 5592405 ∧ Q (.str (Txt.upper a)) H) to) := by exact fun h => pe_upper h) :
    JE X Γ T (.Call (.Attribute o "upper" apos) [] [] pos) (Dat z) := fun F σ L Lf H s t ow Q q => by
  obtain ⟨h1, rfl⟩ := of_when h
  exact we_of (hp we_pe) (ho F σ L Lf H s t ow _ fun F1 M1 H1 v e1 t1 o1 r1 => ⟨⟨x, r1⟩, ⟨x, r1, rfl, h1, q F1 M1 H1 _ e1 t1 o1 rfl⟩⟩)
theorem je_find (ho : JE X Γ T o (Dat x)) (he : JE X Γ T e (Dat y)) (hp : ∀ {to te : TE}, PE X o to → PE X e te → PE X (.Call (.Attribute o "find" apos) [e] [] pos) (tM1 (fun x xs H Q => ∃ a b, x = .str a ∧ xs = [.str b] ∧ Q (.int (Txt.find a b)) H) to te) := by exact fun h h' => pe_m1 PySem.F.slot_str_find PySem.F.type_str_find mt_find h h' (star1n rfl)) :
    JE X Γ T (.Call (.Attribute o "find" apos) [e] [] pos) (Dat (Txt.find x y)) := fun F σ L Lf H s t ow Q q =>
  we_of (hp we_pe we_pe) (ho F σ L Lf H s t ow _ fun F1 M1 H1 v e1 t1 o1 r1 => ⟨⟨x, r1⟩, he F1 σ M1 Lf H1 (s.mono e1) t1 o1 _ fun F2 M2 H2 u e2 t2 o2 r2 => ⟨x, y, r1, by rw [show u = .str y from r2], q F2 M2 H2 _ (e1.trans e2) t2 o2 rfl⟩⟩)
theorem je_startswith (ho : JE X Γ T o (Dat x)) (he : JE X Γ T e (Dat y)) (hp : ∀ {to te : TE}, PE X o to → PE X e te → PE X (.Call (.Attribute o "startswith" apos) [e] [] pos) (tM1 (fun x xs H Q => ∃ a b, x = .str a ∧ xs = [.str b] ∧ Q (.bl (Txt.startswith a b)) H) to te) := by exact fun h h' => pe_m1 PySem.F.slot_str_startswith PySem.F.type_str_startswith mt_startswith h h' (star1n rfl)) :
    JE X Γ T (.Call (.Attribute o "startswith" apos) [e] [] pos) (Dat (Txt.startswith x y)) := fun F σ L Lf H s t ow Q q =>
  we_of (hp we_pe we_pe) (ho F σ L Lf H s t ow _ fun F1 M1 H1 v e1 t1 o1 r1 => ⟨⟨x, r1⟩, he F1 σ M1 Lf H1 (s.mono e1) t1 o1 _ fun F2 M2 H2 u e2 t2 o2 r2 => ⟨x, y, r1, by rw [show u = .str y from r2], q F2 M2 H2 _ (e1.trans e2) t2 o2 rfl⟩⟩)
/-- x.bit_length() -/
theorem je_bits {i : Int} (ho : JE X Γ T o (Dat i)) (hp : ∀ {to : TE}, PE X o to → PE X (.Call (.Attribute o "bit_length" apos) [] [] pos) (tBits to) := by exact fun h => pe_bits h) : JE X Γ T (.Call (.Attribute o "bit_length" apos) [] [] pos) (Dat (Builtin.Int.intBits i : Int)) := fun F σ L Lf H s t ow Q q =>
  we_of (hp we_pe) (ho F σ L Lf H s t ow _ fun F1 M1 H1 v e1 t1 o1 r1 => ⟨i, r1, q F1 M1 H1 _ e1 t1 o1 rfl⟩)
/-! sum, max, min, all -/
theorem je_sum {ns : List Int} {pp : Pos} (hc : X.calm = true) (hg : Gl X "sum") (hm : X.mg "sum" = none) (ha : JE X Γ T a ρ) (hr : Rdl X.K T ρ ns) (hs : starEach [a] X.env = (false, eval a X.env) :: starEach [] X.env := by exact star1 rfl) : JE X Γ T (.Call (.Name "sum" pp) [a] [] pos) (Dat ns.sum) :=
  je_ca (pe_callB (cr_sum hc) hg hm (by decide +kernel) wa_pa (by decide) (by decide) hs (by rfl)) (ja_cons ha ja_nil hs) fun F L Lf H vs Q t o rs k => by
    obtain ⟨x, rfl, rx⟩ := vrs1 rs
    obtain ⟨p, ws, rfl, h2, h3⟩ := hr F L Lf H x t o rx
    rw [ints_eq h3] at h2
    exact ⟨p, ns, rfl, h2, k F L H _ (Same.refl F) t o rfl⟩
def maxO (ns : List Int) : Option Int := ns.max?
def minO (ns : List Int) : Option Int := ns.min?
theorem je_maxL {ns : List Int} {m : Int} {pp : Pos} (h : maxO ns = some m) (hc : X.calm = true) (hg : Gl X "max") (hm : X.mg "max" = none) (ha : JE X Γ T a ρ) (hr : Rdl X.K T ρ ns) (hs : starEach [a] X.env = (false, eval a X.env) :: starEach [] X.env := by exact star1 rfl) : JE X Γ T (.Call (.Name "max" pp) [a] [] pos) (Dat m) :=
  je_ca (pe_callB (cr_max hc) hg hm (by decide +kernel) wa_pa (by decide) (by decide) hs (by rfl)) (ja_cons ha ja_nil hs) fun F L Lf H vs Q t o rs k => by
    obtain ⟨x, rfl, rx⟩ := vrs1 rs
    obtain ⟨p, ws, rfl, h2, h3⟩ := hr F L Lf H x t o rx
    rw [ints_eq h3] at h2
    obtain ⟨h4, h5⟩ := List.max?_eq_some_iff.mp h
    refine ⟨p, ns, rfl, h2, List.length_pos_of_mem h4, fun m' a1 a2 => ?_⟩
    have e : m' = m := by have := h5 m' a1; have := a2 m h4; omega
    subst e
    exact k F L H _ (Same.refl F) t o rfl
theorem je_minL {ns : List Int} {m : Int} {pp : Pos} (h : minO ns = some m) (hc : X.calm = true) (hg : Gl X "min") (hm : X.mg "min" = none) (ha : JE X Γ T a ρ) (hr : Rdl X.K T ρ ns) (hs : starEach [a] X.env = (false, eval a X.env) :: starEach [] X.env := by exact star1 rfl) : JE X Γ T (.Call (.Name "min" pp) [a] [] pos) (Dat m) :=
  je_ca (pe_callB (cr_min hc) hg hm (by decide +kernel) wa_pa (by decide) (by decide) hs (by rfl)) (ja_cons ha ja_nil hs) fun F L Lf H vs Q t o rs k => by
    obtain ⟨x, rfl, rx⟩ := vrs1 rs
    obtain ⟨p, ws, rfl, h2, h3⟩ := hr F L Lf H x t o rx
    rw [ints_eq h3] at h2
    obtain ⟨h4, h5⟩ := List.min?_eq_some_iff.mp h
    refine ⟨p, ns, rfl, h2, List.length_pos_of_mem h4, fun m' a1 a2 => ?_⟩
    have e : m' = m := by have := h5 m' a1; have := a2 m h4; omega
    subst e
    exact k F L H _ (Same.refl F) t o rfl
theorem je_all {ns : List Bool} {pp : Pos} (hc : X.calm = true) (hg : Gl X "all") (hm : X.mg "all" = none) (ha : JE X Γ T a ρ) (hr : Rdl X.K T ρ ns) (hs : starEach [a] X.env = (false, eval a X.env) :: starEach [] X.env := by exact star1 rfl) : JE X Γ T (.Call (.Name "all" pp) [a] [] pos) (Dat (ns.all id)) :=
  je_ca (pe_callB (cr_all hc) hg hm (by decide +kernel) wa_pa (by decide) (by decide) hs (by rfl)) (ja_cons ha ja_nil hs) fun F L Lf H vs Q t o rs k => by
    obtain ⟨x, rfl, rx⟩ := vrs1 rs
    obtain ⟨p, ws, rfl, h2, h3⟩ := hr F L Lf H x t o rx
    rw [bls_eq h3] at h2
    exact ⟨p, ns, rfl, h2, k F L H _ (Same.refl F) t o rfl⟩
end
end G

/-! GR: more that is walked; dicts that are walked. -/
namespace G
open PySem PySem.Spec PyProof.Rows L2
open Rp (rep)
def enumI {A : Type} (xs : List A) : List (Int × A) := xs.zipIdx.map fun q => ((q.2 : Int), q.1)
section
variable {X : Cx} {W : WX} {Γ Γ' : Slots} {T T' Tr : Th} {st : Stmt} {rest sts : List Stmt} {D D' : Po} {e o i tg iter a b c : Expr} {es elts : List Expr} {pos pos' apos pn tpos p : Pos} {ρ α β : VR} {A B : Type} [Rp A] [Rp B] {xs : List A} {ys : List B}
theorem own_ice2 {F : Hp} {M : List Cell} {H : Hp} {p : Addr} {o : HO} (h : Own F M H) (hp : H p = none) : Same F (upd F p o) ∧ Own (upd F p o) M (upd H p o) ∧ upd F p o p = some o := own_ice h hp
theorem ji_enum {kk : Nat} (ok : Th → Prop) (hg : Gl X "enumerate") (hm : X.mg "enumerate" = none) (h : JE X Γ T iter ρ) (hr : ∀ T', (T' = T ∨ ok T') → Rdl X.K T' ρ xs) (hs : starEach [iter] X.env = [(false, eval iter X.env)] := by exact star1n rfl) (hs' : starEach [iter] X.env = (false, eval iter X.env) :: starEach [] X.env := by exact star1 rfl) :
    JI X Γ T (.Tuple elts kk tpos) (.Call (.Name "enumerate" p) [iter] [] pos) ok ((enumI xs).map Dat) := fun F σ L Lf H s t o R k =>
  ⟨_, pi_enum hg hm wa_pa hs, ja_cons h ja_nil hs' F σ L Lf H s t o _ fun F1 M1 H1 vs e1 t1 o1 rs => by
    obtain ⟨v, rfl, r⟩ := vrs1 rs
    obtain ⟨q, us, rfl, h2, h3⟩ := hr T (.inl rfl) F1 M1 Lf H1 v t1 o1 r
    refine ⟨q, us, rfl, h2, k _ F1 M1 H1 e1 t1 o1 fun T' hT' F2 L2 Lf2 H2 i e2 t2 o2 => ?_⟩
    obtain ⟨q', vs', h1', h2', h3'⟩ := hr T' (.inr hT') F2 L2 Lf2 H2 _ t2 o2 (ρ.mono e2 r)
    cases h1'
    have hlen : ((enumI xs).map (Dat : Int × A → VR)).length = xs.length := by simp [enumI]
    refine ⟨fun hl => ⟨vs', h2', by rw [h3'.length, ← hlen]; exact hl⟩, fun ρ' hρ => ?_⟩
    have hi : i < xs.length := by rw [← hlen]; exact (List.getElem?_eq_some_iff.mp hρ).1
    have hx : xs[i]? = some xs[i] := List.getElem?_eq_getElem hi
    rw [List.getElem?_map, show (enumI xs)[i]? = some ((i : Int), xs[i]) by simp [enumI, List.getElem?_zipIdx, hx]] at hρ
    cases hρ
    obtain ⟨w, h4, h5⟩ := Paired.get h3' hx
    refine ⟨⟨vs', w, h2', h4⟩, fun y H' ⟨tq, x, a1, a2, a3, a4⟩ => ?_⟩
    subst a1 a3
    obtain ⟨e3, o3, e4⟩ := own_ice (o := .tup [.int (i : Nat), x]) o2 a2
    have := a4 vs' h2'
    rw [h4] at this
    cases this
    exact ⟨_, e3, o3, tq, _, _, rfl, e4, rfl, Rp.mono e3 h5⟩⟩
theorem ji_zip {kk : Nat} (ok : Th → Prop) (hg : Gl X "zip") (hm : X.mg "zip" = none) (ha : JE X Γ T a α) (hr : ∀ T', (T' = T ∨ ok T') → Rdl X.K T' α xs) (hb : JE X Γ T b β) (hr2 : ∀ T', (T' = T ∨ ok T') → Rdl X.K T' β ys) (hs : starEach [a, b] X.env = (false, eval a X.env) :: starEach [b] X.env := by exact star1 rfl) (hs' : starEach [b] X.env = (false, eval b X.env) :: starEach [] X.env := by exact star1 rfl) (hpl : (backTo pos (starEach [b] X.env)).any (·.1) = false := by exact backTo_any (stars rfl)) :
    JI X Γ T (.Tuple elts kk tpos) (.Call (.Name "zip" p) [a, b] [] pos) ok ((xs.zip ys).map Dat) := fun F σ L Lf H s t o R k =>
  ⟨_, pi_zip hg hm wa_pa hs hpl, ja_cons ha (ja_cons hb ja_nil hs') hs F σ L Lf H s t o _ fun F1 M1 H1 vs e1 t1 o1 rs => by
    obtain ⟨v, v2, rfl, r, r2⟩ := vrs2 rs
    obtain ⟨q, us, rfl, h2, h3⟩ := hr T (.inl rfl) F1 M1 Lf H1 v t1 o1 r
    obtain ⟨q2, us2, rfl, j2, j3⟩ := hr2 T (.inl rfl) F1 M1 Lf H1 v2 t1 o1 r2
    refine ⟨q, q2, us, us2, rfl, h2, j2, k _ F1 M1 H1 e1 t1 o1 fun T' hT' F2 L2 Lf2 H2 i e2 t2 o2 => ?_⟩
    obtain ⟨q', vs', h1', h2', h3'⟩ := hr T' (.inr hT') F2 L2 Lf2 H2 _ t2 o2 (α.mono e2 r)
    obtain ⟨q2', ws', j1', j2', j3'⟩ := hr2 T' (.inr hT') F2 L2 Lf2 H2 _ t2 o2 (β.mono e2 r2)
    cases h1'
    cases j1'
    refine ⟨fun hl => ⟨vs', ws', h2', j2', ?_⟩, fun ρ' hρ => ?_⟩
    · rw [h3'.length, j3'.length]
      rw [List.length_map, List.length_zip] at hl
      omega
    have hi : i < (xs.zip ys).length := by
      have := (List.getElem?_eq_some_iff.mp hρ).1
      rwa [List.length_map] at this
    have hi2 := hi
    rw [List.length_zip] at hi2
    have hx : xs[i]? = some xs[i] := List.getElem?_eq_getElem (by omega)
    have hy : ys[i]? = some ys[i] := List.getElem?_eq_getElem (by omega)
    rw [List.getElem?_map, List.getElem?_eq_getElem hi, List.getElem_zip] at hρ
    cases hρ
    obtain ⟨w, h4, h5⟩ := Paired.get h3' hx
    obtain ⟨w2, i4, i5⟩ := Paired.get j3' hy
    refine ⟨⟨vs', ws', w, w2, h2', j2', h4, i4⟩, fun z H' ⟨tq, x, y, a1, a2, a3, a4, a5⟩ => ?_⟩
    subst a1 a3
    obtain ⟨e3, o3, e4⟩ := own_ice (o := .tup [x, y]) o2 a2
    have h6 := a4 vs' h2'
    rw [h4] at h6
    cases h6
    have h7 := a5 ws' j2'
    rw [i4] at h7
    cases h7
    exact ⟨_, e3, o3, tq, _, _, rfl, e4, Rp.mono e3 h5, Rp.mono e3 i5⟩⟩
/-- reversed(xs) -/
theorem ji_rev (ok : Th → Prop) (hg : Gl X "reversed") (hm : X.mg "reversed" = none) (h : JE X Γ T iter ρ) (hr : ∀ T', (T' = T ∨ ok T') → Rdl X.K T' ρ xs) (hs : starEach [iter] X.env = (false, eval iter X.env) :: starEach [] X.env := by exact star1 rfl) :
    JI X Γ T tg (.Call (.Name "reversed" p) [iter] [] pos) ok (xs.reverse.map Dat) := fun F σ L Lf H s t o R k =>
  ⟨_, RT.pi_revA hg hm we_pe hs, h F σ L Lf H s t o _ fun F1 M1 H1 v e1 t1 o1 r => by
    obtain ⟨q, us, rfl, h2, h3⟩ := hr T (.inl rfl) F1 M1 Lf H1 v t1 o1 r
    have hul := h3.length
    refine ⟨q, us, rfl, .inl ⟨h2, k _ F1 M1 H1 e1 t1 o1 fun T' hT' F2 L2 Lf2 H2 i e2 t2 o2 => ?_⟩⟩
    obtain ⟨q', vs', h1', h2', h3'⟩ := hr T' (.inr hT') F2 L2 Lf2 H2 _ t2 o2 (ρ.mono e2 r)
    cases h1'
    refine ⟨fun hl => ?_, fun ρ' hρ => ?_⟩
    · rw [List.length_map, List.length_reverse] at hl
      show us.length ≤ i
      omega
    have hi : i < xs.length := by
      have := (List.getElem?_eq_some_iff.mp hρ).1
      rwa [List.length_map, List.length_reverse] at this
    have hx : xs[xs.length - 1 - i]? = some xs[xs.length - 1 - i] := List.getElem?_eq_getElem (by omega)
    rw [List.getElem?_map, List.getElem?_reverse hi, hx] at hρ
    cases hρ
    obtain ⟨w, h4, h5⟩ := Paired.get h3' hx
    rw [← hul] at h4
    exact ⟨⟨by omega, vs', w, h2', h4⟩, fun y H' ⟨a1, a2⟩ => ⟨F2, Same.refl _, by rw [a1]; exact o2, by
      have := a2 vs' h2'
      rw [h4] at this
      cases this
      exact h5⟩⟩⟩
/-- lo, lo - 1, .. (n of them) -/
def downI (lo : Int) (n : Nat) : List Int := (List.range n).map fun i : Nat => lo - (i : Int)
theorem length_downI {lo : Int} {n : Nat} : (downI lo n).length = n := by simp [downI]
theorem feed_down {F0 : Hp} {lo : Int} {n : Nat} : Feed F0 T (Itc lo (-1) n) ((downI lo n).map Dat) := fun F L Lf H i e t o => by
  refine ⟨fun h => ?_, fun ρ h => ?_⟩
  · rw [List.length_map, length_downI] at h; exact h
  · have hi : i < n := by
      have := (List.getElem?_eq_some_iff.mp h).1
      rwa [List.length_map, length_downI] at this
    rw [List.getElem?_map, show (downI lo n)[i]? = some (lo - (i : Int)) by unfold downI; rw [List.getElem?_map, List.getElem?_range hi]; rfl] at h
    cases h
    exact ⟨hi, fun x H' ⟨a, b⟩ => ⟨F, Same.refl F, by rw [a]; exact o, by rw [b]; show V.int _ = V.int _; congr 1; omega⟩⟩
def downO (a b : Int) : Option (List Int) := when (-(2 ^ 62) ≤ a ∧ a < 2 ^ 62 ∧ -(2 ^ 62) ≤ b ∧ b < 2 ^ 62) (downI a (a - b).toNat)
/-- range(i, j, -1) -/
theorem ji_rngD {i j : Int} {xs : List Int} {pu : Pos} {kz : Nat} {pz : Pos} (h : downO i j = some xs) (hg : Gl X "range") (hm : X.mg "range" = none) (ha : JE X Γ T a (Dat i)) (hb : JE X Γ T b (Dat j))
    (hs : starEach [a, b, .UnaryOp .USub (.Constant (.int 1) kz pz) pu] X.env = (false, eval a X.env) :: starEach [b, .UnaryOp .USub (.Constant (.int 1) kz pz) pu] X.env := by exact star1 rfl) (hs' : starEach [b, .UnaryOp .USub (.Constant (.int 1) kz pz) pu] X.env = (false, eval b X.env) :: starEach [.UnaryOp .USub (.Constant (.int 1) kz pz) pu] X.env := by exact star1 rfl)
    (hs2 : starEach [.UnaryOp .USub (.Constant (.int 1) kz pz) pu] X.env = (false, eval (.UnaryOp .USub (.Constant (.int 1) kz pz) pu) X.env) :: starEach [] X.env := by exact star1 rfl) (hpl : (backTo pos (starEach [b, .UnaryOp .USub (.Constant (.int 1) kz pz) pu] X.env)).any (·.1) = false := by exact backTo_any (stars rfl)) :
    JI X Γ T tg (.Call (.Name "range" p) [a, b, .UnaryOp .USub (.Constant (.int 1) kz pz) pu] [] pos) (fun _ => True) (xs.map Dat) := by
  obtain ⟨h1, rfl⟩ := of_when h
  intro F σ L Lf H s t o R k
  refine ⟨_, pi_range3 hg hm wa_pa hs hpl, ja_cons ha (ja_cons hb (ja_cons (je_neg je_int) ja_nil hs2) hs') hs F σ L Lf H s t o _ fun F1 M1 H1 vs e1 t1 o1 rs => ?_⟩
  obtain ⟨x, y, z, rfl, rx, ry, rz⟩ := vrs3 rs
  cases (show x = .int i from rx)
  cases (show y = .int j from ry)
  cases (show z = .int (-1) from rz)
  exact ⟨i, j, -1, (i - j).toNat, rfl, RgC.neg h1.1 h1.2.1 h1.2.2.1 h1.2.2.2, k _ F1 M1 H1 e1 t1 o1 fun T' _ => feed_down⟩
/-- reversed(range(i, j)) -/
def revO (i j : Int) : Option (List Int) := when (-(2 ^ 62) ≤ i ∧ i < 2 ^ 62 ∧ -(2 ^ 62) ≤ j ∧ j < 2 ^ 62) (downI (i + (((j - i).toNat : Nat) : Int) - 1) (j - i).toNat)
theorem ji_revR2 {i j : Int} {xs : List Int} {p2 pos2 : Pos} (h : revO i j = some xs) (hg : Gl X "reversed") (hm : X.mg "reversed" = none) (hg2 : Gl X "range") (hm2 : X.mg "range" = none) (ha : JE X Γ T a (Dat i)) (hb : JE X Γ T b (Dat j)) (hs : starEach [a, b] X.env = (false, eval a X.env) :: starEach [b] X.env := by exact star1 rfl) (hs' : starEach [b] X.env = (false, eval b X.env) :: starEach [] X.env := by exact star1 rfl)
    (hpl : (backTo pos2 (starEach [b] X.env)).any (·.1) = false := by exact backTo_any (stars rfl)) (hs3 : starEach [.Call (.Name "range" p2) [a, b] [] pos2] X.env = (false, eval (.Call (.Name "range" p2) [a, b] [] pos2) X.env) :: starEach [] X.env := by exact star1 rfl) :
    JI X Γ T tg (.Call (.Name "reversed" p) [.Call (.Name "range" p2) [a, b] [] pos2] [] pos) (fun _ => True) (xs.map Dat) := by
  obtain ⟨h1, rfl⟩ := of_when h
  intro F σ L Lf H s t o R k
  refine ⟨_, pi_revR hg hm (prg_2 hg2 hm2 we_pe we_pe hs hs' hpl) hs3, ha F σ L Lf H s t o _ fun F1 M1 H1 x e1 t1 o1 rx => hb F1 σ M1 Lf H1 (s.mono e1) t1 o1 _ fun F2 M2 H2 y e2 t2 o2 ry => ?_⟩
  exact ⟨i, j, rx, ry, h1.1, h1.2.1, h1.2.2.1, h1.2.2.2, k _ F2 M2 H2 (e1.trans e2) t2 o2 fun T' _ => feed_down⟩
/-- list(range(i, j)) -/
def lrngO (i j : Int) : Option (List Int) := when (-(2 ^ 62) ≤ i ∧ i < 2 ^ 62 ∧ -(2 ^ 62) ≤ j ∧ j < 2 ^ 62 ∧ (j - i).toNat ≤ 16777216) (intsFrom i (j - i).toNat)
theorem rgV_ints {i j : Int} : rgV i j = (intsFrom i (j - i).toNat).map V.int := by unfold rgV intsFrom; rw [List.map_map]; rfl
theorem jf_lrng1 {j : Int} {xs : List Int} {p2 pos2 : Pos} (h : lrngO 0 j = some xs) (hc : X.calm = true) (hg : Gl X "list") (hm : X.mg "list" = none) (hg2 : Gl X "range") (hm2 : X.mg "range" = none) (ha : JE X Γ T a (Dat j)) (hs : starEach [a] X.env = (false, eval a X.env) :: starEach [] X.env := by exact star1 rfl)
    (hs3 : starEach [.Call (.Name "range" p2) [a] [] pos2] X.env = (false, eval (.Call (.Name "range" p2) [a] [] pos2) X.env) :: starEach [] X.env := by exact star1 rfl) : JF X W Γ T (.Call (.Name "list" p) [.Call (.Name "range" p2) [a] [] pos2] [] pos) xs := fun F σ L Lf H s t o Q q _ => by
  obtain ⟨h1, rfl⟩ := of_when h
  refine we_of (pe_listRg hc hg hm (prg_1 hg2 hm2 we_pe hs) hs3) (ha F σ L Lf H s t o _ fun F1 M1 H1 x e1 t1 o1 rx => ⟨j, rx, ⟨h1.1, h1.2.1, h1.2.2.1, h1.2.2.2.1, h1.2.2.2.2⟩, ?_⟩)
  rw [rgV_ints]
  exact jf_new q e1 t1 o1 (paired_ints _)
theorem jf_lrng2 {i j : Int} {xs : List Int} {p2 pos2 : Pos} (h : lrngO i j = some xs) (hc : X.calm = true) (hg : Gl X "list") (hm : X.mg "list" = none) (hg2 : Gl X "range") (hm2 : X.mg "range" = none) (ha : JE X Γ T a (Dat i)) (hb : JE X Γ T b (Dat j)) (hs : starEach [a, b] X.env = (false, eval a X.env) :: starEach [b] X.env := by exact star1 rfl) (hs' : starEach [b] X.env = (false, eval b X.env) :: starEach [] X.env := by exact star1 rfl)
    (hpl : (backTo pos2 (starEach [b] X.env)).any (·.1) = false := by exact backTo_any (stars rfl)) (hs3 : starEach [.Call (.Name "range" p2) [a, b] [] pos2] X.env = (false, eval (.Call (.Name "range" p2) [a, b] [] pos2) X.env) :: starEach [] X.env := by exact star1 rfl) : JF X W Γ T (.Call (.Name "list" p) [.Call (.Name "range" p2) [a, b] [] pos2] [] pos) xs := fun F σ L Lf H s t o Q q _ => by
  obtain ⟨h1, rfl⟩ := of_when h
  refine we_of (pe_listRg hc hg hm (prg_2 hg2 hm2 we_pe we_pe hs hs' hpl) hs3) (ha F σ L Lf H s t o _ fun F1 M1 H1 x e1 t1 o1 rx => hb F1 σ M1 Lf H1 (s.mono e1) t1 o1 _ fun F2 M2 H2 y e2 t2 o2 ry => ⟨i, j, rx, ry, ⟨h1.1, h1.2.1, h1.2.2.1, h1.2.2.2.1, h1.2.2.2.2⟩, ?_⟩)
  rw [rgV_ints]
  exact jf_new q (e1.trans e2) t2 o2 (paired_ints _)
/-- a tuple of data walked -/
theorem ji_tupD {f : B → List A} (hf : ∀ {F : Hp} {v : V} {x : B}, rep F v x → ∃ p vs, v = .ref p ∧ F p = some (.tup vs) ∧ Paired (rep F) vs (f x)) {x : B} (ok : Th → Prop) (h : JE X Γ T iter (Dat x)) : JI X Γ T tg iter ok ((f x).map Dat) := fun F σ L Lf H s t o R k =>
  ⟨_, pi_tup we_pe, h F σ L Lf H s t o _ fun F1 M1 H1 v e1 t1 o1 r => by
    obtain ⟨q, us, rfl, h2, h3⟩ := hf r
    refine ⟨q, rfl, ⟨us, .inl (.inl (o1.sub _ _ h2))⟩, k _ F1 M1 H1 e1 t1 o1 fun T' hT' F2 L2 Lf2 H2 i e2 t2 o2 => ?_⟩
    have hS : SqT X.K H2 q us := .inl (.inl (o2.sub _ _ (e2 _ _ h2)))
    refine ⟨fun hl => ⟨us, hS, by rw [h3.length, ← List.length_map (f := (Dat : A → VR))]; exact hl⟩, fun ρ' hρ => ?_⟩
    rw [List.getElem?_map] at hρ
    cases hx : (f x)[i]? with
    | none => rw [hx] at hρ; cases hρ
    | some y =>
      rw [hx] at hρ
      cases hρ
      obtain ⟨w, h4, h5⟩ := Paired.get h3 hx
      exact ⟨⟨us, w, hS, h4⟩, fun y H' ⟨a, b⟩ => ⟨F2, Same.refl _, by rw [a]; exact o2, by
        have := b us hS
        rw [h4] at this
        cases this
        exact Rp.mono e2 h5⟩⟩⟩
theorem ji_tup2 {x : A × A} (ok : Th → Prop) (h : JE X Γ T iter (Dat x)) : JI X Γ T tg iter ok ([x.1, x.2].map Dat) := ji_tupD (B := A × A) (f := fun x => [x.1, x.2]) (fun {F v x} h => by
  obtain ⟨p, u, w, h1, h2, h3, h4⟩ := h
  exact ⟨p, [u, w], h1, h2, .cons h3 (.cons h4 .nil)⟩) ok h
end
/-! ### a dict that is walked -/
def OZ {κ A : Type} [Rp κ] [DecidableEq κ] [DKey κ] [Rp A] (od : Obj) (u : HO) (d : List (κ × A)) : OV :=
  ⟨fun F p L => L = [(p, .frz od u)] ∧ ∃ ws : List (κ × V), u = DKey.ho ws ∧ Paired (DR F) ws d, fun e ⟨h, ws, q, r⟩ => ⟨h, ws, q, Paired.mono (fun _ _ z => ⟨z.1, Rp.mono e z.2⟩) r⟩⟩
section
variable {X : Cx} {W : WX} {Γ Γ' Γ2 : Slots} {T T' T2 Tr : Th} {st : Stmt} {rest sts : List Stmt} {D D' : Po} {e o i tg iter a b c : Expr} {es elts : List Expr} {pos pos' apos pn tpos : Pos} {ρ α β : VR} {p : Addr} {κ A : Type} [Rp κ] [DecidableEq κ] [DKey κ] [Rp A] {d : List (κ × A)} {k : κ} {x : A} {od : Obj} {u : HO}
abbrev lockRt (p : Addr) (od : Obj) (u : HO) (d : List (κ × A)) (D : Po) : VR → Th → Prop := fun ρ T' => ∃ T2, TEnt T' ((p, OZ od u d) :: T2) ∧ ∃ T3, TEnt ((p, OD d) :: T2) T3 ∧ D.rt ρ T3
theorem unlock {ws : List (κ × V)} {F1 : Hp} {L1 Lf : List Cell} {H1 : Hp} {T2 : Th} (t1 : TR F1 ((p, OZ od (DKey.ho ws) d) :: T2) L1) (o1 : Own F1 (L1 ++ Lf) H1) : H1 p = some (.frz od (DKey.ho ws)) ∧ ∃ L2, TR F1 ((p, OD d) :: T2) L2 ∧ Own F1 (L2 ++ Lf) (upd H1 p (DKey.ho ws)) := by
  cases t1 with
  | @cons _ _ _ A1 A2 a t2 =>
    obtain ⟨rfl, ws', e, pr⟩ := a
    refine ⟨o1.cel _ (List.mem_cons_self ..), (p, DKey.ho ws) :: A2, .cons (L1 := [(p, DKey.ho ws)]) ⟨ws', pr, by rw [e]⟩ t2, ?_⟩
    have o2 : Own F1 ((p, HO.frz od (DKey.ho ws)) :: (A2 ++ Lf)) H1 := o1
    exact o2.put (DKey.nt ws)
theorem js_lockD (n : Nat) (hk : T[n]? = some (p, OD d)) (h : ∀ od u, JS X W Γ (T.set n (p, OZ od u d)) st { nx := fun Γ' T' => ∃ T2, T' = T2.set n (p, OZ od u d) ∧ T2[n]? = some (p, OD d) ∧ D.nx Γ' T2, rt := lockRt p od u d D }) : JS X W Γ T st D := by
  intro F σ L Lf H s t ow w
  obtain ⟨Lk, Lr, ⟨ws, h1, rfl⟩, o1, nx⟩ := t.upd ow hk
  refine ws_of (ps_lock ws_ps) ⟨p, DKey.ho ws, o1.at, DKey.mu ws, fun od => ?_⟩
  obtain ⟨L', t', o'⟩ := nx F [(p, .frz od (DKey.ho ws))] (OZ od (DKey.ho ws) d) _ (Same.refl _) ⟨rfl, ws, rfl, h1⟩ o1.put
  have hh := h od (DKey.ho ws) F σ L' Lf _ s t' o' (fun _ _ _ _ _ _ z => z.elim)
  refine ws_le ?_ hh
  refine ⟨fun σ' H' q => ?_, fun v H' q => ?_, fun σ' H' q => ?_, fun σ' H' q => ?_⟩
  · obtain ⟨Γ1, T1, F1, L1, ⟨T2, rfl, hn, hD⟩, e1, s1, t1, o2⟩ := q
    have hlt : n < T2.length := (List.getElem?_eq_some_iff.mp hn).1
    have hset : (T2.set n (p, OZ od (DKey.ho ws) d))[n]? = some (p, OZ od (DKey.ho ws) d) := by rw [List.getElem?_set_self hlt]
    obtain ⟨Lk2, Lr2, ⟨rfl, ws2, e2, pr2⟩, o3, nx2⟩ := t1.upd o2 hset
    refine ⟨o3.at, ?_⟩
    obtain ⟨L5, t5, o5⟩ := nx2 F1 [(p, DKey.ho ws)] (OD d) _ (Same.refl _) ⟨ws2, pr2, by rw [e2]⟩ (o3.put (DKey.nt ws))
    rw [List.set_set] at t5
    have e : T2.set n (p, OD d) = T2 := by
      obtain ⟨_, e⟩ := List.getElem?_eq_some_iff.mp hn
      rw [← e, List.set_getElem_self]
    rw [e] at t5
    exact ⟨Γ1, T2, F1, L5, hD, e1, s1, t5, o5⟩
  · obtain ⟨ρ, T1, F1, L1, ⟨T2, en, T3, en3, hD⟩, e1, r1, t1, o2⟩ := q
    obtain ⟨L3, t3, o3⟩ := en.own t1 o2
    obtain ⟨h4, L4, t4, o4⟩ := unlock t3 o3
    obtain ⟨L5, t5, o5⟩ := en3.own t4 o4
    exact ⟨h4, ρ, T3, F1, L5, hD, e1, r1, t5, o5⟩
  · obtain ⟨_, _, _, _, z, _⟩ := q
    exact z.elim
  · obtain ⟨_, _, _, _, z, _⟩ := q
    exact z.elim
theorem ji_dict (n : Nat) (h : JE X Γ T iter (Ref p)) (hn : T[n]? = some (p, OZ od u d)) : JI X Γ T tg iter (fun T' => T'[n]? = some (p, OZ od u d)) ((d.map (·.1)).map Dat) := fun F σ L Lf H s t o R k =>
  ⟨_, pi_keys we_pe, h F σ L Lf H s t o _ fun F1 M1 H1 v e1 t1 o1 r => by
    obtain ⟨Lk, Lr, ⟨rfl, ws, rfl, pr⟩, o2⟩ := t1.cell o1 hn
    refine ⟨p, od, r, DKey.pick o2.at (k (DKey.it p od ws) F1 M1 H1 e1 t1 o1 fun T' hT' F2 L2 Lf2 H2 i e2 t2 o3 => ?_)⟩
    obtain ⟨Lk2, Lr2, ⟨rfl, ws2, e4, pr2⟩, o4⟩ := t2.cell o3 hT'
    have hlen : ((d.map (·.1)).map (Dat : κ → VR)).length = ws.length := by rw [List.length_map, List.length_map, pr.length]
    refine ⟨fun hl => DKey.stop o4.at (by omega), fun ρ' hρ => ?_⟩
    have hi : i < ws.length := by rw [← hlen]; exact (List.getElem?_eq_some_iff.mp hρ).1
    refine ⟨DKey.go o4.at hi, fun y H' hy => ?_⟩
    obtain ⟨F3, w, h5, e5, o5, h6⟩ := DKey.yld hy o3
    obtain ⟨kv, h7, h8⟩ := Paired.get' pr h5
    rw [List.getElem?_map, List.getElem?_map, h7] at hρ
    cases hρ
    refine ⟨F3, e5, o5, ?_⟩
    show rep F3 y kv.1
    rw [← h8.1]
    exact h6⟩
theorem je_ofRef {T' : Th} {i : Nat} {x : Str} (hv : Γ[i]? = some (some (Ref p))) : True := trivial
variable {S R : Type} {body : List Stmt}
theorem js_forDO {f : S → κ → Option S} {s0 sN : S} (n : Nat) (hk : T[n]? = some (p, OD d)) (hm : foldO f s0 (d.map (·.1)) = some sN) (Γs : S → Slots) (Ts : S → Th) (hp : PassesOwn (model X.prog X.w) X.A X.env X.xe) (hc : X.calm = true) (hi : ∀ T', JE X Γ T' iter (Ref p)) (hΓ : Wk Γ (Γs s0)) (hT : T = Ts s0) (hz : ∀ s, (Ts s)[n]? = some (p, OD d))
    (turn : ∀ od u x s s', x ∈ d.map (·.1) → f s x = some s' → ∃ put ws, JG X tg (Dat x) put ws ∧ JSs X W (put (Γs s)) ((Ts s).set n (p, OZ od u d)) body { nx := fun Γ' T' => Wk Γ' (Γs s') ∧ T' = (Ts s').set n (p, OZ od u d), ct := fun Γ' T' => Wk Γ' (Γs s') ∧ T' = (Ts s').set n (p, OZ od u d), rt := lockRt p od u d D })
    (fin : JSs X W (Γs sN) (Ts sN) rest D) (hs : ∀ x, foldedSetIterable iter X.env x = pure x := by exact folded_no rfl) : JSs X W Γ T (.For tg iter body [] pos :: rest) D := by
  refine js_cons (M := fun Γ' T' => Γ' = Γs sN ∧ T' = Ts sN) (js_lockD n hk fun od u => ?_) fun _ _ ⟨a, b⟩ => by subst a b; exact fin
  have hset : ∀ s, ((Ts s).set n (p, OZ od u d))[n]? = some (p, OZ od u d) := fun s => List.getElem?_set_self (List.getElem?_eq_some_iff.mp (hz s)).1
  have hsT : (T.set n (p, OZ od u d))[n]? = some (p, OZ od u d) := by rw [hT]; exact hset s0
  refine js_for hp hc (ji_dict n (hi _) hsT) (fun i s => foldO f s ((d.map (·.1)).drop i) = some sN) Γs (fun s => (Ts s).set n (p, OZ od u d)) s0 (by simpa using hm) hΓ (by rw [hT]) (fun i s _ => hset s) (fun i ρ s hi inv => ?_) (fun s inv => ?_) hs
  · rw [List.getElem?_map] at hi
    cases hx : (d.map (·.1))[i]? with
    | none => rw [hx] at hi; cases hi
    | some x =>
      rw [hx] at hi
      cases hi
      obtain ⟨hl, hx'⟩ := List.getElem?_eq_some_iff.mp hx
      rw [List.drop_eq_getElem_cons hl, hx'] at inv
      obtain ⟨s', h1, h2⟩ := obind inv
      obtain ⟨put, ws, hg, hb⟩ := turn od u x s s' (hx' ▸ List.getElem_mem hl) h1
      exact ⟨put, ws, hg, jss_le hb ⟨fun _ _ ⟨a, b⟩ => ⟨s', h2, a, b⟩, fun _ _ q => q, fun _ _ q => q.elim, fun _ _ ⟨a, b⟩ => ⟨s', h2, a, b⟩, fun _ _ q => q⟩⟩
  · rw [List.length_map, List.drop_length] at inv
    cases inv
    exact ⟨Ts sN, rfl, hz sN, rfl, rfl⟩
theorem js_forDC {f : S → κ → Option (Ctl S R)} {s0 : S} {r : Ctl S R} (n : Nat) (hk : T[n]? = some (p, OD d)) (hm : foldC f s0 (d.map (·.1)) = some r) (Γs : S → Slots) (Ts : S → Th) (hp : PassesOwn (model X.prog X.w) X.A X.env X.xe) (hc : X.calm = true) (hi : ∀ T', JE X Γ T' iter (Ref p)) (hΓ : Wk Γ (Γs s0)) (hT : T = Ts s0) (hz : ∀ s, (Ts s)[n]? = some (p, OD d))
    (turn : ∀ od u x s r', x ∈ d.map (·.1) → f s x = some r' → (∀ q, r' = .ret q → r = .ret q) → ∃ put ws, JG X tg (Dat x) put ws ∧ JSs X W (put (Γs s)) ((Ts s).set n (p, OZ od u d)) body { nx := fun Γ' T' => ∃ s', r' = .go s' ∧ Wk Γ' (Γs s') ∧ T' = (Ts s').set n (p, OZ od u d), ct := fun Γ' T' => ∃ s', r' = .go s' ∧ Wk Γ' (Γs s') ∧ T' = (Ts s').set n (p, OZ od u d), bk := fun Γ' T' => ∃ s', r' = .brk s' ∧ Wk Γ' (Γs s') ∧ T' = (Ts s').set n (p, OZ od u d), rt := lockRt p od u d D })
    (fin : ∀ s, r = .go s → JSs X W (Γs s) (Ts s) rest D) (hs : ∀ x, foldedSetIterable iter X.env x = pure x := by exact folded_no rfl) : JSs X W Γ T (.For tg iter body [] pos :: rest) D := by
  refine js_cons (M := fun Γ' T' => ∃ s, r = .go s ∧ Wk Γ' (Γs s) ∧ T' = Ts s) (js_lockD n hk fun od u => ?_) fun _ _ ⟨s, h, a, b⟩ => by subst b; exact js_wk a (fin s h)
  have hset : ∀ s, ((Ts s).set n (p, OZ od u d))[n]? = some (p, OZ od u d) := fun s => List.getElem?_set_self (List.getElem?_eq_some_iff.mp (hz s)).1
  have hsT : (T.set n (p, OZ od u d))[n]? = some (p, OZ od u d) := by rw [hT]; exact hset s0
  refine js_for hp hc (ji_dict n (hi _) hsT) (fun i s => foldC f s ((d.map (·.1)).drop i) = some r) Γs (fun s => (Ts s).set n (p, OZ od u d)) s0 (by simpa using hm) hΓ (by rw [hT]) (fun i s _ => hset s) (fun i ρ s hi inv => ?_) (fun s inv => ?_) hs
  · rw [List.getElem?_map] at hi
    cases hx : (d.map (·.1))[i]? with
    | none => rw [hx] at hi; cases hi
    | some x =>
      rw [hx] at hi
      cases hi
      obtain ⟨hl, hx'⟩ := List.getElem?_eq_some_iff.mp hx
      rw [List.drop_eq_getElem_cons hl, hx'] at inv
      obtain ⟨r', h1, h2⟩ := obind inv
      obtain ⟨put, ws, hg, hb⟩ := turn od u x s r' (hx' ▸ List.getElem_mem hl) h1 (fun q e => by subst e; cases h2; rfl)
      refine ⟨put, ws, hg, jss_le hb ⟨fun _ _ ⟨s', e, a, b⟩ => ⟨s', by subst e; exact h2, a, b⟩, fun _ _ q => q, fun Γ' T' ⟨s', e, a, b⟩ => ?_, fun _ _ ⟨s', e, a, b⟩ => ⟨s', by subst e; exact h2, a, b⟩, fun _ _ q => q⟩⟩
      subst e
      cases h2
      exact ⟨Ts s', b, hz s', s', rfl, a, rfl⟩
  · rw [List.length_map, List.drop_length] at inv
    cases inv
    exact ⟨Ts s, rfl, hz s, s, rfl, Wk.refl _, rfl⟩
/-! reading a dict that is walked -/
def DAt (T : Th) (p : Addr) (d : List (κ × A)) : Prop := ∀ F L Lf H, TR F T L → Own F (L ++ Lf) H → ∃ ws : List (κ × V), Rd H p (DKey.ho ws) ∧ Paired (DR F) ws d
theorem dat_own (n : Nat) (hn : T[n]? = some (p, OD d)) : DAt T p d := fun F L Lf H t o => by
  obtain ⟨Lk, Lr, ⟨ws, h1, rfl⟩, o'⟩ := t.cell o hn
  exact ⟨ws, .inl (o'.cel _ (List.mem_cons_self ..)), h1⟩
theorem dat_lock (n : Nat) (hn : T[n]? = some (p, OZ od u d)) : DAt T p d := fun F L Lf H t o => by
  obtain ⟨Lk, Lr, ⟨rfl, ws, rfl, pr⟩, o'⟩ := t.cell o hn
  exact ⟨ws, .inr ⟨od, o'.cel _ (List.mem_cons_self ..)⟩, pr⟩
theorem je_dgetZ {a : A} (hn : DAt T p d) (h : dget d k = some a) (hu : X.A.units + 64 < cLine) (ho : JE X Γ T o (Ref p)) (hi : JE X Γ T i (Dat k)) (hs : PlainIx i := by exact fun _ _ => rfl) : JE X Γ T (.Subscript o i pos) (Dat a) := fun F σ L Lf H s t ow Q q =>
  we_of (pe_dget (hu1 hu) we_pe we_pe hs) (ho F σ L Lf H s t ow _ fun F1 M1 H1 u e1 t1 o1 r1 => hi F1 σ M1 Lf H1 (s.mono e1) t1 o1 _ fun F2 M2 H2 y e2 t2 o2 r2 => by
    obtain ⟨ws, o', h1⟩ := hn F2 M2 Lf H2 t2 o2
    have h2 := dr_get (k := k) h1
    rw [h] at h2
    obtain ⟨v, h3, h4⟩ := h2
    refine ⟨p, v, r1, ?_, q F2 M2 H2 v (e1.trans e2) t2 o2 h4⟩
    rw [← h3]
    exact DKey.get o2.sub r2 o')
theorem jc_dinZ (hn : DAt T p d) (hu : X.A.units + 64 < cLine) (hi : JE X Γ T i (Dat k)) (ho : JE X Γ T o (Ref p)) : JC X Γ T .In i o (Dat (dget d k).isSome) := fun F σ L Lf H s t ow Q q =>
  ⟨_, pc_din (hu1 hu) we_pe we_pe, hi F σ L Lf H s t ow _ fun F1 M1 H1 y e1 t1 o1 r1 => ho F1 σ M1 Lf H1 (s.mono e1) t1 o1 _ fun F2 M2 H2 u e2 t2 o2 r2 => by
    obtain ⟨ws, o', h1⟩ := hn F2 M2 Lf H2 t2 o2
    refine ⟨p, valV ws k, r2, DKey.get o2.sub (Rp.mono e2 r1) o', q F2 M2 H2 _ (e1.trans e2) t2 o2 ?_⟩
    have h2 := dr_get (k := k) h1
    cases h : dget d k with
    | some a => rw [h] at h2; obtain ⟨v, h3, _⟩ := h2; rw [h3]; rfl
    | none => rw [h] at h2; rw [show valV ws k = none from h2]; rfl⟩
theorem jc_dniZ (hn : DAt T p d) (hu : X.A.units + 64 < cLine) (hi : JE X Γ T i (Dat k)) (ho : JE X Γ T o (Ref p)) : JC X Γ T .NotIn i o (Dat (!(dget d k).isSome)) := fun F σ L Lf H s t ow Q q =>
  ⟨_, pc_dnotin (hu1 hu) we_pe we_pe, hi F σ L Lf H s t ow _ fun F1 M1 H1 y e1 t1 o1 r1 => ho F1 σ M1 Lf H1 (s.mono e1) t1 o1 _ fun F2 M2 H2 u e2 t2 o2 r2 => by
    obtain ⟨ws, o', h1⟩ := hn F2 M2 Lf H2 t2 o2
    refine ⟨p, valV ws k, r2, DKey.get o2.sub (Rp.mono e2 r1) o', q F2 M2 H2 _ (e1.trans e2) t2 o2 ?_⟩
    have h2 := dr_get (k := k) h1
    cases h : dget d k with
    | some a => rw [h] at h2; obtain ⟨v, h3, _⟩ := h2; rw [h3]; rfl
    | none => rw [h] at h2; rw [show valV ws k = none from h2]; rfl⟩
end
/-! ### a list's item stored -/
def lputO {A : Type} (xs : List A) (i : Int) (y : A) : Option (List A) := (ixN xs.length i).map fun j => xs.set j y
theorem Paired.setAt {α β : Type} {R : α → β → Prop} {x : α} {y : β} (h : R x y) : ∀ {xs : List α} {ys : List β} (i : Nat), Paired R xs ys → Paired R (xs.set i x) (ys.set i y)
  | _, _, _, .nil => .nil
  | _, _, 0, .cons _ t => .cons h t
  | _, _, i + 1, .cons q t => .cons q (Paired.setAt h i t)
section
variable {X : Cx} {W : WX} {Γ Γ' Γ2 : Slots} {T T' T2 Tr : Th} {st : Stmt} {rest sts : List Stmt} {D D' : Po} {e o i tg iter a b c : Expr} {es elts : List Expr} {pos pos' apos pn tpos : Pos} {ρ α β : VR} {p : Addr} {R : VR → Th → Prop} {xr : Value → Th → Prop} {B : Type} [Rp B]
theorem js_lput (n : Nat) (he : JX X W Γ T e R nox) (hD : ∀ ρ T', R ρ T' → ∃ (p : Addr) (xs ys : List B) (k : Int) (y : B), ρ = Dat y ∧ JE X Γ T' o (Ref p) ∧ JE X Γ T' i (Dat k) ∧ T'[n]? = some (p, OL xs) ∧ lputO xs k y = some ys ∧ JSs X W Γ (T'.set n (p, OL ys)) rest D)
    (hs : swapsWithSole [.Subscript o i pos'] e pos.line X.env = pure false := by exact sole_no rfl) (hw : swappedStores [.Subscript o i pos'] e X.env = pure none := by exact stores_no rfl) (hn : (assignEach [.Subscript o i pos'] X.env).map (·.2) = [assign (.Subscript o i pos') X.env] := by exact assign_one rfl)
    (hp : ∀ {to ti : TE} {t : TSet}, PE X o to → PE X i ti → PSet X t → PG X (.Subscript o i pos') (gSub to ti t) := by exact fun h h' h2 => pg_sub h h' h2) : JSs X W Γ T (.Assign [.Subscript o i pos'] e pos :: rest) D := by
  refine js_cons (M := fun Γ' T' => JSs X W Γ' T' rest D) ?_ fun _ _ h => h
  intro F σ L Lf H s t ow w
  refine ws_of (ps_asg we_pe (hp we_pe we_pe set_list) hs hw hn) (he F σ L Lf H s t ow _ (fun v H' ⟨ρ, T', F', L', h1, h2, h3, h4, h5⟩ => ?_) fun _ _ _ _ _ z => z.elim)
  obtain ⟨p, xs, ys, k, y, rfl, ho, hi, hn, hl, hJ⟩ := hD ρ T' h1
  obtain ⟨j, hj, rfl⟩ := Option.map_eq_some_iff.mp hl
  refine ho F' σ L' Lf H' (s.mono h2) h4 h5 _ fun F1 M1 H1 u e1 t1 o1 r1 => hi F1 σ M1 Lf H1 ((s.mono h2).mono e1) t1 o1 _ fun F2 M2 H2 z e2 t2 o2 r2 => ?_
  obtain ⟨Lk, Lr, ⟨ws, hw, rfl⟩, o', nx⟩ := t2.upd o2 hn
  refine ⟨p, ws, k, j, r1, r2, o'.at, by rw [hw.length]; exact hj, ?_⟩
  obtain ⟨L2', t3, o3⟩ := nx F2 [(p, .lst (ws.set j v))] (OL (xs.set j y)) _ (Same.refl _) ⟨_, Paired.setAt (Rp.mono (e1.trans e2) h3) j hw, rfl⟩ o'.put
  exact ⟨Γ, _, F2, L2', hJ, (h2.trans e1).trans e2, ((s.mono h2).mono e1).mono e2, t3, o3⟩
/-- x in a written tuple -/
theorem jc_inV {B : Type} [Sca B] [DecidableEq B] {x : B} {zs : List B} (ha : JE X Γ T a (Dat x)) (hb : JE X Γ T b (TupV (zs.map Dat))) : JC X Γ T .In a b (Dat (decide (x ∈ zs))) :=
  jc_op op_in_seq (fun F L Lf H u v Q t o ru rv k => by
    obtain rfl := (Sca.ok _ _ _).mp ru
    obtain ⟨p, vs, h1, h2, h3⟩ := rv
    obtain ⟨h4, h5⟩ := inV_dec (x := x) (vrs_dats h3)
    exact ⟨p, vs, h1, .inr (.inl (.inl (o.sub _ _ h2))), Sca.flat x, h4, k F L H _ (Same.refl F) t o (by show V.bl _ = V.bl _; rw [if_neg (by decide), h5])⟩) ha hb
theorem jc_niV {B : Type} [Sca B] [DecidableEq B] {x : B} {zs : List B} (ha : JE X Γ T a (Dat x)) (hb : JE X Γ T b (TupV (zs.map Dat))) : JC X Γ T .NotIn a b (Dat (!decide (x ∈ zs))) :=
  jc_op op_notIn_seq (fun F L Lf H u v Q t o ru rv k => by
    obtain rfl := (Sca.ok _ _ _).mp ru
    obtain ⟨p, vs, h1, h2, h3⟩ := rv
    obtain ⟨h4, h5⟩ := inV_dec (x := x) (vrs_dats h3)
    exact ⟨p, vs, h1, .inr (.inl (.inl (o.sub _ _ h2))), Sca.flat x, h4, k F L H _ (Same.refl F) t o (by show V.bl _ = V.bl _; rw [if_pos rfl, h5])⟩) ha hb
/-- {k: v} -/
theorem jx_dict1 {κ A : Type} [Sca κ] [SKey κ] [DecidableEq κ] [Rp A] {f : Expr} {k : κ} {y : A} (he : JE X Γ T e (Dat k)) (hf : JE X Γ T f (Dat y)) (hp : ∀ {tk tv : TE}, PE X e tk → PE X f tv → PE X (.Dict [some e] [f] pos) (tDisp [(tk, tv)]) := by exact fun h h' => pe_disp (pps_cons h h' pps_nil) rfl rfl (by decide) (by decide)) :
    JX X W Γ T (.Dict [some e] [f] pos) (fun ρ T' => ∃ p, ρ = Ref p ∧ T' = (p, OD [(k, y)]) :: T) nox := fun F σ L Lf H s t ow Q q _ =>
  we_of (hp we_pe we_pe) (by
    intro p hp
    have o1 : Own F ((p, .dK []) :: (L ++ Lf)) (upd H p (.dK [])) := ow.born hp
    refine he F σ L ((p, .dK []) :: Lf) _ s t (o1.perm List.perm_middle.symm) _ fun F1 M1 H1 x e1 t1 o2 r1 => hf F1 σ M1 _ H1 (s.mono e1) t1 o2 _ fun F2 M2 H2 z e2 t2 o3 r2 => ?_
    have o4 := o3.perm List.perm_middle
    obtain rfl := (Sca.ok _ _ _).mp r1
    refine ⟨o4.at, [(SKey.key k, z)], by rw [List.map_cons]; show [(Sca.val k, z)] = [(kV (SKey.key k), z)]; rw [SKey.val], by show 1 ≤ 15; decide, ?_⟩
    have e0 : mergeK [] [((SKey.key k : Key), z)] = ([(k, z)] : List (κ × V)).map fun w => (SKey.key w.1, w.2) := rfl
    rw [e0]
    exact q _ _ ⟨Ref p, _, F2, (p, DKey.ho [(k, z)]) :: M2, ⟨p, rfl, rfl⟩, e1.trans e2, rfl, .cons (L1 := [(p, DKey.ho [(k, z)])]) ⟨[(k, z)], .cons ⟨rfl, r2⟩ .nil, rfl⟩ t2, o4.put⟩)
end
end G

/-! GS: steps within expressions. -/
namespace G
open PySem PySem.Spec PyProof.Rows L2
open Rp (rep)
def JAX (X : Cx) (W : WX) (Γ : Slots) (T : Th) (es : List Expr) (R : List VR → Th → Prop) : Prop := ∀ F σ L Lf H, SR F Γ σ → TR F T L → Own F (L ++ Lf) H → ∀ Q : List V → Hp → Prop,
  (∀ vs H', (∃ ρs T' F' L', R ρs T' ∧ Same F F' ∧ VRs F' ρs vs ∧ TR F' T' L' ∧ Own F' (L' ++ Lf) H') → Q vs H') → WA X es σ H Q
section
variable {X : Cx} {W : WX} {Γ Γ' Γ2 : Slots} {T T' T1 T2 Tr : Th} {st : Stmt} {rest sts : List Stmt} {D D' : Po} {e o i tg iter a b c : Expr} {es elts restE : List Expr} {pos pos' apos pn tpos : Pos} {ρ α β : VR} {ρs : List VR} {p C : Addr} {R Rb : VR → Th → Prop} {RL : List VR → Th → Prop} {A B Rt : Type} [Rp B] {f m x : Str} {n : Nat} {ps : List Str} {vals : A → List VR} {owns : A → Th} {mi : A → Option Rt} {res : A → Rt → VR → Th → Prop}
theorem jax_of (h : JA X Γ T es ρs) : JAX X W Γ T es (fun ρs' T' => ρs' = ρs ∧ T' = T) := fun F σ L Lf H s t o Q k => h F σ L Lf H s t o Q fun F' M' H' vs e t' o' r => k vs H' ⟨ρs, T, F', M', ⟨rfl, rfl⟩, e, r, t', o'⟩
theorem jax_nil (h : RL [] T) : JAX X W Γ T [] RL := fun F σ L Lf H s t o Q k => wa_of pa_nil (k [] H ⟨[], T, F, L, h, Same.refl F, .nil, t, o⟩)
theorem jax_cons (h : JX X W Γ T e (fun ρ T' => JAX X W Γ T' es fun ρs T2 => RL (ρ :: ρs) T2) nox) (hs : starEach (e :: es) X.env = (false, eval e X.env) :: starEach es X.env := by exact star1 rfl) : JAX X W Γ T (e :: es) RL := fun F σ L Lf H s t o Q k =>
  wa_of (pa_cons we_pe wa_pa hs) (h F σ L Lf H s t o _ (fun v H1 ⟨ρ, T1, F1, L1, hr, e1, r1, t1, o1⟩ => hr F1 σ L1 Lf H1 (s.mono e1) t1 o1 _ fun vs H2 ⟨ρs, T2, F2, L2, h2, e2, r2, t2, o2⟩ =>
    k (v :: vs) H2 ⟨ρ :: ρs, T2, F2, L2, h2, e1.trans e2, .cons (ρ.mono e2 r1) r2, t2, o2⟩) fun _ _ _ _ _ z => z.elim)
theorem jax_pure (h : JE X Γ T e ρ) (k : JAX X W Γ T es fun ρs T2 => RL (ρ :: ρs) T2) (hs : starEach (e :: es) X.env = (false, eval e X.env) :: starEach es X.env := by exact star1 rfl) : JAX X W Γ T (e :: es) RL := fun F σ L Lf H s t o Q q =>
  wa_of (pa_cons we_pe wa_pa hs) (h F σ L Lf H s t o _ fun F1 L1 H1 v e1 t1 o1 r1 => k F1 σ L1 Lf H1 (s.mono e1) t1 o1 _ fun vs H2 ⟨ρs, T2, F2, L2, h2, e2, r2, t2, o2⟩ =>
    q (v :: vs) H2 ⟨ρ :: ρs, T2, F2, L2, h2, e1.trans e2, .cons (ρ.mono e2 r1) r2, t2, o2⟩)
/-- a step's outcome told anew -/
theorem jx_le (h : JX X W Γ T e R nox) (k : ∀ ρ T', R ρ T' → Rb ρ T') : JX X W Γ T e Rb nox := fun F σ L Lf H s t o Q q qx => h F σ L Lf H s t o Q (fun v H' ⟨ρ, T', F', L', h1, z⟩ => q v H' ⟨ρ, T', F', L', k _ _ h1, z⟩) qx
theorem jx_ent2 (h : JX X W Γ T e (fun ρ T' => ∃ T2, TEnt T' T2 ∧ R ρ T2) nox) : JX X W Γ T e R nox := jx_ent h fun ρ T1 ⟨T2, h1, h2⟩ => ⟨T2, h1, h2⟩
theorem jx_pure (h : JE X Γ T e ρ) (k : R ρ T) : JX X W Γ T e R nox := jx_le (jx_of h) fun _ _ ⟨a, b⟩ => by subst a b; exact k
theorem jf_of {xs : List B} (h : JX X W Γ T e R nox) (hR : ∀ ρ T', R ρ T' → ∃ p, ρ = Ref p ∧ TEnt T' ((p, OL xs) :: T)) : JF X W Γ T e xs := jx_ent h fun ρ T1 r => by
  obtain ⟨p, h1, h2⟩ := hR ρ T1 r
  exact ⟨_, h2, p, h1, rfl⟩
/-- a list whose items are steps, as data -/
theorem jx_listA {xs : List B} (h : JAX X W Γ T es (fun ρs T' => ρs = xs.map Dat ∧ R (Dat xs) T')) (hl : xs.length ≤ sizeLine) : JX X W Γ T (.List es pos) R nox := fun F σ L Lf H s t o Q q _ =>
  we_of (pe_lst wa_pa) (h F σ L Lf H s t o _ fun vs H1 ⟨ρs, T1, F1, L1, ⟨h1, h2⟩, e1, rs, t1, o1⟩ => by
    subst h1
    have pr := vrs_dats rs
    refine ⟨by rw [pr.length]; exact hl, fun p hp => ?_⟩
    obtain ⟨e2, o2, e3⟩ := own_ice (o := .lst vs) o1 hp
    exact q _ _ ⟨_, T1, _, L1, h2, e1.trans e2, ⟨p, vs, rfl, e3, Paired.mono (fun _ _ => Rp.mono e2) pr⟩, t1.mono e2, o2⟩)
/-- calls whose arguments are steps -/
abbrev CallK (vals : A → List VR) (owns : A → Th) (mi : A → Option Rt) (res : A → Rt → VR → Th → Prop) (R : VR → Th → Prop) (ρs : List VR) (T1 : Th) : Prop := ∃ (a : A) (r : Rt) (Tr : Th), vals a = ρs ∧ mi a = some r ∧ T1.Perm (owns a ++ Tr) ∧ ∀ ρ To, res a r ρ To → R ρ (To ++ Tr)
theorem jx_callA (Ca : Cal X.prog X.w X.K X.mg X.base n x ps (mSpec vals owns mi res).sp) (hr : Room n X.A) (hg : Gl X x) (hA : JAX X W Γ T (e :: es) (CallK vals owns mi res R)) (hdb : (x == ("__debug__" : Str)) = false := by decide) (he : starEach (e :: es) X.env = (false, eval e X.env) :: starEach es X.env := by exact star1 rfl) (hpl : (backTo pos (starEach es X.env)).any (·.1) = false := by exact backTo_any (stars rfl)) :
    JX X W Γ T (.Call (.Name x pn) (e :: es) [] pos) R nox := fun F σ L Lf H s t o Q q _ => by
  obtain ⟨f, fd, Fn, hm, hk, hb⟩ := Ca
  refine we_of (pe_call (E := E0) Fn hr hg hm hk hb .nil passN wa_pa hdb he hpl) (hA F σ L Lf H s t o _ fun vs H1 ⟨ρs, T', F1, M1, ⟨a, r, Tr, z1, h, hT, hR⟩, e1, hv, t1, o1⟩ => ?_)
  subst z1
  rw [List.append_nil]
  obtain ⟨N1, p1, t2⟩ := t1.perm hT
  exact sp_use (g := mSpec vals owns mi res) ⟨r, h⟩ hv t2 (o1.perm (p1.symm.append_right Lf)) (fun v H' ⟨ρ', T', F', L', ⟨To, ⟨r', h1, h1'⟩, h6⟩, h2, h3, h4, h5⟩ => by
    cases h.symm.trans h1
    subst h6
    exact q v H' ⟨ρ', _, F', L', hR _ _ h1', e1.trans h2, h3, h4, h5⟩) fun c To _ _ _ h => h.elim
theorem jx_methA (Ca : CalM X.prog X.w X.K X.mg X.base n C m ps (mSpec vals owns mi res).sp) (hr : Room n X.A) (ho : JE X Γ T o (Ref p)) (hI : InsAt T p C m) (hA : JAX X W Γ T (e :: es) (fun ρs T1 => CallK vals owns mi res R (Ref p :: ρs) T1))
    (hc : noCall o = true := by rfl) (hs : (e :: es).all noStar = true := by rfl) (hl : (e :: es).length < 30 := by decide) (hp : (apos.endLine == pos.line) = true := by rfl) :
    JX X W Γ T (.Call (.Attribute o m apos) (e :: es) [] pos) R nox := fun F σ L Lf H s t ow Q q _ => by
  obtain ⟨f, fd, Fn, hm, hb, hcl⟩ := Ca
  have hs' : noStar e = true ∧ es.all noStar = true := by rw [List.all_cons, Bool.and_eq_true] at hs; exact hs
  refine we_of (pe_meth (E := E0) we_pe hcl hm Fn hr hb .nil passN wa_pa (star1 hs'.1) (backTo_any (stars hs'.2)) (ht_of hc hs hl hp)) (ho F σ L Lf H s t ow _ fun F1 M1 H1 v e1 t1 o1 r1 => ?_)
  obtain ⟨dx, fs, h1, h2⟩ := hI F1 M1 Lf H1 t1 o1
  refine ⟨p, dx, fs, r1, h1, h2, hA F1 σ M1 Lf H1 (s.mono e1) t1 o1 _ fun vs H2 ⟨ρs, T', F2, M2, ⟨a, r, Tr, z1, h, hT, hR⟩, e2, rs, t2, o2⟩ => ?_⟩
  rw [List.append_nil]
  obtain ⟨N1, p1, t3⟩ := t2.perm hT
  exact sp_use (g := mSpec vals owns mi res) ⟨r, h⟩ (by show VRs F2 (vals a) _; rw [z1]; exact .cons r1 rs) t3 (o2.perm (p1.symm.append_right Lf)) (fun v H' ⟨ρ', T', F', L', ⟨To, ⟨r', h1, h1'⟩, h6⟩, h2, h3, h4, h5⟩ => by
    cases h.symm.trans h1
    subst h6
    exact q v H' ⟨ρ', _, F', L', hR _ _ h1', (e1.trans e2).trans h2, h3, h4, h5⟩) fun c To _ _ _ h => h.elim
/-- an operator whose sides are steps -/
theorem jx_op2 {op : Operator} {r : R2} (ho : OpR X (binaryOp op) r) (h : JX X W Γ T a (fun α T1 => JX X W Γ T1 b (fun β T2 => ∃ γ, Op2 T2 r α β γ ∧ R γ T2) nox) nox) : JX X W Γ T (.BinOp a op b pos) R nox := fun F σ L Lf H s t o Q q _ =>
  we_of (pe_op ho we_pe we_pe) (h F σ L Lf H s t o _ (fun u H1 ⟨α, T1, F1, L1, h1, e1, r1, t1, o1⟩ => h1 F1 σ L1 Lf H1 (s.mono e1) t1 o1 _ (fun v H2 ⟨β, T2, F2, L2, ⟨γ, h2, h3⟩, e2, r2, t2, o2⟩ =>
    h2 F2 L2 Lf H2 u v Q t2 o2 (α.mono e2 r1) r2 fun F3 L3 H3 z e3 t3 o3 r3 => q z H3 ⟨γ, T2, F3, L3, h3, (e1.trans e2).trans e3, r3, t3, o3⟩) fun _ _ _ _ _ z => z.elim) fun _ _ _ _ _ z => z.elim)
/-- a comparison whose sides are steps -/
theorem jtx_c2 {op : CmpOp} {r : R2} {RB : Bool → Th → Prop} (ho : OpR X (compareOp op) r) (h : JX X W Γ T a (fun α T1 => JX X W Γ T1 b (fun β T2 => ∃ k, Op2 T2 r α β (Dat k) ∧ RB k T2) nox) nox) (hm : behindInMarks op b = false := by exact behind_no rfl) : JTX X Γ T (.Compare a [op] [b] pos) RB := fun F σ L Lf H s t o Q q =>
  wt_of (pt_cmp (pc_op ho we_pe we_pe) hm) (h F σ L Lf H s t o _ (fun u H1 ⟨α, T1, F1, L1, h1, e1, r1, t1, o1⟩ => h1 F1 σ L1 Lf H1 (s.mono e1) t1 o1 _ (fun v H2 ⟨β, T2, F2, L2, ⟨k, h2, h3⟩, e2, r2, t2, o2⟩ =>
    h2 F2 L2 Lf H2 u v _ t2 o2 (α.mono e2 r1) r2 fun F3 L3 H3 z e3 t3 o3 r3 => ⟨k, r3, q k T2 F3 L3 H3 h3 ((e1.trans e2).trans e3) t3 o3⟩) fun _ _ _ _ _ z => z.elim) fun _ _ _ _ _ z => z.elim)
theorem jx_c2 {op : CmpOp} {r : R2} (ho : OpR X (compareOp op) r) (h : JX X W Γ T a (fun α T1 => JX X W Γ T1 b (fun β T2 => ∃ γ, Op2 T2 r α β γ ∧ R γ T2) nox) nox) (hm : behindInMarks op b = false := by exact behind_no rfl) : JX X W Γ T (.Compare a [op] [b] pos) R nox := fun F σ L Lf H s t o Q q _ =>
  we_of (pe_cmp (pc_op ho we_pe we_pe) hm) (h F σ L Lf H s t o _ (fun u H1 ⟨α, T1, F1, L1, h1, e1, r1, t1, o1⟩ => h1 F1 σ L1 Lf H1 (s.mono e1) t1 o1 _ (fun v H2 ⟨β, T2, F2, L2, ⟨γ, h2, h3⟩, e2, r2, t2, o2⟩ =>
    h2 F2 L2 Lf H2 u v Q t2 o2 (α.mono e2 r1) r2 fun F3 L3 H3 z e3 t3 o3 r3 => q z H3 ⟨γ, T2, F3, L3, h3, (e1.trans e2).trans e3, r3, t3, o3⟩) fun _ _ _ _ _ z => z.elim) fun _ _ _ _ _ z => z.elim)
/-- f(..)[i], where f tells a tuple -/
theorem jx_ixV {k : Nat} (h : JX X W Γ T a (fun ρ T' => ∃ ρs ρ', ρ = TupV ρs ∧ ρs[k]? = some ρ' ∧ JE X Γ T' b (Dat (k : Int)) ∧ R ρ' T') nox) (hs : PlainIx b := by exact fun _ _ => rfl) : JX X W Γ T (.Subscript a b pos) R nox := fun F σ L Lf H s t o Q q _ =>
  we_of (pe_ix ix_tup we_pe we_pe hs) (h F σ L Lf H s t o _ (fun u H1 ⟨ρ, T1, F1, L1, ⟨ρs, ρ', h1, h2, hb, h3⟩, e1, r1, t1, o1⟩ => by
    subst h1
    refine hb F1 σ L1 Lf H1 (s.mono e1) t1 o1 _ fun F2 L2 H2 v e2 t2 o2 r2 => ?_
    obtain ⟨p, vs, h4, h5, h6⟩ := r1
    obtain ⟨w, h7, h8⟩ := vrs_at h6 h2
    exact ⟨p, vs, k, w, h4, r2, .inl (.inl (o2.sub _ _ (e2 _ _ h5))), atI_nat h7, q w H2 ⟨ρ', T1, F2, L2, h3, e1.trans e2, ρ'.mono e2 h8, t2, o2⟩⟩) fun _ _ _ _ _ z => z.elim)
/-- not x -/
theorem jx_not (h : JX X W Γ T a (fun ρ T' => ∃ k, ρ = Dat k ∧ R (Dat (!k)) T') nox) : JX X W Γ T (.UnaryOp .Not a pos) R nox := fun F σ L Lf H s t o Q q _ =>
  we_of (pe_not we_pe) (h F σ L Lf H s t o _ (fun u H1 ⟨ρ, T1, F1, L1, ⟨k, h1, h3⟩, e1, r1, t1, o1⟩ => by
    subst h1
    exact ⟨k, r1, q _ H1 ⟨_, T1, F1, L1, h3, e1, rfl, t1, o1⟩⟩) fun _ _ _ _ _ z => z.elim)
/-- x and y, x or y as values -/
theorem jx_one {op : BoolOp} (h : JX X W Γ T a R nox) : JX X W Γ T (.BoolOp op [a] pos) R nox := fun F σ L Lf H s t o Q q qx => we_of (pe_one we_pe) (h F σ L Lf H s t o Q q qx)
theorem jx_and (h : JX X W Γ T a (fun ρ T1 => ∃ k, ρ = Dat k ∧ (k = false → R (Dat false) T1) ∧ (k = true → JX X W Γ T1 (.BoolOp .And (b :: restE) pos) R nox)) nox) : JX X W Γ T (.BoolOp .And (a :: b :: restE) pos) R nox := fun F σ L Lf H s t o Q q qx =>
  we_of (pe_and we_pe we_pe) (h F σ L Lf H s t o _ (fun u H1 ⟨ρ, T1, F1, L1, ⟨k, h1, h2, h3⟩, e1, r1, t1, o1⟩ => by
    subst h1
    refine ⟨k, r1, ?_⟩
    cases k with
    | true => exact h3 rfl F1 σ L1 Lf H1 (s.mono e1) t1 o1 _ (fun v H2 ⟨ρ2, T2, F2, L2, z1, e2, z⟩ => q v H2 ⟨ρ2, T2, F2, L2, z1, e1.trans e2, z⟩) fun _ _ _ _ _ z => z.elim
    | false => exact q _ H1 ⟨_, T1, F1, L1, h2 rfl, e1, rfl, t1, o1⟩) fun _ _ _ _ _ z => z.elim)
theorem jx_or (h : JX X W Γ T a (fun ρ T1 => ∃ k, ρ = Dat k ∧ (k = true → R (Dat true) T1) ∧ (k = false → JX X W Γ T1 (.BoolOp .Or (b :: restE) pos) R nox)) nox) : JX X W Γ T (.BoolOp .Or (a :: b :: restE) pos) R nox := fun F σ L Lf H s t o Q q qx =>
  we_of (pe_or we_pe we_pe) (h F σ L Lf H s t o _ (fun u H1 ⟨ρ, T1, F1, L1, ⟨k, h1, h2, h3⟩, e1, r1, t1, o1⟩ => by
    subst h1
    refine ⟨k, r1, ?_⟩
    cases k with
    | false => exact h3 rfl F1 σ L1 Lf H1 (s.mono e1) t1 o1 _ (fun v H2 ⟨ρ2, T2, F2, L2, z1, e2, z⟩ => q v H2 ⟨ρ2, T2, F2, L2, z1, e1.trans e2, z⟩) fun _ _ _ _ _ z => z.elim
    | true => exact q _ H1 ⟨_, T1, F1, L1, h2 rfl, e1, rfl, t1, o1⟩) fun _ _ _ _ _ z => z.elim)
/-- a test by a step's value: the two ways apart -/
theorem jtx_valX {RB : Bool → Th → Prop} (h : JX X W Γ T e (fun ρ T' => ∃ k, ρ = Dat k ∧ RB k T') nox) (he : ∀ whole, isTrue e X.env whole = (do let v ← whole; standAt e.pos; holding [v] (truthy v)) := by exact true_plain rfl) : JTX X Γ T e RB := jtx_val h he
/-! ### walks whose list is a step -/
def JIX (X : Cx) (W : WX) (Γ : Slots) (T T2 : Th) (tg iter : Expr) (ok : Th → Prop) (ρs : List VR) : Prop := ∀ F σ L Lf H, SR F Γ σ → TR F T L → Own F (L ++ Lf) H → ∀ R : It → Hp → Prop,
  (∀ J F' M' H', Same F F' → TR F' T2 M' → Own F' (M' ++ Lf) H' → (∀ T', ok T' → Feed F' T' J ρs) → R J H') → WI X tg iter σ H R
theorem jix_list {xs : List B} (h : JX X W Γ T iter (fun ρ T' => ρ = Dat xs ∧ T' = T2) nox) : JIX X W Γ T T2 tg iter (fun _ => True) (xs.map Dat) := fun F σ L Lf H s t o R k =>
  ⟨_, pi_list we_pe, h F σ L Lf H s t o _ (fun v H1 ⟨ρ, T1, F1, M1, ⟨z1, z2⟩, e1, r, t1, o1⟩ => by
    subst z1 z2
    obtain ⟨p, vs, h1, h2, h3⟩ := rdl_dat (K := X.K) F1 M1 Lf H1 v t1 o1 r
    subst h1
    refine ⟨p, rfl, ⟨vs, h2⟩, k _ F1 M1 H1 e1 t1 o1 fun T' hT' F2 L2 Lf2 H2 i e2 t2 o2 => ?_⟩
    obtain ⟨p', vs', h1', h2', h3'⟩ := rdl_dat (K := X.K) (T := T') F2 L2 Lf2 H2 _ t2 o2 (VR.mono _ e2 r)
    cases h1'
    refine ⟨fun hl => ⟨vs', h2', by rw [h3'.length, ← List.length_map (f := (Dat : B → VR))]; exact hl⟩, fun ρ' hρ => ?_⟩
    rw [List.getElem?_map] at hρ
    cases hx : xs[i]? with
    | none => rw [hx] at hρ; cases hρ
    | some x =>
      rw [hx] at hρ
      cases hρ
      obtain ⟨w, h4, h5⟩ := Paired.get h3' hx
      exact ⟨⟨vs', w, h2', h4⟩, fun y H' ⟨a, b⟩ => ⟨F2, Same.refl _, by rw [a]; exact o2, by
        have := b vs' h2'
        rw [h4] at this
        cases this
        exact h5⟩⟩) fun _ _ _ _ _ z => z.elim⟩
theorem js_forX {S : Type} {iter : Expr} {body : List Stmt} {ok : Th → Prop} {ρs : List VR} (hp : PassesOwn (model X.prog X.w) X.A X.env X.xe) (hc : X.calm = true) (hI : JIX X W Γ T T2 tg iter ok ρs) (Inv : Nat → S → Prop) (Γs : S → Slots) (Ts : S → Th) (s0 : S)
    (h0 : Inv 0 s0) (hΓ : Wk Γ (Γs s0)) (hT : T2 = Ts s0) (hok : ∀ i s, Inv i s → ok (Ts s))
    (turn : ∀ i ρ s, ρs[i]? = some ρ → Inv i s → ∃ put ws, JG X tg ρ put ws ∧ JSs X W (put (Γs s)) (Ts s) body { D with nx := fun Γ' T' => ∃ s', Inv (i + 1) s' ∧ Wk Γ' (Γs s') ∧ T' = Ts s', ct := fun Γ' T' => ∃ s', Inv (i + 1) s' ∧ Wk Γ' (Γs s') ∧ T' = Ts s', bk := D.nx })
    (fin : ∀ s, Inv ρs.length s → D.nx (Γs s) (Ts s)) (hs : ∀ x, foldedSetIterable iter X.env x = pure x := by exact folded_no rfl) : JS X W Γ T (.For tg iter body [] pos) D := fun F σ L Lf H sr t o w => by
  refine ws_of (ps_for hp hc wi_pi wg_pg wss_pss hs) ?_
  refine hI F σ L Lf H sr t o _ fun J F0 M0 H0 e0 t0 o0 fd => ?_
  refine ⟨fun i m σ' H' => i + m = ρs.length ∧ ∃ s F' L', Inv i s ∧ Same F0 F' ∧ SR F' (Γs s) σ' ∧ TR F' (Ts s) L' ∧ Own F' (L' ++ Lf) H', ⟨ρs.length, by simp, s0, F0, M0, h0, Same.refl _, (sr.mono e0).wk hΓ, hT ▸ t0, o0⟩, ?_⟩
  rintro i m σ' H' ⟨him, s, F', L', hi, e', s', t', o'⟩
  have f := fd (Ts s) (hok i s hi) F' L' Lf H' i e' t' o'
  cases q : ρs[i]? with
  | none =>
    have hl : ρs.length ≤ i := List.getElem?_eq_none_iff.mp q
    have : i = ρs.length := by omega
    subst this
    exact .inl ⟨f.1 hl, Γs s, Ts s, F', L', fin s hi, e0.trans e', s', t', o'⟩
  | some ρ =>
    have hl : i < ρs.length := (List.getElem?_eq_some_iff.mp q).1
    obtain ⟨hgo, hy⟩ := f.2 ρ q
    refine .inr ⟨hgo, fun σ2 H2 => ∃ s2 F2 L2, Inv (i + 1) s2 ∧ Same F0 F2 ∧ SR F2 (Γs s2) σ2 ∧ TR F2 (Ts s2) L2 ∧ Own F2 (L2 ++ Lf) H2, fun σ2 H2 ⟨s2, F2, L2, z⟩ => ⟨m - 1, by omega, by omega, s2, F2, L2, z⟩, fun x H1 hx => ?_⟩
    obtain ⟨F1, e1, o1, r1⟩ := hy x H1 hx
    obtain ⟨put, ws, hg, hb⟩ := turn i ρ s q hi
    refine hg (Γs s) (Ts s) F1 σ' L' Lf H1 x (s'.mono e1) (t'.mono e1) o1 r1 _ fun σ2 s2 _ => ?_
    refine wss_le ?_ (hb F1 σ2 L' Lf H1 s2 (t'.mono e1) o1 (w.mono ((e0.trans e').trans e1) fun _ _ q => q))
    have e2 := (e0.trans e').trans e1
    have nx : ∀ σ3 H3, atS (fun Γ' T' => ∃ s', Inv (i + 1) s' ∧ Wk Γ' (Γs s') ∧ T' = Ts s') F1 Lf σ3 H3 → ∃ s2 F2 L2, Inv (i + 1) s2 ∧ Same F0 F2 ∧ SR F2 (Γs s2) σ3 ∧ TR F2 (Ts s2) L2 ∧ Own F2 (L2 ++ Lf) H3 := by
      rintro σ3 H3 ⟨Γ3, T3, F3, L3, ⟨s3, i3, w3, rfl⟩, e3, s3', t3, o3⟩
      exact ⟨s3, F3, L3, i3, (e'.trans e1).trans e3, s3'.wk w3, t3, o3⟩
    exact ⟨nx, fun _ _ => atV_le e2 fun _ _ q => q, fun _ _ => atS_le e2 fun _ _ q => q, nx⟩
theorem js_forOX {S α : Type} {body : List Stmt} {xs : List α} (it : α → VR) {f : S → α → Option S} {s0 sN : S} (ok : Th → Prop) (hm : foldO f s0 xs = some sN) (Γs : S → Slots) (Ts : S → Th) (hp : PassesOwn (model X.prog X.w) X.A X.env X.xe) (hc : X.calm = true) (hI : JIX X W Γ T T2 tg iter ok (xs.map it))
    (hΓ : Wk Γ (Γs s0)) (hT : T2 = Ts s0) (hok : ∀ s, ok (Ts s))
    (turn : ∀ x s s', x ∈ xs → f s x = some s' → ∃ put ws, JG X tg (it x) put ws ∧ JSs X W (put (Γs s)) (Ts s) body { D with nx := fun Γ' T' => Wk Γ' (Γs s') ∧ T' = Ts s', ct := fun Γ' T' => Wk Γ' (Γs s') ∧ T' = Ts s', bk := fun _ _ => False })
    (fin : JSs X W (Γs sN) (Ts sN) rest D) (hs : ∀ x, foldedSetIterable iter X.env x = pure x := by exact folded_no rfl) : JSs X W Γ T (.For tg iter body [] pos :: rest) D := by
  refine js_cons (M := fun Γ' T' => Γ' = Γs sN ∧ T' = Ts sN) ?_ fun _ _ ⟨a, b⟩ => by subst a b; exact fin
  refine js_forX hp hc hI (fun i s => foldO f s (xs.drop i) = some sN) Γs Ts s0 (by simpa using hm) hΓ hT (fun i s _ => hok s) (fun i ρ s hi inv => ?_) (fun s inv => ?_) hs
  · rw [List.getElem?_map] at hi
    cases hx : xs[i]? with
    | none => rw [hx] at hi; cases hi
    | some x =>
      rw [hx] at hi
      cases hi
      obtain ⟨hl, hx'⟩ := List.getElem?_eq_some_iff.mp hx
      rw [List.drop_eq_getElem_cons hl, hx'] at inv
      obtain ⟨s', h1, h2⟩ := obind inv
      obtain ⟨put, ws, hg, hb⟩ := turn x s s' (hx' ▸ List.getElem_mem hl) h1
      exact ⟨put, ws, hg, jss_le hb ⟨fun _ _ ⟨a, b⟩ => ⟨s', h2, a, b⟩, fun _ _ q => q, fun _ _ q => q.elim, fun _ _ ⟨a, b⟩ => ⟨s', h2, a, b⟩, fun _ _ q => q⟩⟩
  · rw [List.length_map, List.drop_length] at inv
    cases inv
    exact ⟨rfl, rfl⟩
theorem js_forCX {S R α : Type} {body : List Stmt} {xs : List α} (it : α → VR) {f : S → α → Option (Ctl S R)} {s0 : S} {r : Ctl S R} (ok : Th → Prop) (hm : foldC f s0 xs = some r) (Γs : S → Slots) (Ts : S → Th) (hp : PassesOwn (model X.prog X.w) X.A X.env X.xe) (hc : X.calm = true) (hI : JIX X W Γ T T2 tg iter ok (xs.map it))
    (hΓ : Wk Γ (Γs s0)) (hT : T2 = Ts s0) (hok : ∀ s, ok (Ts s))
    (turn : ∀ x s r', x ∈ xs → f s x = some r' → (∀ q, r' = .ret q → r = .ret q) → ∃ put ws, JG X tg (it x) put ws ∧ JSs X W (put (Γs s)) (Ts s) body { D with nx := fun Γ' T' => ∃ s', r' = .go s' ∧ Wk Γ' (Γs s') ∧ T' = Ts s', ct := fun Γ' T' => ∃ s', r' = .go s' ∧ Wk Γ' (Γs s') ∧ T' = Ts s', bk := fun Γ' T' => ∃ s', r' = .brk s' ∧ Wk Γ' (Γs s') ∧ T' = Ts s' })
    (fin : ∀ s, r = .go s → JSs X W (Γs s) (Ts s) rest D) (hs : ∀ x, foldedSetIterable iter X.env x = pure x := by exact folded_no rfl) : JSs X W Γ T (.For tg iter body [] pos :: rest) D := by
  refine js_cons (M := fun Γ' T' => ∃ s, r = .go s ∧ Wk Γ' (Γs s) ∧ T' = Ts s) ?_ fun _ _ ⟨s, h, a, b⟩ => by subst b; exact js_wk a (fin s h)
  refine js_forX hp hc hI (fun i s => foldC f s (xs.drop i) = some r) Γs Ts s0 (by simpa using hm) hΓ hT (fun i s _ => hok s) (fun i ρ s hi inv => ?_) (fun s inv => ?_) hs
  · rw [List.getElem?_map] at hi
    cases hx : xs[i]? with
    | none => rw [hx] at hi; cases hi
    | some x =>
      rw [hx] at hi
      cases hi
      obtain ⟨hl, hx'⟩ := List.getElem?_eq_some_iff.mp hx
      rw [List.drop_eq_getElem_cons hl, hx'] at inv
      obtain ⟨r', h1, h2⟩ := obind inv
      obtain ⟨put, ws, hg, hb⟩ := turn x s r' (hx' ▸ List.getElem_mem hl) h1 (fun q e => by subst e; cases h2; rfl)
      refine ⟨put, ws, hg, jss_le hb ⟨fun _ _ ⟨s', e, a, b⟩ => ⟨s', by subst e; exact h2, a, b⟩, fun _ _ q => q, fun Γ' T' ⟨s', e, a, b⟩ => ?_, fun _ _ ⟨s', e, a, b⟩ => ⟨s', by subst e; exact h2, a, b⟩, fun _ _ q => q⟩⟩
      subst e
      cases h2
      exact ⟨s', rfl, a, b⟩
  · rw [List.length_map, List.drop_length] at inv
    cases inv
    exact ⟨s, rfl, Wk.refl _, rfl⟩
end
end G

/-! GV: isinstance of own classes; checks of the head. -/
namespace G
open PySem PySem.Spec PyProof.Rows L2 C8
open Rp (rep)
def allB (l : List Bool) : Bool := l.all id
theorem allB_at {l : List Bool} (h : allB l = true) (i : Nat) {b : Bool} (e : l[i]? = some b) : b = true := by
  unfold allB at h
  exact List.all_eq_true.mp h b (List.mem_of_getElem? e)
def insB (K : PySem.W.Frag) (C : Addr) : Bool :=
  decide (PySem.W.findIn K (.ref C) "__class__" = some (some (.builtin "object.__class__"))) && (decide (PySem.W.specialIn K (.builtin "object.__class__") "__get__" = some (some (.builtin "getset_descriptor.__get__"))) &&
  (decide (PySem.W.takesIn K (.builtin "object.__class__") = some true) && (decide (PySem.W.mroIn K C (.type "object") = some true) && decide (PySem.W.kitOne K (.ref C) (.ref C) = some true))))
theorem insB_ok {K : PySem.W.Frag} {C : Addr} (c : Cls K C) (h : insB K C = true) : InsC K C := by
  unfold insB at h
  simp only [Bool.and_eq_true] at h
  obtain ⟨h1, h2, h3, h4, h5⟩ := h
  exact ⟨c, of_decide_eq_true h1, of_decide_eq_true h2, of_decide_eq_true h3, of_decide_eq_true h4, of_decide_eq_true h5⟩
section
variable {X : Cx} {W : WX} {Γ Γ' : Slots} {T T' Tr : Th} {e o a b c : Expr} {es elts : List Expr} {pos pos' apos pn tpos p' : Pos} {ρ α β : VR} {A B : Type} [Rp A] [Rp B] {xs : List A} {ys : List B}
theorem je_isC {q : Pos} {f : Str} {C p : Addr} {fs : List (Str × FV)} (i : Nat) (ic : InsC X.K C) (hi : T[i]? = some (p, OObj C fs)) (hg : Gl X "isinstance") (hm : X.mg "isinstance" = none) (ha : JE X Γ T a (Ref p)) (gf : Gl X f) (mf : X.mg f = some (.ref C)) (hs : starEach [a, .Name f q] X.env = (false, eval a X.env) :: starEach [.Name f q] X.env := by exact star1 rfl) (hs' : starEach [.Name f q] X.env = (false, eval (.Name f q) X.env) :: starEach [] X.env := by exact star1 rfl) (hd : (f == ("__debug__" : Str)) = false := by decide) :
    JE X Γ T (.Call (.Name "isinstance" p') [a, .Name f q] [] pos) (Dat true) :=
  je_ca (ρs := [Ref p, ⟨fun _ v => v = .ref C, fun _ h => h⟩]) (pe_callB (call_isC ic) hg hm (by decide +kernel) wa_pa (by decide) (by decide) hs (by rw [hs']; rfl)) (ja_cons ha (ja_cons (je_con (pe_glob (v := .ref C) gf mf rfl hd) fun _ => rfl) ja_nil hs') hs) fun F L Lf H vs Q t o rs k => by
    obtain ⟨x, y, rfl, rx, ry⟩ := vrs2 rs
    cases (show y = .ref C from ry)
    cases (show x = .ref p from rx)
    obtain ⟨Lk, Lr, ⟨dx, ws, Ls, hf, hL⟩, o2, _⟩ := t.upd o hi
    subst hL
    exact ⟨p, dx, _, rfl, o2.at, k F L H _ (Same.refl F) t o rfl⟩
end
theorem el_go {S R β : Type} {s : S} {k : S → Option β} {f : R → Option β} {r : β} (h : (Ctl.go s : Ctl S R).el k f = some r) : k s = some r := h
theorem sw_attr {elt o : Expr} {gs : List Comprehension} {scope : Scope} {pos p2 : Pos} {n : Str} {l : Nat} {env : Env} : swapsWith (.ListComp elt gs scope pos) (some (.Attribute o n p2)) l env = pure false := by
  unfold swapsWith
  rfl
theorem sw_cell {elt : Expr} {gs : List Comprehension} {scope : Scope} {pos py : Pos} {y : Str} {l : Nat} {env : Env} (hy : env.scope.names.lookup y = some .cell) : swapsWith (.ListComp elt gs scope pos) (some (.Name y py)) l env = pure false := by
  have ky : env.kindOf y = some .cell := hy
  have e : ((some NameKind.cell : Option NameKind) == some NameKind.local) = false := by decide
  unfold swapsWith
  simp only [ky, e, Bool.and_false, Bool.false_and]
section
variable {X : Cx} {W : WX} {Γ : Slots} {T : Th} {stmts : List Stmt} {D : Po} {pos : Pos} {tg iter elt : Expr} {ifs : List Expr} {B : Type} [Rp B]
/-- y = [..], the new list owned -/
theorem js_newLc {ρs : List VR} {os : List (Option B)} {scope : Scope} {ok : Th → Prop} (i : Nat) {y : Str} {py : Pos} {spos : Pos} (own : List (Str × Nat)) (hc : X.calm = true) (hN : X.N.Nodup) (bo : BlkOk X.N X.env.scope scope own) (hI : JI X Γ T tg iter ok ρs) (hok : ok T) (hl : ρs.length = os.length) (hz : os.length ≤ 1000000)
    (turn : ∀ (i : Nat) (ρ : VR) (o : Option B), ρs[i]? = some ρ → os[i]? = some o → ∃ put ws, (∀ w ∈ ws, w ∈ own.map (·.2)) ∧ Blk X scope (fun Y => JG Y tg ρ put ws) ∧ Blk X scope (fun Y => JTs Y (put ((own.map (·.2)).foldr (fun v g => g.set v none) Γ)) T ifs o.isSome) ∧
      ∀ y, o = some y → Blk X scope fun Y => JE Y (put ((own.map (·.2)).foldr (fun v g => g.set v none) Γ)) T elt (Dat y)) (hD : ∀ p, D.nx (Γ.set i (some (Ref p))) ((p, OL (os.filterMap id)) :: T))
    (hy : X.N[i]? = some y) (hyl : X.env.scope.names.lookup y = some .local) (hsw : swapsWith (.ListComp elt [⟨tg, iter, ifs, 0⟩] scope pos) (some (.Name y py)) spos.line X.env = pure true) (hs : ∀ x, foldedSetIterable iter X.env x = pure x := by exact folded_no rfl) :
    JS X W Γ T (.Assign [.Name y py] (.ListComp elt [⟨tg, iter, ifs, 0⟩] scope pos) spos) D := fun F σ L Lf H s t o w =>
  ws_of (ps_setLc hc hN hy hyl hsw wi_pi bo (fun s H C cl fp => ⟨fun pins s' σ H' v u Q I r h => (h s H C cl fp).elim fun t ⟨h1, h2⟩ => h1.run pins s' σ H' v u Q I r h2⟩) (fun s H C cl fp => ⟨fun pins s' σ H' Q I h => wts_pts.run pins s' σ H' Q I (h s H C cl fp)⟩) (fun s H C cl fp => ⟨fun pins s' σ H' Q I h => (h s H C cl fp).run pins s' I⟩) hs)
    (show tLc (WI X tg iter) (gLc X scope tg) (ttLc X scope ifs) (teLc X scope elt) (own.map (·.2)) σ H _ from lc_read hI hok hl hz turn s t o fun F' M' H' p us e t' o' pr => by
      exact ⟨_, _, _, (p, .lst us) :: M', hD p, e, (s.mono e).set (s := some (Ref p)) (o := some (V.ref p)) ⟨_, rfl, rfl⟩ i, .cons (L1 := [(p, .lst us)]) ⟨us, pr, rfl⟩ t', o'⟩)
theorem js_newM {A : Type} {xs : List A} {ys : List B} {m : A → Option B} {it : A → VR} {scope : Scope} (i : Nat) {y : Str} {py spos : Pos} (own : List (Str × Nat)) (hm : mapB m xs = some ys) (ok : Th → Prop) (hc : X.calm = true) (hN : X.N.Nodup) (bo : BlkOk X.N X.env.scope scope own) (hI : JI X Γ T tg iter ok (xs.map it)) (hok : ok T)
    (turn : ∀ x y, x ∈ xs → m x = some y → ∃ put ws, (∀ w ∈ ws, w ∈ own.map (·.2)) ∧ Blk X scope (fun Y => JG Y tg (it x) put ws) ∧ Blk X scope fun Y => JE Y (put ((own.map (·.2)).foldr (fun v g => g.set v none) Γ)) T elt (Dat y)) (hk : ∀ p, JSs X W (Γ.set i (some (Ref p))) ((p, OL ys) :: T) stmts D)
    (hsw : swapsWith (.ListComp elt [⟨tg, iter, [], 0⟩] scope pos) (some (.Name y py)) spos.line X.env = pure true) (hy : X.N[i]? = some y := by rfl) (hyl : X.env.scope.names.lookup y = some .local := by rfl) (hs : ∀ x, foldedSetIterable iter X.env x = pure x := by exact folded_no rfl) :
    JSs X W Γ T (.Assign [.Name y py] (.ListComp elt [⟨tg, iter, [], 0⟩] scope pos) spos :: stmts) D := by
  unfold mapB at hm
  split at hm
  · obtain ⟨h1, h2⟩ := mapO_os hm
    have e : ys = (ys.map some).filterMap id := by simp [List.filterMap_map]
    refine js_cons (M := fun Γ' T' => JSs X W Γ' T' stmts D) ?_ fun _ _ h => h
    refine js_newLc (os := ys.map some) i own hc hN bo hI hok (by simp [h1]) (by simpa [← h1] using ‹xs.length ≤ 1000000›) (fun i ρ o hρ ho => ?_) (fun p => by rw [← e]; exact hk p) hy hyl hsw hs
    rw [List.getElem?_map] at hρ ho
    cases hx : xs[i]? with
    | none => rw [hx] at hρ; cases hρ
    | some x =>
      cases hy : ys[i]? with
      | none => rw [hy] at ho; cases ho
      | some y =>
        rw [hx] at hρ; rw [hy] at ho
        cases hρ; cases ho
        obtain ⟨put, ws, a1, a2, a3⟩ := turn x y (List.mem_of_getElem? hx) (h2 i x y hx hy)
        exact ⟨put, ws, a1, a2, fun _ _ _ _ _ => jts_nil, fun y' e => by cases e; exact a3⟩
  · cases hm
theorem js_newT {A : Type} {test : Expr} {xs : List A} {ys : List B} {m : A → Option (Option B)} {it : A → VR} {scope : Scope} (i : Nat) {y : Str} {py spos : Pos} (own : List (Str × Nat)) (hm : lcB m xs = some ys) (ok : Th → Prop) (hc : X.calm = true) (hN : X.N.Nodup) (bo : BlkOk X.N X.env.scope scope own) (hI : JI X Γ T tg iter ok (xs.map it)) (hok : ok T)
    (turn : ∀ x o, x ∈ xs → m x = some o → ∃ put ws, (∀ w ∈ ws, w ∈ own.map (·.2)) ∧ Blk X scope (fun Y => JG Y tg (it x) put ws) ∧ Blk X scope (fun Y => JT Y (put ((own.map (·.2)).foldr (fun v g => g.set v none) Γ)) T test o.isSome) ∧ ∀ y, o = some y → Blk X scope fun Y => JE Y (put ((own.map (·.2)).foldr (fun v g => g.set v none) Γ)) T elt (Dat y)) (hk : ∀ p, JSs X W (Γ.set i (some (Ref p))) ((p, OL ys) :: T) stmts D)
    (hsw : swapsWith (.ListComp elt [⟨tg, iter, [test], 0⟩] scope pos) (some (.Name y py)) spos.line X.env = pure true) (hy : X.N[i]? = some y := by rfl) (hyl : X.env.scope.names.lookup y = some .local := by rfl) (hs : ∀ x, foldedSetIterable iter X.env x = pure x := by exact folded_no rfl) :
    JSs X W Γ T (.Assign [.Name y py] (.ListComp elt [⟨tg, iter, [test], 0⟩] scope pos) spos :: stmts) D := by
  unfold lcB at hm
  split at hm
  · obtain ⟨os, h0, h1, h2⟩ := lcO_os hm
    refine js_cons (M := fun Γ' T' => JSs X W Γ' T' stmts D) ?_ fun _ _ h => h
    refine js_newLc (os := os) i own hc hN bo hI hok (by simp [h1]) (by simpa [← h1] using ‹xs.length ≤ 1000000›) (fun i ρ o hρ ho => ?_) (fun p => by rw [h0]; exact hk p) hy hyl hsw hs
    rw [List.getElem?_map] at hρ
    cases hx : xs[i]? with
    | none => rw [hx] at hρ; cases hρ
    | some x =>
      rw [hx] at hρ
      cases hρ
      obtain ⟨put, ws, a1, a2, a3, a4⟩ := turn x o (List.mem_of_getElem? hx) (h2 i x o hx ho)
      exact ⟨put, ws, a1, a2, fun s H C cl fp => jts_one (a3 s H C cl fp), a4⟩
  · cases hm
end
section
variable {X : Cx} {T : Th} {A : Type} [Rp A] [DpvT A] [DecidableEq A] {x y : A}
theorem o2_eqD (hd : Dpv.dep A ≤ 64 := by decide) : Op2 T (rEqD X.K) (Dat x) (Dat y) (Dat (decide (x = y))) := fun F L Lf H u v Q t o ru rv k =>
  ⟨_, _, dpv_dat F L Lf H u t o ru, dpv_dat F L Lf H v t o rv, shaped_of hd (DpvT.all x), shaped_of hd (DpvT.all y), k F L H _ (Same.refl F) t o (by show V.bl _ = V.bl _; rw [eqv_dec])⟩
theorem o2_neD (hd : Dpv.dep A ≤ 64 := by decide) : Op2 T (rNeD X.K) (Dat x) (Dat y) (Dat (!decide (x = y))) := fun F L Lf H u v Q t o ru rv k =>
  ⟨_, _, dpv_dat F L Lf H u t o ru, dpv_dat F L Lf H v t o rv, shaped_of hd (DpvT.all x), shaped_of hd (DpvT.all y), k F L H _ (Same.refl F) t o (by show V.bl _ = V.bl _; rw [eqv_dec])⟩
end
section
variable {X : Cx} {W : WX} {Γ : Slots} {T : Th} {stmts : List Stmt} {D : Po} {pos : Pos} {tg iter elt : Expr} {B : Type} [Rp B] {κ A : Type} [Rp κ] [DecidableEq κ] [DKey κ] [Rp A] {d : List (κ × A)} {p : Addr}
/-- y = [.. for k in d] -/
theorem js_setMD {ys : List B} {m : κ → Option B} {scope : Scope} (i n : Nat) {y : Str} {py spos : Pos} (own : List (Str × Nat)) (hk : T[n]? = some (p, OD d)) (hm : mapB m (d.map (·.1)) = some ys) (hc : X.calm = true) (hN : X.N.Nodup) (bo : BlkOk X.N X.env.scope scope own) (hi : ∀ T', JE X Γ T' iter (Ref p))
    (turn : ∀ od u x y, x ∈ d.map (·.1) → m x = some y → ∃ put ws, (∀ w ∈ ws, w ∈ own.map (·.2)) ∧ Blk X scope (fun Y => JG Y tg (Dat x) put ws) ∧ Blk X scope fun Y => JE Y (put ((own.map (·.2)).foldr (fun v g => g.set v none) Γ)) (T.set n (p, OZ od u d)) elt (Dat y)) (h : JSs X W (Γ.set i (some (Dat ys))) T stmts D)
    (hsw : swapsWith (.ListComp elt [⟨tg, iter, [], 0⟩] scope pos) (some (.Name y py)) spos.line X.env = pure true) (hy : X.N[i]? = some y := by rfl) (hyl : X.env.scope.names.lookup y = some .local := by rfl) (hs : ∀ x, foldedSetIterable iter X.env x = pure x := by exact folded_no rfl) :
    JSs X W Γ T (.Assign [.Name y py] (.ListComp elt [⟨tg, iter, [], 0⟩] scope pos) spos :: stmts) D := by
  unfold mapB at hm
  split at hm
  · obtain ⟨h1, h2⟩ := mapO_os hm
    have e : ys = (ys.map some).filterMap id := by simp [List.filterMap_map]
    refine js_cons (M := fun Γ' T' => Γ' = Γ.set i (some (Dat ys)) ∧ T' = T) (js_lockD n hk fun od u => ?_) fun _ _ ⟨a, b⟩ => by subst a b; exact h
    have hset : (T.set n (p, OZ od u d))[n]? = some (p, OZ od u d) := List.getElem?_set_self (List.getElem?_eq_some_iff.mp hk).1
    refine js_setLc (os := ys.map some) i own hc hN bo (ji_dict n (hi _) hset) hset (by simp [← h1]) (by simpa [← h1] using ‹(d.map (·.1)).length ≤ 1000000›) (fun j ρ o hρ ho => ?_) ⟨T, rfl, hk, by rw [← e], rfl⟩ hy hyl hsw hs
    rw [List.getElem?_map] at hρ ho
    cases hx : (d.map (·.1))[j]? with
    | none => rw [hx] at hρ; cases hρ
    | some x =>
      cases hy' : ys[j]? with
      | none => rw [hy'] at ho; cases ho
      | some y =>
        rw [hx] at hρ; rw [hy'] at ho
        cases hρ; cases ho
        obtain ⟨put, ws, a1, a2, a3⟩ := turn od u x y (List.mem_of_getElem? hx) (h2 j x y hx hy')
        exact ⟨put, ws, a1, a2, fun _ _ _ _ _ => jts_nil, fun y' e => by cases e; exact a3⟩
  · cases hm
end
/-! ### a list of three kinds -/
structure L3 (α β γ : Type) where
  (a : α) (b : β) (c : γ)
  deriving DecidableEq
instance {α β γ : Type} [Rp α] [Rp β] [Rp γ] : Rp (L3 α β γ) := ⟨fun F v t => ∃ p x y z, v = .ref p ∧ F p = some (.lst [x, y, z]) ∧ rep F x t.a ∧ rep F y t.b ∧ rep F z t.c,
  fun e ⟨p, x, y, z, h1, h2, h3, h4, h5⟩ => ⟨p, x, y, z, h1, e _ _ h2, Rp.mono e h3, Rp.mono e h4, Rp.mono e h5⟩⟩
instance instDpvL3 {A B C : Type} [Rp A] [Rp B] [Rp C] [Dpv A] [Dpv B] [Dpv C] : Dpv (L3 A B C) where
  toD := fun x => .list [Dpv.toD x.a, Dpv.toD x.b, Dpv.toD x.c]
  dep := max (Dpv.dep A) (max (Dpv.dep B) (Dpv.dep C)) + 1
  lok := fun x => Dpv.lok x.a && (Dpv.lok x.b && Dpv.lok x.c)
  dp := fun e ⟨p, x, y, z, h1, h2, h3, h4, h5⟩ => by
    subst h1
    exact .lst (SqL.of (e _ _ h2)) (.cons (Dpv.dp e h3) (.cons (Dpv.dp e h4) (.cons (Dpv.dp e h5) .nil)))
  eq := fun a b => by
    rw [PyData.eqv]
    simp only [PyData.eqvAll, Bool.and_true, Bool.and_eq_true, Dpv.eq]
    constructor
    · intro h; cases a; cases b; simp only at h; obtain ⟨rfl, rfl, rfl⟩ := h; rfl
    · intro h; subst h; exact ⟨rfl, rfl, rfl⟩
  lay := fun a h => by
    rw [Bool.and_eq_true, Bool.and_eq_true] at h
    rw [PyData.canLay0]
    simp [PyData.canLayAll0, Dpv.lay _ h.1, Dpv.lay _ h.2.1, Dpv.lay _ h.2.2]
  low := fun a => by
    have h1 := Dpv.low a.a
    have h2 := Dpv.low a.b
    have h3 := Dpv.low a.c
    simp only [PyData.depth, PyData.depthAll]
    omega
section
variable {X : Cx} {W : WX} {Γ : Slots} {T : Th} {a b c i : Expr} {pos p : Pos} {A B C : Type} [Rp A] [Rp B] [Rp C] {x : A} {y : B} {z : C} {t3 : L3 A B C}
theorem je_list3 (h : JA X Γ T [a, b, c] [Dat x, Dat y, Dat z]) : JE X Γ T (.List [a, b, c] pos) (Dat (L3.mk x y z)) := fun F σ L Lf H s t o Q k =>
  we_of (pe_lst wa_pa) (h F σ L Lf H s t o _ fun F1 M1 H1 vs e1 t1 o1 rs => by
    cases rs with
    | cons r1 rs => cases rs with
      | cons r2 rs => cases rs with
        | cons r3 rs =>
          cases rs
          refine ⟨by show 3 ≤ sizeLine; rw [sizeLine_eq]; decide, fun p hp => ?_⟩
          obtain ⟨e2, o2, e3⟩ := own_ice (o := .lst _) o1 hp
          exact k _ M1 _ _ (e1.trans e2) (t1.mono e2) o2 ⟨p, _, _, _, rfl, e3, Rp.mono e2 r1, Rp.mono e2 r2, Rp.mono e2 r3⟩)
theorem je_ixl3a (ha : JE X Γ T a (Dat t3)) (hb : JE X Γ T i (Dat (0 : Int))) (hs : PlainIx i := by exact fun _ _ => rfl) : JE X Γ T (.Subscript a i pos) (Dat t3.a) :=
  je_two (t := tOp (rIxL X.K)) (pe_ix ix_list we_pe we_pe hs) (fun _ _ _ _ _ h => h) ha hb fun F L Lf H u v Q t o ⟨p, x', y', z', h1, h2, h3, h4, h5⟩ rv k => ⟨p, _, 0, x', h1, rv, SqL.of (o.sub _ _ h2), rfl, k F L H _ (Same.refl F) t o h3⟩
theorem je_ixl3b (ha : JE X Γ T a (Dat t3)) (hb : JE X Γ T i (Dat (1 : Int))) (hs : PlainIx i := by exact fun _ _ => rfl) : JE X Γ T (.Subscript a i pos) (Dat t3.b) :=
  je_two (t := tOp (rIxL X.K)) (pe_ix ix_list we_pe we_pe hs) (fun _ _ _ _ _ h => h) ha hb fun F L Lf H u v Q t o ⟨p, x', y', z', h1, h2, h3, h4, h5⟩ rv k => ⟨p, _, 1, y', h1, rv, SqL.of (o.sub _ _ h2), rfl, k F L H _ (Same.refl F) t o h4⟩
theorem je_ixl3c (ha : JE X Γ T a (Dat t3)) (hb : JE X Γ T i (Dat (2 : Int))) (hs : PlainIx i := by exact fun _ _ => rfl) : JE X Γ T (.Subscript a i pos) (Dat t3.c) :=
  je_two (t := tOp (rIxL X.K)) (pe_ix ix_list we_pe we_pe hs) (fun _ _ _ _ _ h => h) ha hb fun F L Lf H u v Q t o ⟨p, x', y', z', h1, h2, h3, h4, h5⟩ rv k => ⟨p, _, 2, z', h1, rv, SqL.of (o.sub _ _ h2), rfl, k F L H _ (Same.refl F) t o h5⟩
end
end G

/-! ### list(reversed(xs)) -/
namespace G
open PySem PySem.Spec PyProof.Rows RT
section
variable {prog : Program} {w : World} {A : Around} {E : Value → Shared → Prop} {s : Shared}
theorem extend_rev {R : Result → Shared → Prop} {it l : Addr} {items : Array Value} (hh : A.handled = none) (hit : s.heap.IsRevIter it l ((items.size : Int) - 1)) (hl : s.heap.IsList l items) (hne : l ≠ it) (hn : items.size ≤ sizeLine)
    (S : Addr) (res : Value) (c₀ : Nat) (hSi : S ≠ it) (hSl : S ≠ l) (hS₁ : s.heap.get? S = some { cls := .type "list", data := .seq #[] c₀ })
    (hR : ∀ h' tk acc' c', (∀ b o, b ≠ S → b ≠ it → s.heap.get? b = some o → h'.get? b = some o) → h'.get? S = some { cls := .type "list", dict := none, data := .seq acc' c', slots := #[] } →
      ItemsOf (fun i v => items[items.size - 1 - i]? = some v) acc' items.size → R (.ok (.ret res)) { s with heap := h', toks := tk }) :
    wpAny (model prog w) A.in1 (Builtin.List.listExtendWith (.ref S) (.ref it) res)
      (fun fin s' => match fin with | .done f => R (.ok f) s' | .again c' => c'.quiet = true ∧ codeAny (model prog w) A c' R s') (fun e s' => R (.error e) s') s := by
  have W := (Walks.listRev (prog := prog) (w := w) (A := A.in1) hh it l hne items).toS
  have hSf : S ∉ [it, l] := by simp only [List.mem_cons, List.not_mem_nil, or_false, not_or]; exact ⟨hSi, hSl⟩
  have hT : s.TypeIs (.ref it) "list_reverseiterator" := Heap.IsRevIter.typeIs hit
  have h1 : Builtin.List.listSameRef (.ref S) (.ref it) = false := by simp [Builtin.List.listSameRef, hSi]
  unfold Builtin.List.listExtendWith
  refine wpAny_bind (wpAny_typeOf hT ?_)
  rw [if_neg (by rw [h1]; decide)]
  refine wpAny_bind (wpAny_pyIter_revIter hit ?_)
  refine wpAny_bind (wpAny_holding ?_)
  unfold Builtin.List.listLengthHint
  refine wpAny_bind (wpAny_specialOf hT nolen_lri ?_)
  show wpAny _ A.in1 (specialOf (Value.ref it) (Str.ofString "__length_hint__") >>= _) _ _ _
  refine wpAny_bind (wpAny_specialOf hT hint_lri ?_)
  generalize hid : ("list_reverseiterator.__length_hint__" : String) = id0
  wp_delta
  rw [show splitId id0 = some ("list_reverseiterator", "__length_hint__") from by subst hid; decide +kernel]
  subst hid
  refine wpAny_bind (wpAny_isInstance (b := true) hT (by rw [isSubtype_type]; kernel_rfl) ?_)
  refine wpAny_pure ?_
  rw [if_neg (by decide)]
  have e0 : ((items.size : Nat) : Int) - 1 - ((0 : Nat) : Int) = (items.size : Int) - 1 := by omega
  refine wpAny_pure ⟨plainId_quiet F.plain_extend_loop _, codeAny_extend_loopS W hn _ hSf _ items.size 0 _ _ _ rfl (Nat.zero_le _) ⟨Nat.zero_le _, by rw [e0]; exact hit, hl⟩ hS₁ (ItemsOf.nil _) fun s' acc' c' hm hS' hacc => ?_⟩
  rw [Moved.eq_with hm]
  refine hR s'.heap s'.toks acc' c' (fun b o hb hb2 e => ?_) hS' hacc
  exact hm.heap b o (fun hmem => by
    rcases List.mem_cons.mp hmem with e' | hmem
    · exact hb e'
    · exact hb2 (List.mem_singleton.mp hmem)) e
theorem list_init_rev {R : Result → Shared → Prop} {it l : Addr} {items : Array Value} (hh : A.handled = none) (hit : s.heap.IsRevIter it l ((items.size : Int) - 1)) (hl : s.heap.IsList l items) (hne : l ≠ it) (hn : items.size ≤ sizeLine)
    (S : Addr) (hSi : S ≠ it) (hSl : S ≠ l) (hS : s.heap.get? S = some { cls := .type "list", data := .seq #[] })
    (hR : ∀ h' tk acc' c', (∀ b o, b ≠ S → b ≠ it → s.heap.get? b = some o → h'.get? b = some o) → h'.get? S = some { cls := .type "list", dict := none, data := .seq acc' c', slots := #[] } →
      ItemsOf (fun i v => items[items.size - 1 - i]? = some v) acc' items.size → R (.ok (.ret .none)) { s with heap := h', toks := tk }) :
    wpAny (model prog w) A.in1 (Builtin.«list.__init__» ⟨[.ref S, .ref it], []⟩)
      (fun fin s' => match fin with | .done f => R (.ok f) s' | .again c' => c'.quiet = true ∧ codeAny (model prog w) A c' R s') (fun e s' => R (.error e) s') s := by
  show wpAny _ _ (do let old ← Builtin.List.listItems (.ref S); Builtin.List.listUpdate (.ref S) (fun _ => #[]); letGo old.toList.reverse; Builtin.List.listExtendWith (.ref S) (.ref it) .none) _ _ s
  refine wpAny_bind ?_
  unfold Builtin.List.listItems
  refine wpAny_bind (wpAny_seqItems hS rfl (wpAny_pure ?_))
  show wpAny _ _ (updateSeq S (fun _ => #[]) >>= fun _ => letGo (#[] : Array Value).toList.reverse >>= fun _ => Builtin.List.listExtendWith (.ref S) (.ref it) .none) _ _ s
  refine wpAny_bind (wpAny_updateSeq hS rfl ?_)
  have hS₂ := Heap.get?_update_self (Obj.mapSeq (fun _ => (#[] : Array Value))) hS rfl
  have oth : ∀ b o, b ≠ S → s.heap.get? b = some o → (s.heap.update S (Obj.mapSeq (fun _ => (#[] : Array Value)))).get? b = some o :=
    fun b o hb e => (Heap.get?_update_other _ _ (Ne.symm hb)).trans e
  refine wpAny_bind (wpAny_letGo ?_)
  obtain ⟨oi, hoi, ci, di⟩ := hit
  obtain ⟨ol, hol, cl, dl⟩ := hl
  refine extend_rev hh ⟨oi, oth it _ (Ne.symm hSi) hoi, ci, di⟩ ⟨ol, oth l _ (Ne.symm hSl) hol, cl, dl⟩ hne hn S .none _ hSi hSl hS₂ fun h' tk acc' c' hk hS' hacc => ?_
  exact hR h' tk acc' c' (fun b o hb hb2 e => hk b o hb hb2 (oth b o hb e)) hS' hacc
theorem call_list_rev {Q : Value → Shared → Prop} {it l : Addr} {items : Array Value} (hh : A.handled = none) (hit : s.heap.IsRevIter it l ((items.size : Int) - 1)) (hl : s.heap.IsList l items) (hne : l ≠ it) (hn : items.size ≤ sizeLine)
    (hQ : ∀ h' tk acc' c', (∀ b o, b ≠ it → s.heap.get? b = some o → h'.get? b = some o) →
      h'.get? s.heap.objs.size = some { cls := .type "list", dict := none, data := .seq acc' c', slots := #[] } → ItemsOf (fun i v => items[items.size - 1 - i]? = some v) acc' items.size → Q (.ref s.heap.objs.size) { s with heap := h', toks := tk }) :
    wpAny (model prog w) A (call (.type "list") [.ref it]) Q E s := by
  refine callType_codes (Q₁ := fun obj s₁ => obj = .ref s.heap.objs.size ∧ s₁ = { s with heap := s.heap.push { cls := .type "list", data := .seq #[] } }) F.called_list (F.typeCall_list_1 _) F.entry_list_init
    (code_list_new _ ⟨rfl, rfl⟩) fun obj s₁ h₁ => ?_
  obtain ⟨rfl, rfl⟩ := h₁
  have hS : (s.heap.push { cls := .type "list", data := .seq #[] }).get? s.heap.objs.size = some { cls := .type "list", data := .seq #[] } := Heap.get?_push_size _ rfl
  obtain ⟨oi, hoi, ci⟩ := id hit
  obtain ⟨ol, hol, cl⟩ := id hl
  refine ⟨⟨_, hS, rfl⟩, F.args_list_init_2 _ _, list_init_rev (A := A.in1) hh ⟨oi, Heap.get?_push_of_some _ hoi, ci⟩ ⟨ol, Heap.get?_push_of_some _ hol, cl⟩ hne hn _ (Nat.ne_of_gt (Heap.lt_size hoi)) (Nat.ne_of_gt (Heap.lt_size hol)) hS fun h' tk acc' c' hk hS' hacc => ?_⟩
  exact ⟨rfl, hQ h' tk acc' c' (fun b o hb e => hk b o (Nat.ne_of_lt (Heap.lt_size e)) hb (Heap.get?_push_of_some _ e)) hS' hacc⟩
end
end G
namespace G
open PySem PySem.Spec PyProof.Rows L2 RT
open Rp (rep)
def tLstRev (K : PySem.W.Frag) (te : TE) : TE := fun σ H Q => te σ H fun v H1 => ∃ (a : Addr) (xs : List V), v = .ref a ∧ SqL K H1 a xs ∧ ∀ q, H1 q = none → Q (.ref q) (upd H1 q (.lst xs.reverse))
section
variable {X : Cx}
theorem pe_lstRev {e : Expr} {te : TE} {p p2 pos pos2 : Pos} (hc : X.calm = true) (hg : Gl X "list") (hm : X.mg "list" = none) (hg2 : Gl X "reversed") (hm2 : X.mg "reversed" = none) (he : PE X e te)
    (hs : starEach [e] X.env = (false, eval e X.env) :: starEach [] X.env := by rfl)
    (hs2 : starEach [.Call (.Name "reversed" p2) [e] [] pos2] X.env = (false, eval (.Call (.Name "reversed" p2) [e] [] pos2) X.env) :: starEach [] X.env := by rfl) :
    PE X (.Call (.Name "list" p) [.Call (.Name "reversed" p2) [e] [] pos2] [] pos) (tLstRev X.K te) := by
  refine ⟨fun pins s σ H Q I h => ?_⟩
  refine Call_ (ld_blt I hg hm boot_list (PyProof.Rows.callWith_type1 (args_cons (Call_ (ld_blt I hg2 hm2 PyProof.Rows.boot_reversed (PyProof.Rows.callWith_type1 (args_cons (thn (he.run pins s σ H _ I h) fun u s1 ⟨v, H1, I1, r1, q1⟩ => args_nil ?_) hs) hs))) hs2) hs2))
  obtain ⟨a, xs, ev, hq, q⟩ := q1
  subst ev
  obtain rfl : u = Value.ref a := r1
  obtain ⟨its, rv, p', hz⟩ := I1.list hq
  refine call_reversed_list p'.isList (args_nil ?_)
  have k0 : ∀ b o, s1.heap.get? b = some o → (s1.heap.push (revObj a ((its.toArray.size : Int) - 1))).get? b = some o := fun b o e => Heap.get?_push_of_some _ e
  have I2 : Inv X pins σ H1 { s1 with heap := s1.heap.push (revObj a ((its.toArray.size : Int) - 1)) } := I1.kept (t' := s1.toks) k0
  obtain ⟨f0, f1, f2, f3, f4, f5⟩ := I1.fpOk (H' := H1) (b := s1.heap.objs.size) (Nat.le_refl _) (I1.hok.fresh (Nat.le_refl _))
  have hl := p'.isList
  obtain ⟨ol, hol, _⟩ := id hl
  have hne : a ≠ s1.heap.objs.size := Nat.ne_of_lt (Heap.lt_size hol)
  have hn : its.toArray.size ≤ sizeLine := by rw [List.size_toArray, ← rv.length]; exact hz
  refine call_list_rev (s := { s1 with heap := s1.heap.push (revObj a ((its.toArray.size : Int) - 1)) }) (I1.ok.hd hc) ⟨_, Heap.get?_push_size _ rfl, rfl, rfl⟩ (hl.push _) hne hn fun h' tk acc c' hk e' hi => ?_
  have hle : s1.heap.objs.size ≤ (s1.heap.push (revObj a ((its.toArray.size : Int) - 1))).objs.size := by rw [Heap.size_push]; omega
  refine ⟨.ref (s1.heap.push (revObj a ((its.toArray.size : Int) - 1))).objs.size, upd H1 (s1.heap.push (revObj a ((its.toArray.size : Int) - 1))).objs.size (.lst xs.reverse),
    I1.laid (h' := h') (t' := tk) (fun b u e => hk b u (Nat.ne_of_lt (Heap.lt_size e)) (k0 b u e)) hle (show ObjOk X.prog X.w _ _ _ (.lst xs.reverse) from ⟨by rw [List.length_reverse]; exact hz, acc.toList, c', vals_rev rv hi, ?_⟩), rfl, q _ (I1.hok.fresh hle)⟩
  rw [Array.toArray_toList]
  exact e'
end
section
variable {X : Cx} {W : WX} {Γ Γ' : Slots} {T T' Tr : Th} {e o a b c : Expr} {es elts : List Expr} {pos pos' apos pn tpos p p' : Pos} {ρ α β : VR} {A B : Type} [Rp A] [Rp B] {xs : List A} {ys : List B}
theorem paired_rev {α β : Type} {R : α → β → Prop} : ∀ {xs : List α} {ys : List β}, Paired R xs ys → Paired R xs.reverse ys.reverse
  | _, _, .nil => .nil
  | _, _, .cons h t => by rw [List.reverse_cons, List.reverse_cons]; exact Paired.append (paired_rev t) (.cons h .nil)
theorem jf_lrev {p2 pos2 : Pos} (hc : X.calm = true) (hg : Gl X "list") (hm : X.mg "list" = none) (hg2 : Gl X "reversed") (hm2 : X.mg "reversed" = none) (ha : JE X Γ T a ρ) (hr : Rdm T ρ xs) (hs : starEach [a] X.env = (false, eval a X.env) :: starEach [] X.env := by exact star1 rfl)
    (hs3 : starEach [.Call (.Name "reversed" p2) [a] [] pos2] X.env = (false, eval (.Call (.Name "reversed" p2) [a] [] pos2) X.env) :: starEach [] X.env := by exact star1 rfl) : JF X W Γ T (.Call (.Name "list" p) [.Call (.Name "reversed" p2) [a] [] pos2] [] pos) xs.reverse := fun F σ L Lf H s t o Q q _ => by
  refine we_of (pe_lstRev hc hg hm hg2 hm2 we_pe hs hs3) (ha F σ L Lf H s t o _ fun F1 M1 H1 x e1 t1 o1 rx => ?_)
  obtain ⟨p, vs, h1, h2, h3⟩ := hr F1 M1 Lf H1 x t1 o1 rx
  exact ⟨p, vs, h1, SqL.of h2, jf_new q e1 t1 o1 (paired_rev h3)⟩
end
end G

/-! GX: exceptions: defs that refuse, raise, try. -/
namespace G
open PySem PySem.Spec PyProof.Rows L2 C8
open Rp (rep)
/-- what a def that may refuse gives: a result, or the class of the refusal and what the turned things are then -/
inductive Rz (C R M : Type) where
  | ok (r : R)
  | ex (c : C) (m : M)
def Rz.el {C R M β : Type} (z : Rz C R M) (k : R → β) (f : C → M → β) : β := match z with | .ok r => k r | .ex c m => f c m
theorem rz_ok {C R M β : Type} {r : R} {k : R → Option β} {f : C → M → Option β} {b : β} (h : (Rz.ok r : Rz C R M).el k f = some b) : k r = some b := h
theorem rz_ex {C R M β : Type} {c : C} {m : M} {k : R → Option β} {f : C → M → Option β} {b : β} (h : (Rz.ex c m : Rz C R M).el k f = some b) : f c m = some b := h
def xSpec {A C R M : Type} (K : PySem.W.Frag) (nm : C → Str) (vals : A → List VR) (owns : A → Th) (m : A → Option (Rz C R M)) (res : A → R → VR → Th → Prop) (exr : A → M → Th) : GSpec A :=
  { ok := fun a => ∃ z, m a = some z, vals := vals, owns := owns, res := fun a ρ T => ∃ r, m a = some (.ok r) ∧ res a r ρ T, exc := fun a c T => ∃ x y, m a = some (.ex x y) ∧ c = .ref (He.ga K (nm x)) ∧ T = exr a y }
section
variable {P : Program} {w : World} {K : PySem.W.Frag} {mg : Str → Option Value} {base : Heap}
theorem fnX {x qual : Str} {st : Stmt} {f : Addr} {fd : FuncData} {N ps : List Str} {k : Nat} {A C R M : Type} (nm : C → Str) (vals : A → List VR) (owns : A → Th) (m : A → Option (Rz C R M)) (res : A → R → VR → Th → Prop) (exr : A → M → Th) (F : FnD K x qual st f fd) (S : FnScope N ps (defScope st)) (hn : ∀ a, (vals a).length = ps.length)
    (body : ∀ (cdv : Value) (Ar : Around) (outer : List Env) (s : Shared) (H : Hp) (E : XK), Room k (Ar.deeper (envOfC qual (defScope st) s.heap.objs.size f cdv)) → ∀ a z, m a = some z →
      JSs (bodyX P w K mg base N qual st f cdv Ar outer s H E) (wOf E) (G0 N (vals a)) (owns a) (defBody st) { nx := fun _ T => ∃ r, z = .ok r ∧ res a r (Dat ()) T, rt := fun ρ T => ∃ r, z = .ok r ∧ res a r ρ T, xr := fun c T => ∃ x y, z = .ex x y ∧ c = .ref (He.ga K (nm x)) ∧ T = exr a y }) : FnOk P w K mg base (L2N.CX P w) (k + 1) f fd ps (xSpec K nm vals owns m res exr).sp :=
  fnG _ F S hn fun cdv Ar outer s H E hr a ⟨z, ha⟩ => jss_le (body cdv Ar outer s H E hr a z ha) ⟨fun _ T ⟨r, e, h⟩ => ⟨r, e ▸ ha, h⟩, fun _ T ⟨r, e, h⟩ => ⟨r, e ▸ ha, h⟩, fun _ _ h => h, fun _ _ h => h, fun _ _ ⟨x, y, e, h⟩ => ⟨x, y, e ▸ ha, h⟩⟩
end
section
variable {X : Cx} {W : WX} {Γ Γ' : Slots} {T T' Tr : Th} {st : Stmt} {rest sts : List Stmt} {D D' : Po} {e o tg b c : Expr} {es : List Expr} {pos apos pn : Pos} {ρ : VR} {x f m : Str} {p C : Addr} {A Cl R M : Type} {nm : Cl → Str} {vals : A → List VR} {owns : A → Th} {mi : A → Option (Rz Cl R M)} {res : A → R → VR → Th → Prop} {exr : A → M → Th} {n : Nat} {ps : List Str} {ρs : List VR} {Rb : VR → Th → Prop} {xr xr' : Value → Th → Prop}
/-- how a call of a def that may refuse comes out -/
abbrev CallR' (z : Rz Cl R M) (res : R → VR → Th → Prop) (Tr : Th) : VR → Th → Prop := fun ρ T' => ∃ To, (∃ r, z = .ok r ∧ res r ρ To) ∧ T' = To ++ Tr
abbrev CallE' (K : PySem.W.Frag) (nm : Cl → Str) (z : Rz Cl R M) (exr : M → Th) (Tr : Th) : Value → Th → Prop := fun c T' => ∃ To, (∃ x y, z = .ex x y ∧ c = .ref (He.ga K (nm x)) ∧ To = exr y) ∧ T' = To ++ Tr
theorem jx_callX (a : A) {z : Rz Cl R M} (h : mi a = some z) (Ca : Cal X.prog X.w X.K X.mg X.base n x ps (xSpec X.K nm vals owns mi res exr).sp) (tk : L2N.Takes X W) (hr : Room n X.A) (hg : Gl X x) (hA : JA X Γ T (e :: es) (vals a)) (hT : T.Perm (owns a ++ Tr)) (hdb : (x == ("__debug__" : Str)) = false := by decide) (he : starEach (e :: es) X.env = (false, eval e X.env) :: starEach es X.env := by exact star1 rfl) (hpl : (backTo pos (starEach es X.env)).any (·.1) = false := by exact backTo_any (stars rfl)) :
    JX X W Γ T (.Call (.Name x pn) (e :: es) [] pos) (CallR' z (res a) Tr) (CallE' X.K nm z (exr a) Tr) := fun F σ L Lf H s t o Q q qx => by
  obtain ⟨f, fd, Fn, hm, hk, hb⟩ := Ca
  exact jx_call (g := xSpec X.K nm vals owns mi res exr) Fn hr hg hm hk hb tk a ⟨z, h⟩ hA hT hdb he hpl F σ L Lf H s t o Q (fun v H' ⟨ρ', T', F', L', ⟨To, ⟨r', h1, h1'⟩, h6⟩, h2⟩ => by
    cases h.symm.trans h1
    exact q v H' ⟨ρ', T', F', L', ⟨To, ⟨r', rfl, h1'⟩, h6⟩, h2⟩) fun c T' F' L' H' ⟨To, ⟨x', y', h1, h2, h3⟩, h4⟩ => by
      cases h.symm.trans h1
      exact qx c T' F' L' H' ⟨To, ⟨x', y', rfl, h2, h3⟩, h4⟩
/-- o.m(e, ..), what it lets out by the slots -/
def tMethS (C : Addr) (m : Str) (sp : Sp) (E : L2.St → XK) (ta : TE) (t : TA) : TE := fun σ H Q => ta σ H fun x H1 => ∃ a dx fs, x = .ref a ∧ H1 a = some (.ins C dx fs) ∧ fs.lookup m = none ∧ t σ H1 fun vs H2 => sp (x :: vs) H2 Q (E σ)
theorem pe_methE {CX : CXT} {k : Nat} {f : Addr} {fd : FuncData} {sp : Sp} {E : L2.St → XK} {ta : TE} {t : TA} {pl : Sem Bool} (he : PE X o ta) (c : Cls X.K C) (hm : Meth X.K C m f) (F : FnOk X.prog X.w X.K X.mg X.base CX k f fd ps sp) (hr : Room k X.A) (hb : Binds X.K fd ps []) (hx : ∀ σ, PassesAt CX X σ (E σ)) (ha : PA X (e :: es) t)
    (hst : starEach (e :: es) X.env = (false, eval e X.env) :: starEach es X.env) (hpl : (backTo pos (starEach es X.env)).any (·.1) = false)
    (ht : eval (.Call (.Attribute o m apos) (e :: es) [] pos) X.env = (do
      let ov ← eval o X.env
      standAt apos.atName
      let (f, first) ← holding [ov] (getMethod ov m pl)
      callWith pos f first (backTo pos (starEach (e :: es) X.env)) (backToKw pos (keywordEach [] X.env)))) :
    PE X (.Call (.Attribute o m apos) (e :: es) [] pos) (tMethS C m sp E ta t) := by
  refine ⟨fun pins s σ H Q I h => ?_⟩
  refine PySem.W.methodCall_KW (pl := pl) (thn (he.run pins s σ H _ I h) fun u s1 ⟨x, H1, I1, rx, a, dx, fs, ex, ea, l, q⟩ => ?_) ht
  subst ex
  obtain rfl : u = Value.ref a := rx
  refine getmeth_ok I1 ea c hm l ?_
  refine PySem.W.callWith_K (first := [.ref a]) (h₀ := X.base) I.ok.mod.kin hm.kp (thn (ha.run pos pins s1 σ H1 _ I1 q) fun us s2 ⟨vs, H2, I2, r, q2⟩ => ⟨I2.kIn, ?_⟩) hst hpl
  exact run_fnS (us := .ref a :: us) (vs := .ref a :: vs) F hr hb (hx σ) I2 (.cons rfl r) q2
theorem jx_methX (a : A) {z : Rz Cl R M} (h : mi a = some z) (Ca : CalM X.prog X.w X.K X.mg X.base n C m ps (xSpec X.K nm vals owns mi res exr).sp) (tk : L2N.Takes X W) (hr : Room n X.A) (ho : JE X Γ T o (Ref p)) (hI : InsAt T p C m) (hA : JA X Γ T (e :: es) ρs) (hv : vals a = Ref p :: ρs) (hT : T.Perm (owns a ++ Tr))
    (hc : noCall o = true := by rfl) (hs : (e :: es).all noStar = true := by rfl) (hl : (e :: es).length < 30 := by decide) (hp : (apos.endLine == pos.line) = true := by rfl) :
    JX X W Γ T (.Call (.Attribute o m apos) (e :: es) [] pos) (CallR' z (res a) Tr) (CallE' X.K nm z (exr a) Tr) := fun F σ L Lf H s t ow Q q qx => by
  obtain ⟨f, fd, Fn, hm, hb, hcl⟩ := Ca
  have hs' : noStar e = true ∧ es.all noStar = true := by rw [List.all_cons, Bool.and_eq_true] at hs; exact hs
  refine we_of (pe_methE we_pe hcl hm Fn hr hb (fun σ => L2N.passAt tk σ) wa_pa (star1 hs'.1) (backTo_any (stars hs'.2)) (ht_of hc hs hl hp)) (ho F σ L Lf H s t ow _ fun F1 M1 H1 v e1 t1 o1 r1 => ?_)
  obtain ⟨dx, fs, h1, h2⟩ := hI F1 M1 Lf H1 t1 o1
  refine ⟨p, dx, fs, r1, h1, h2, hA F1 σ M1 Lf H1 (s.mono e1) t1 o1 _ fun F2 M2 H2 vs e2 t2 o2 rs => ?_⟩
  obtain ⟨N1, p1, t3⟩ := t2.perm hT
  exact sp_use (g := xSpec X.K nm vals owns mi res exr) ⟨z, h⟩ (by show VRs F2 (vals a) _; rw [hv]; exact .cons r1 rs) t3 (o2.perm (p1.symm.append_right Lf)) (fun v H' ⟨ρ', T', F', L', ⟨To, ⟨r', h1, h1'⟩, h6⟩, h2, h3, h4, h5⟩ => by
    cases h.symm.trans h1
    exact q v H' ⟨ρ', T', F', L', ⟨To, ⟨r', rfl, h1'⟩, h6⟩, (e1.trans e2).trans h2, h3, h4, h5⟩) fun c To F' L' H' ⟨x', y', h1, h2, h3⟩ h4 h5 h6 => by
      cases h.symm.trans h1
      exact qx c _ F' L' H' ⟨To, ⟨x', y', rfl, h2, h3⟩, rfl⟩ ((e1.trans e2).trans h4) h5 h6
/-- a refusal that leaves less owned -/
theorem jx_exE (he : JX X W Γ T e Rb xr) (h : ∀ c T1, xr c T1 → ∃ T2, TEnt T1 T2 ∧ xr' c T2) : JX X W Γ T e Rb xr' := fun F σ L Lf H s t o Q q qx =>
  he F σ L Lf H s t o Q q fun c T1 F' L' H' h1 h2 h3 h4 => by
    obtain ⟨T2, en, h5⟩ := h c T1 h1
    obtain ⟨L2, t2, o2⟩ := en.own h3 h4
    exact qx c T2 F' L2 H' h5 h2 t2 o2
abbrev no_' : VR → Th → Prop := fun _ _ => False
/-- what a class must have to be raised -/
structure ExF (K : PySem.W.Frag) (mg : Str → Option Value) (x : Str) : Prop where
  ex : PySem.W.excIn K (He.ga K x) He.veBase "ValueError.__new__" = true
  kp : PySem.W.keepIn K (.ref (He.ga K x)) = true
  su : PySem.W.subIn K (.ref (He.ga K x)) (.type "BaseException") = some true
  ty : PySem.W.typeIn K (.ref (He.ga K x)) = some (.type "type")
  gl : mg x = some (.ref (He.ga K x))
theorem js_raise {x msg : Str} {j : Nat} {p p2 pos : Pos} (F : ExF X.K X.mg x) (hg : Gl X x) (hc : X.calm = true) (tk : L2N.Takes X W) (en : TEnt T T') (hx : D.xr (.ref (He.ga X.K x)) T') (hdb : (x == ("__debug__" : Str)) = false := by decide) :
    JS X W Γ T (.Raise (some (.Call (.Name x p) [.Constant (.str msg) j p2] [] pos)) none apos) D := fun F0 σ L Lf H s t o w => by
  obtain ⟨L2, t2, o2⟩ := en.own t o
  exact ws_of (L2N.ps_raise hc tk (L2N.pmk_own PySem.F.excBase_ValueError F.ex F.gl F.kp (raises_own F.su F.ty) hg hdb)) (w _ T' F0 L2 σ H hx (Same.refl F0) t2 o2)
theorem exF {K : PySem.W.Frag} {mg : Str → Option Value} {x : Str} (h : PySem.W.excIn K (He.ga K x) He.veBase "ValueError.__new__" = true ∧ PySem.W.keepIn K (.ref (He.ga K x)) = true ∧ PySem.W.subIn K (.ref (He.ga K x)) (.type "BaseException") = some true ∧ PySem.W.typeIn K (.ref (He.ga K x)) = some (.type "type")) (g : mg x = some (.ref (He.ga K x))) : ExF K mg x := ⟨h.1, h.2.1, h.2.2.1, h.2.2.2, g⟩
def xbind {C R M β : Type} (o : Option (Rz C R M)) (f : C → M → Option β) (k : R → Option β) : Option β := match o with | none => none | some (.ok r) => k r | some (.ex c m) => f c m
theorem xbind_of {C R M β : Type} {o : Option (Rz C R M)} {f : C → M → Option β} {k : R → Option β} {b : β} (h : xbind o f k = some b) : (∃ c m, o = some (.ex c m) ∧ f c m = some b) ∨ ∃ r, o = some (.ok r) ∧ k r = some b := by
  cases o with
  | none => cases h
  | some z => cases z with
    | ok r => exact .inr ⟨r, rfl, h⟩
    | ex c m => exact .inl ⟨c, m, rfl, h⟩
theorem jz_opL {op : Operator} {r : R2} (h : JX X W Γ T b no_' xr) (ho : OpR X (binaryOp op) r) : JX X W Γ T (.BinOp b op c pos) no_' xr := fun F σ L Lf H s t o Q q qx =>
  we_of (pe_op ho we_pe we_pe) (h F σ L Lf H s t o _ (fun v H' ⟨_, _, _, _, z, _⟩ => z.elim) qx)
theorem jz_opR {op : Operator} {r : R2} {α : VR} (ha : JE X Γ T b α) (h : JX X W Γ T c no_' xr) (ho : OpR X (binaryOp op) r) : JX X W Γ T (.BinOp b op c pos) no_' xr := fun F σ L Lf H s t o Q q qx =>
  we_of (pe_op ho we_pe we_pe) (ha F σ L Lf H s t o _ fun F1 M1 H1 v e1 t1 o1 r1 => h F1 σ M1 Lf H1 (s.mono e1) t1 o1 _ (fun v H' ⟨_, _, _, _, z, _⟩ => z.elim) fun c T' F' L' H' h1 h2 => qx c T' F' L' H' h1 (e1.trans h2))
/-! a def that may refuse, where it does not -/
def okO {A C R M : Type} (m : A → Option (Rz C R M)) : A → Option R := fun a => match m a with | some (.ok r) => some r | _ => none
theorem okO_of {a : A} {r : R} (h : mi a = some (.ok r)) : okO mi a = some r := by unfold okO; rw [h]
theorem okO_to {a : A} {r : R} (h : okO mi a = some r) : mi a = some (.ok r) := by
  unfold okO at h
  cases e : mi a with
  | none => rw [e] at h; cases h
  | some z => cases z with
    | ok r' => rw [e] at h; cases h; rfl
    | ex c y => rw [e] at h; cases h
theorem xs_ok {K : PySem.W.Frag} {vs : List V} {H : Hp} {Q : VK} {E : XK} (h : (mSpec vals owns (okO mi) res).sp vs H Q E) : (xSpec K nm vals owns mi res exr).sp vs H Q E := by
  obtain ⟨a, F, L, Lf, ⟨r, ha⟩, h1, h2, h3, h4, h5⟩ := h
  have e := okO_to ha
  refine ⟨a, F, L, Lf, ⟨_, e⟩, h1, h2, h3, fun v H' ⟨ρ, T, F', L', ⟨r', q1, q2⟩, q3⟩ => h4 v H' ⟨ρ, T, F', L', ⟨r', okO_of q1, q2⟩, q3⟩, fun c T F' L' H' ⟨x, y, q1, _⟩ => ?_⟩
  rw [e] at q1
  cases q1
theorem cal_ok {P : Program} {w : World} {K : PySem.W.Frag} {mg : Str → Option Value} {base : Heap} (h : Cal P w K mg base n x ps (xSpec K nm vals owns mi res exr).sp) : Cal P w K mg base n x ps (mSpec vals owns (okO mi) res).sp := by
  obtain ⟨f, fd, F, h1⟩ := h
  exact ⟨f, fd, F.imp fun vs H Q E q => xs_ok q, h1⟩
theorem calM_ok {P : Program} {w : World} {K : PySem.W.Frag} {mg : Str → Option Value} {base : Heap} (h : CalM P w K mg base n C m ps (xSpec K nm vals owns mi res exr).sp) : CalM P w K mg base n C m ps (mSpec vals owns (okO mi) res).sp := by
  obtain ⟨f, fd, F, h1⟩ := h
  exact ⟨f, fd, F.imp fun vs H Q E q => xs_ok q, h1⟩
theorem calI_ok {P : Program} {w : World} {K : PySem.W.Frag} {mg : Str → Option Value} {base : Heap} (h : CalI P w K mg base n x C ps (xSpec K nm vals owns mi res exr).sp) : CalI P w K mg base n x C ps (mSpec vals owns (okO mi) res).sp := by
  obtain ⟨f, fd, F, h1⟩ := h
  exact ⟨f, fd, F.imp fun vs H Q E q => xs_ok q, h1⟩
/-! .. and where it does -/
abbrev no_ : VR → Th → Prop := fun _ _ => False
abbrev Ex1 (K : PySem.W.Frag) (x : Str) (T0 : Th) : Value → Th → Prop := fun c T' => c = .ref (He.ga K x) ∧ T' = T0
theorem jz_call (a : A) {cx : Cl} {y : M} (h : mi a = some (.ex cx y)) (Ca : Cal X.prog X.w X.K X.mg X.base n x ps (xSpec X.K nm vals owns mi res exr).sp) (tk : L2N.Takes X W) (hr : Room n X.A) (hg : Gl X x) (hA : JA X Γ T (e :: es) (vals a)) (hT : T.Perm (owns a ++ Tr)) (hdb : (x == ("__debug__" : Str)) = false := by decide) (he : starEach (e :: es) X.env = (false, eval e X.env) :: starEach es X.env := by exact star1 rfl) (hpl : (backTo pos (starEach es X.env)).any (·.1) = false := by exact backTo_any (stars rfl)) :
    JX X W Γ T (.Call (.Name x pn) (e :: es) [] pos) no_ (Ex1 X.K (nm cx) (exr a y ++ Tr)) := fun F σ L Lf H s t o Q q qx =>
  jx_callX a h Ca tk hr hg hA hT hdb he hpl F σ L Lf H s t o Q (fun v H' ⟨ρ', T', F', L', ⟨To, ⟨r', h1, _⟩, _⟩, _⟩ => nomatch h1) fun c T' F' L' H' ⟨To, ⟨x', y', h1, h2, h3⟩, h4⟩ => by
    cases h1
    exact qx c T' F' L' H' ⟨h2, by rw [h4, h3]⟩
theorem jz_meth (a : A) {cx : Cl} {y : M} (h : mi a = some (.ex cx y)) (Ca : CalM X.prog X.w X.K X.mg X.base n C m ps (xSpec X.K nm vals owns mi res exr).sp) (tk : L2N.Takes X W) (hr : Room n X.A) (ho : JE X Γ T o (Ref p)) (hI : InsAt T p C m) (hA : JA X Γ T (e :: es) ρs) (hv : vals a = Ref p :: ρs) (hT : T.Perm (owns a ++ Tr))
    (hc : noCall o = true := by rfl) (hs : (e :: es).all noStar = true := by rfl) (hl : (e :: es).length < 30 := by decide) (hp : (apos.endLine == pos.line) = true := by rfl) :
    JX X W Γ T (.Call (.Attribute o m apos) (e :: es) [] pos) no_ (Ex1 X.K (nm cx) (exr a y ++ Tr)) := fun F σ L Lf H s t ow Q q qx =>
  jx_methX a h Ca tk hr ho hI hA hv hT hc hs hl hp F σ L Lf H s t ow Q (fun v H' ⟨ρ', T', F', L', ⟨To, ⟨r', h1, _⟩, _⟩, _⟩ => nomatch h1) fun c T' F' L' H' ⟨To, ⟨x', y', h1, h2, h3⟩, h4⟩ => by
    cases h1
    exact qx c T' F' L' H' ⟨h2, by rw [h4, h3]⟩
theorem run_makeS {CX : CXT} {k : Nat} {f : Addr} {fd : FuncData} {sp : Sp} {E : XK} {pins : List (Addr × Obj)} {σ : L2.St} {H : Hp} {s : Shared} {Q : VK} {us : List Value} {vs : List V} (Mc : Mk X.K C f) (F : FnOk X.prog X.w X.K X.mg X.base CX k f fd ps sp) (hr : Room (k + 1) X.A) (hb : Binds X.K fd ps [])
    (hx : PassesAt CX X σ E) (I : Inv X pins σ H s) (r : Vals vs us)
    (h : ∀ x dx, H x = none → H dx = none → dx ≠ x → sp (.ref x :: vs) (upd (upd H dx (.own x)) x (.ins C dx [])) (fun v H2 => v = .non ∧ Q (.ref x) H2) E) :
    wpAny (model X.prog X.w) X.A (call (.ref C) us) (EP X pins σ Q) X.xe s := by
  have hq := h (s.heap.objs.size + 1) s.heap.objs.size (I.hok.fresh (Nat.le_succ _)) (I.hok.fresh (Nat.le_refl _)) (Nat.ne_of_lt (Nat.lt_succ_self _))
  have I2 := Inv.made (C := C) I
  have r2 : Vals (V.ref (s.heap.objs.size + 1) :: vs) (Value.ref (s.heap.objs.size + 1) :: us) := .cons rfl r
  have hl : (Value.ref (s.heap.objs.size + 1) :: us).length = ps.length := by
    have e := r2.length
    rw [F.len _ _ _ _ hq] at e
    exact e.symm
  have b := hb { s with heap := _ } (Value.ref (s.heap.objs.size + 1) :: us) I2.kIn (by rw [List.append_nil]; exact hl)
  rw [List.append_nil] at b
  refine wpAny_call (make_map (f := f) I.kIn Mc.makes Mc.init (beq_iff_eq.mp Mc.fn) (codeAny_mono (F.run _ X.stack _ _ ⟨Value.ref (s.heap.objs.size + 1) :: us, []⟩ (Value.ref (s.heap.objs.size + 1) :: us) _ _ E (hr.make C us [])
    (I2.env0.make C us []) b r2 hq) fun r s' hq' => ?_))
  cases r with
  | error e => exact hx pins _ _ e s' I2 hq'
  | ok fl =>
    cases fl with
    | ret u =>
      obtain ⟨v, H', I3, rv, ev, q3⟩ := I2.after hq'
      subst ev
      exact ⟨rv, ⟨V.ref (s.heap.objs.size + 1), H', I3, rfl, q3⟩⟩
    | next => exact False.elim hq'
    | brk => exact False.elim hq'
    | cont => exact False.elim hq'
/-- C(e, ..), what it lets out by the slots -/
def tMakeS (C : Addr) (sp : Sp) (E : L2.St → XK) (t : TA) : TE := fun σ H Q => t σ H fun vs H1 => ∀ x dx, H1 x = none → H1 dx = none → dx ≠ x → sp (.ref x :: vs) (upd (upd H1 dx (.own x)) x (.ins C dx [])) (fun v H2 => v = .non ∧ Q (.ref x) H2) (E σ)
theorem pe_makeS {CX : CXT} {k : Nat} {f : Addr} {fd : FuncData} {sp : Sp} {E : L2.St → XK} {t : TA} (Mc : Mk X.K C f) (F : FnOk X.prog X.w X.K X.mg X.base CX k f fd ps sp) (hr : Room (k + 1) X.A) (hg : Gl X x) (hm : X.mg x = some (.ref C)) (hb : Binds X.K fd ps []) (hx : ∀ σ, PassesAt CX X σ (E σ)) (ha : PA X (e :: es) t)
    (hdb : (x == ("__debug__" : Str)) = false) (he : starEach (e :: es) X.env = (false, eval e X.env) :: starEach es X.env) (hpl : (backTo pos (starEach es X.env)).any (·.1) = false) :
    PE X (.Call (.Name x pn) (e :: es) [] pos) (tMakeS C sp E t) := by
  refine ⟨fun pins s σ H Q I h => ?_⟩
  refine wpAny_Call_Name_kw (ld_glob I hg hm ?_ hdb)
  refine PySem.W.callWith_K (h₀ := X.base) I.ok.mod.kin Mc.kp (thn (ha.run pos pins s σ H _ I h) fun us s1 ⟨vs, H1, I1, r, q⟩ => ⟨I1.kIn, ?_⟩) he hpl
  refine run_makeS Mc F hr hb (hx σ) I1 r ?_
  intro x dx h1 h2 h3
  exact q x dx h1 h2 h3
theorem jz_make {T0 : Th} (a : Addr → A) {cx : Cl} {y : M} (h : ∀ p, mi (a p) = some (.ex cx y)) (Ca : CalI X.prog X.w X.K X.mg X.base n x C ps (xSpec X.K nm vals owns mi res exr).sp) (tk : L2N.Takes X W) (hr : Room (n + 1) X.A) (hg : Gl X x) (hA : JA X Γ T (e :: es) ρs) (hv : ∀ p, vals (a p) = Ref p :: ρs) (hw : ∀ p, owns (a p) = (p, OIns C []) :: T0) (hT : T.Perm (T0 ++ Tr)) (hx : ∀ p, exr (a p) y = T')
    (hdb : (x == ("__debug__" : Str)) = false := by decide) (he : starEach (e :: es) X.env = (false, eval e X.env) :: starEach es X.env := by exact star1 rfl) (hpl : (backTo pos (starEach es X.env)).any (·.1) = false := by exact backTo_any (stars rfl)) :
    JX X W Γ T (.Call (.Name x pn) (e :: es) [] pos) no_ (Ex1 X.K (nm cx) (T' ++ Tr)) := fun F σ L Lf H s t o Q q qx => by
  obtain ⟨f, fd, Fn, hm, hg', hb⟩ := Ca
  refine we_of (pe_makeS hm Fn hr hg hg' hb (fun σ => L2N.passAt tk σ) wa_pa hdb he hpl) (hA F σ L Lf H s t o _ fun F1 M1 H1 vs e1 t1 o1 hvs => ?_)
  intro xa dx hx1 hdx ne
  obtain ⟨N1, p1, t2⟩ := t1.perm hT
  have o2 := (o1.born (o := .own xa) hdx).born (p := xa) (o := .ins C dx []) (by rw [upd_ne (Ne.symm ne)]; exact hx1)
  have o3 : Own F1 (([(xa, HO.ins C dx []), (dx, HO.own xa)] ++ N1) ++ Lf) _ := o2.perm (by
    rw [List.append_assoc]
    exact ((p1.symm.append_right Lf).cons _).cons _)
  exact sp_use (g := xSpec X.K nm vals owns mi res exr) (a := a xa) (Tr := Tr) ⟨_, h xa⟩ (by show VRs F1 (vals (a xa)) _; rw [hv]; exact .cons rfl hvs) (by
    show TR F1 (owns (a xa) ++ Tr) _
    rw [hw]
    exact .cons (L1 := [(xa, HO.ins C dx []), (dx, HO.own xa)]) ⟨dx, [], .nil, rfl⟩ t2) o3 (fun v H' ⟨ρ', T', F', L', ⟨To, ⟨r', h1, h1'⟩, h6⟩, h2⟩ => by
    cases (h xa).symm.trans h1) fun c To F' L' H' ⟨x', y', h1, h2, h3⟩ h4 h5 h6 => by
      cases (h xa).symm.trans h1
      exact qx c _ F' L' H' ⟨h2, by rw [h3, hx]⟩ (e1.trans h4) h5 h6
/-! try -/
/-- a block whose refusals leave the slots as they were -/
def JB (X : Cx) (W : WX) (Γ : Slots) (T : Th) (sts : List Stmt) (D : Po) : Prop := ∀ F σ L Lf H, SR F Γ σ → TR F T L → Own F (L ++ Lf) H →
  (∀ c T' F' L' H', D.xr c T' → Same F F' → TR F' T' L' → Own F' (L' ++ Lf) H' → W c none σ H') → WSs X sts (D.ends F Lf) σ H
theorem jb_expr (he : JX X W Γ T e Rb xr) (hD : ∀ ρ T', Rb ρ T' → D.nx Γ T') (hE : ∀ c T', xr c T' → D.xr c T') (hs : swapsWith e none pos.line X.env = pure false := by exact swaps_no rfl) : JB X W Γ T [.Expr e pos] D := fun F σ L Lf H s t o w =>
  wss_of (pss_one ws_ps) (ws_of (ps_expr we_pe hs) (he F σ L Lf H s t o _ (fun v H' ⟨ρ, T', F', L', h1, h2, h3, h4, h5⟩ => ⟨Γ, T', F', L', hD ρ T' h1, h2, s.mono h2, h4, h5⟩) fun c T' F' L' H' h1 h2 h3 h4 => w c T' F' L' H' (hE c T' h1) h2 h3 h4))
theorem jb_if {k : Bool} {A B : List Stmt} (hc : JT X Γ T c k) (ha : k = true → JB X W Γ T A D) (hb : k = false → JB X W Γ T B D) : JB X W Γ T [.If c A B pos] D := fun F σ L Lf H s t o w =>
  wss_of (pss_one ws_ps) (ws_of (ps_if wt_pt wss_pss wss_pss) (hc F σ L Lf H s t o _ fun F1 M1 H1 e1 t1 o1 => by
    cases k with
    | true => exact wss_le (ends_le (Po.Le.refl D) e1) (ha rfl F1 σ M1 Lf H1 (s.mono e1) t1 o1 fun c T' F' L' H' h1 h2 h3 h4 => w c T' F' L' H' h1 (e1.trans h2) h3 h4)
    | false => exact wss_le (ends_le (Po.Le.refl D) e1) (hb rfl F1 σ M1 Lf H1 (s.mono e1) t1 o1 fun c T' F' L' H' h1 h2 h3 h4 => w c T' F' L' H' h1 (e1.trans h2) h3 h4)))
variable {body suite : List Stmt} {b₀ : Stmt} {np pos' : Pos} {cl : Value}
/-- one clause without a name, by the rule for several -/
theorem ps_try_onlyN {tb : WX → TS} {ts : Addr → Value → Option Addr → TS} {Wout : WX} (hs : X.stack = X.env :: X.outer) (hf : X.env.frame = some X.env.locals) (hc : Names X x cl) (tk : L2N.Takes X Wout)
    (hb : ∀ (W : WX) (pn : List (Addr × Obj)) (xe : Value → Shared → Prop), L2N.Takes (X.tr pn xe) W → PassesOwn (model X.prog X.w) X.A X.env xe → PSs (X.tr pn xe) body (tb W))
    (hsu : ∀ (a : Addr) (oe : Obj) (cls : Value) (d : Option Addr) (pn : List (Addr × Obj)), L2N.Zn cls d oe → (∃ vs, oe.data = .fields vs) → PSs (X.suite a ((a, oe) :: pn)) (b₀ :: suite) (ts a cls d)) :
    PS X (.Try body [.ExceptHandler (some (.Name x np)) none (b₀ :: suite) pos'] [] [] pos) (fun D σ H => tb (wMany X.K Wout D [(cl, ts)]) D σ H) := L2N.ps_try_many hs hf tk hb (.cons hc hsu .nil)
/-- the body refuses nothing -/
theorem js_tryKO (hs : X.stack = X.env :: X.outer) (hf : X.env.frame = some X.env.locals) (hc : Names X x cl) (tk : L2N.Takes X W)
    (hp : ∀ (W' : WX) (pn : List (Addr × Obj)) (xe : Value → Shared → Prop), L2N.Takes (X.tr pn xe) W' → PassesOwn (model X.prog X.w) X.A X.env xe → JB (X.tr pn xe) W' Γ T body { D with nx := fun Γ' T' => JSs X W Γ' T' rest D, xr := nox }) :
    JSs X W Γ T (.Try body [.ExceptHandler (some (.Name x np)) none (b₀ :: suite) pos'] [] [] pos :: rest) D :=
  js_cons (M := fun Γ' T' => JSs X W Γ' T' rest D) (fun F σ L Lf H s t o w =>
    ws_of (ps_try_onlyN (tb := fun W' D' σ H => ∀ pn xe, L2N.Takes (X.tr pn xe) W' → PassesOwn (model X.prog X.w) X.A X.env xe → WSs (X.tr pn xe) body D' σ H) (ts := fun _ _ _ _ _ _ => False) hs hf hc tk
      (fun W' pn xe t1 t2 => ⟨fun pins s σ H D I h => (h pn xe t1 t2).run pins s I⟩) (fun a oe cls d pn hz hv => ⟨fun pins s σ H D I h => h.elim⟩))
      fun pn xe t1 t2 => hp _ pn xe t1 t2 F σ L Lf H s t o fun c T' F' L' H' z => z.elim) fun _ _ h => h
theorem js_tryKA {n : Str} (i : Nat) (hs : X.stack = X.env :: X.outer) (hf : X.env.frame = some X.env.locals) (hN : X.N.Nodup) (hi : X.N[i]? = some n) (hln : X.env.kindOf n = some .local) (hc : Names X x cl) (tk : L2N.Takes X W)
    (hp : ∀ (W' : WX) (pn : List (Addr × Obj)) (xe : Value → Shared → Prop), L2N.Takes (X.tr pn xe) W' → PassesOwn (model X.prog X.w) X.A X.env xe → JB (X.tr pn xe) W' Γ T body { D with nx := fun Γ' T' => JSs X W Γ' T' rest D, xr := nox }) :
    JSs X W Γ T (.Try body [.ExceptHandler (some (.Name x np)) (some n) (b₀ :: suite) pos'] [] [] pos :: rest) D :=
  js_cons (M := fun Γ' T' => JSs X W Γ' T' rest D) (fun F σ L Lf H s t o w =>
    ws_of (L2N.ps_try_as (i := i) (tb := fun W' D' σ H => ∀ pn xe, L2N.Takes (X.tr pn xe) W' → PassesOwn (model X.prog X.w) X.A X.env xe → WSs (X.tr pn xe) body D' σ H) (ts := fun _ _ _ _ _ _ => False) hs hf hN hi hln hc tk
      (fun W' pn xe t1 t2 => ⟨fun pins s σ H D I h => (h pn xe t1 t2).run pins s I⟩) (fun a oe cls d pn hz hv => ⟨fun pins s σ H D I h => h.elim⟩))
      fun pn xe t1 t2 => hp _ pn xe t1 t2 F σ L Lf H s t o fun c T' F' L' H' z => z.elim) fun _ _ h => h
/-- except x, the body refused with the class c -/
theorem js_tryO {T1 : Th} {cx : Value} {bb : Bool} (hs : X.stack = X.env :: X.outer) (hf : X.env.frame = some X.env.locals) (hc : Names X x cl) (tk : L2N.Takes X W)
    (hp : ∀ (W' : WX) (pn : List (Addr × Obj)) (xe : Value → Shared → Prop), L2N.Takes (X.tr pn xe) W' → PassesOwn (model X.prog X.w) X.A X.env xe → JB (X.tr pn xe) W' Γ T body { D with nx := fun _ _ => False, xr := fun c T' => c = cx ∧ T' = T1 })
    (hm : PySem.W.exmOne X.K cx cl = some bb) (hy : bb = true → ∀ (a : Addr) (oe : Obj) (pn : List (Addr × Obj)), L2N.Zn cx none oe → (∃ vs, oe.data = .fields vs) → JSs (X.suite a ((a, oe) :: pn)) W Γ T1 (b₀ :: suite) { D with nx := fun Γ' T' => JSs X W Γ' T' rest D, xr := nox }) (hno : bb = false → D.xr cx T1) :
    JSs X W Γ T (.Try body [.ExceptHandler (some (.Name x np)) none (b₀ :: suite) pos'] [] [] pos :: rest) D :=
  js_cons (M := fun Γ' T' => JSs X W Γ' T' rest D) (fun F σ L Lf H s t o w =>
    ws_of (ps_try_onlyN (tb := fun W' D' σ H => ∀ pn xe, L2N.Takes (X.tr pn xe) W' → PassesOwn (model X.prog X.w) X.A X.env xe → WSs (X.tr pn xe) body D' σ H)
      (ts := fun a cls d D' σ H => ∀ oe pn, L2N.Zn cls d oe → (∃ vs, oe.data = .fields vs) → WSs (X.suite a ((a, oe) :: pn)) (b₀ :: suite) D' σ H) hs hf hc tk
      (fun W' pn xe t1 t2 => ⟨fun pins s σ H D I h => (h pn xe t1 t2).run pins s I⟩) (fun a oe cls d pn hz hv => ⟨fun pins s σ H D I h => (h oe pn hz hv).run pins s I⟩))
      (fun pn xe t1 t2 => wss_le (D := ({ D with nx := fun _ _ => False, xr := fun c T' => c = cx ∧ T' = T1 } : Po).ends F Lf) ⟨fun _ _ ⟨_, _, _, _, z, _⟩ => z.elim, fun _ _ q => q, fun _ _ q => q, fun _ _ q => q⟩ (hp _ pn xe t1 t2 F σ L Lf H s t o fun c T' F' L' H' ⟨q1, q2⟩ e' t' o' => by
        subst q1 q2
        exact ⟨bb, hm, fun q a _ oe pn' hz hv => wss_le (ends_le (D := { D with nx := fun Γ' T' => JSs X W Γ' T' rest D, xr := nox }) ⟨fun _ _ q => q, fun _ _ q => q, fun _ _ q => q, fun _ _ q => q, fun _ _ z => z.elim⟩ e') (hy q a oe pn' hz hv F' σ L' Lf H' (s.mono e') t' o' fun _ _ _ _ _ _ z => z.elim), fun q => w _ _ F' L' σ H' (hno q) e' t' o'⟩))) fun _ _ h => h
/-- except x as n, n in slot i -/
theorem js_tryA {T1 : Th} {cx : Value} {bb : Bool} {n : Str} (i : Nat) (hs : X.stack = X.env :: X.outer) (hf : X.env.frame = some X.env.locals) (hN : X.N.Nodup) (hi : X.N[i]? = some n) (hln : X.env.kindOf n = some .local) (hc : Names X x cl) (tk : L2N.Takes X W)
    (hp : ∀ (W' : WX) (pn : List (Addr × Obj)) (xe : Value → Shared → Prop), L2N.Takes (X.tr pn xe) W' → PassesOwn (model X.prog X.w) X.A X.env xe → JB (X.tr pn xe) W' Γ T body { D with nx := fun _ _ => False, xr := fun c T' => c = cx ∧ T' = T1 })
    (hm : PySem.W.exmOne X.K cx cl = some bb) (hbk : ∀ Γ T, ¬ D.bk Γ T) (hct : ∀ Γ T, ¬ D.ct Γ T) (hy : bb = true → ∀ (a : Addr) (oe : Obj) (pn : List (Addr × Obj)), L2N.Zn cx none oe → (∃ vs, oe.data = .fields vs) → JSs (X.suite a ((a, oe) :: pn)) W (Γ.set i (some (Ref a))) T1 (b₀ :: suite) { nx := fun Γ' T' => JSs X W (Γ'.set i none) T' rest D, rt := D.rt }) (hno : bb = false → D.xr cx T1) :
    JSs X W Γ T (.Try body [.ExceptHandler (some (.Name x np)) (some n) (b₀ :: suite) pos'] [] [] pos :: rest) D :=
  js_cons (M := fun Γ' T' => JSs X W Γ' T' rest D) (fun F σ L Lf H s t o w =>
    ws_of (L2N.ps_try_as (i := i) (tb := fun W' D' σ H => ∀ pn xe, L2N.Takes (X.tr pn xe) W' → PassesOwn (model X.prog X.w) X.A X.env xe → WSs (X.tr pn xe) body D' σ H)
      (ts := fun a cls d D' σ H => ∀ oe pn, L2N.Zn cls d oe → (∃ vs, oe.data = .fields vs) → WSs (X.suite a ((a, oe) :: pn)) (b₀ :: suite) D' σ H) hs hf hN hi hln hc tk
      (fun W' pn xe t1 t2 => ⟨fun pins s σ H D I h => (h pn xe t1 t2).run pins s I⟩) (fun a oe cls d pn hz hv => ⟨fun pins s σ H D I h => (h oe pn hz hv).run pins s I⟩))
      (fun pn xe t1 t2 => wss_le (D := ({ D with nx := fun _ _ => False, xr := fun c T' => c = cx ∧ T' = T1 } : Po).ends F Lf) ⟨fun _ _ ⟨_, _, _, _, z, _⟩ => z.elim, fun _ _ q => q, fun _ _ q => q, fun _ _ q => q⟩ (hp _ pn xe t1 t2 F σ L Lf H s t o fun c T' F' L' H' ⟨q1, q2⟩ e' t' o' => by
        subst q1 q2
        refine ⟨bb, hm, fun q a _ oe pn' hz hv => wss_le (D := ({ nx := fun Γ' T' => JSs X W (Γ'.set i none) T' rest D, rt := D.rt } : Po).ends F' Lf) ⟨fun σ6 H6 ⟨Γ6, T6, F6, L6, h1, h2, h3, h4, h5⟩ => ⟨_, T6, F6, L6, h1, e'.trans h2, h3.set (s := none) (o := none) True.intro i, h4, h5⟩, fun v H6 q => atV_le e' (fun _ _ z => z) q, fun _ _ ⟨_, _, _, _, z, _⟩ => z.elim, fun _ _ ⟨_, _, _, _, z, _⟩ => z.elim⟩ (hy q a oe pn' hz hv F' _ L' Lf H' ((s.mono e').set (s := some (Ref a)) (o := some (V.ref a)) ⟨_, rfl, rfl⟩ i) t' o' fun _ _ _ _ _ _ z => z.elim), fun q => w _ _ F' L' σ H' (hno q) e' t' o'⟩))) fun _ _ h => h
/-! isinstance of the exception that the suite holds -/
def excCB (K : PySem.W.Frag) (D : Addr) : Bool :=
  decide (PySem.W.findIn K (.ref D) "__getattribute__" = some (some (.builtin "BaseException.__getattribute__"))) && (decide (PySem.W.findIn K (.ref D) "__getattr__" = some none) && (decide (PySem.W.subIn K (.ref D) (.type "BaseException") = some true) && (PySem.W.hasDictIn K D &&
  (decide (PySem.W.findIn K (.ref D) "__class__" = some (some (.builtin "object.__class__"))) && (decide (PySem.W.specialIn K (.builtin "object.__class__") "__get__" = some (some (.builtin "getset_descriptor.__get__"))) && (decide (PySem.W.takesIn K (.builtin "object.__class__") = some true) && decide (PySem.W.mroIn K D (.type "object") = some true)))))))
theorem excCB_ok {K : PySem.W.Frag} {D : Addr} (h : excCB K D = true) : ExcC K D := by
  unfold excCB at h
  simp only [Bool.and_eq_true] at h
  obtain ⟨h1, h2, h3, h4, h5, h6, h7, h8⟩ := h
  exact ⟨of_decide_eq_true h1, of_decide_eq_true h2, of_decide_eq_true h3, h4, of_decide_eq_true h5, of_decide_eq_true h6, of_decide_eq_true h7, of_decide_eq_true h8⟩
/-- a class by its name -/
def Cvr (u : Value) (v0 : V) : VR := ⟨fun _ v => v = v0, fun _ h => h⟩
theorem je_cls {D : Addr} {pu : Pos} (hg : Gl X x) (hm : X.mg x = some (.ref D)) (hd : (x == ("__debug__" : Str)) = false := by decide) : JE X Γ T (.Name x pu) (Cvr (.ref D) (.ref D)) := je_con (pe_glob (v := .ref D) hg hm rfl hd) fun _ => rfl
theorem je_clsB {ty : String} {pu : Pos} (hg : Gl X x) (hm : X.mg x = none) (hv : bootBuiltins x = some (.type ty)) (hn : x ≠ "__name__" := by decide) (hd : (x == ("__debug__" : Str)) = false := by decide) : JE X Γ T (.Name x pu) (Cvr (.type ty) (.ty ty)) := je_con (pe_ty hg hm hv hn hd) fun _ => rfl
end
section
variable {X : Cx} {Γ : Slots} {T : Th} {e c : Expr} {pos p' : Pos} {a D : Addr} {oe : Obj}
/-- isinstance of the held exception and one class -/
theorem call_isEN (hpn : (a, oe) ∈ X.pn) (C : ExcC X.K D) (hz : L2N.Zn (.ref D) none oe) (hf : ∃ vs, oe.data = .fields vs) : CallR X (.builtin "isinstance") (rIsE X.K D a) := by
  intro pins s σ H xs us Q I r ⟨c, cv, b, h1, hcv, e, q⟩
  subst h1
  obtain ⟨u1, u2, rfl, r1, r2⟩ := r.two
  cases r1
  obtain rfl := hcv _ r2
  obtain ⟨vs, hv⟩ := hf
  have J : PySem.W.InstAt s.heap a oe D none := by
    have hget := (I.pin (a, oe) (List.mem_append_left _ hpn)).1
    obtain ⟨oc, od, oda, osl⟩ := oe
    obtain ⟨z1, z2⟩ := hz.zc
    dsimp only at z1 z2 hv
    subst z1 z2 hv
    exact ⟨hget, rfl, rfl, trivial⟩
  exact PySem.W.kia_one (PySem.W.handS_kitx_exc C.hg C.hk C.hs C.hd C.ha C.hn C.ht C.hm) I.kIn J e (fun z => nomatch z) fun tk => ⟨.bl b, H, I.kept (t' := tk) fun _ _ z => z, rfl, q⟩
theorem je_isE {u : Value} {v0 : V} {b : Bool} (hpn : (a, oe) ∈ X.pn) (C : ExcC X.K D) (hz : L2N.Zn (.ref D) none oe) (hf : ∃ vs, oe.data = .fields vs) (hg : Gl X "isinstance") (hm : X.mg "isinstance" = none) (ha : JE X Γ T e (Ref a)) (hc : JE X Γ T c (Cvr u v0)) (hu : ∀ w, RelV v0 w → w = u) (hk : PySem.W.kitOne X.K (.ref D) u = some b)
    (hs : starEach [e, c] X.env = (false, eval e X.env) :: starEach [c] X.env := by exact star1 rfl) (hs' : starEach [c] X.env = (false, eval c X.env) :: starEach [] X.env := by exact star1 rfl) :
    JE X Γ T (.Call (.Name "isinstance" p') [e, c] [] pos) (Dat b) :=
  je_ca (ρs := [Ref a, Cvr u v0]) (pe_callB (call_isEN hpn C hz hf) hg hm (by decide +kernel) wa_pa (by decide) (by decide) hs (by show (backTo pos (starEach [c] X.env)).any (·.1) = false; rw [hs']; rfl)) (ja_cons ha (ja_cons hc ja_nil hs') hs) fun F L Lf H vs Q t o rs k => by
    obtain ⟨x, y, rfl, rx, ry⟩ := vrs2 rs
    cases (show x = .ref a from rx)
    cases (show y = v0 from ry)
    exact ⟨_, u, b, rfl, hu, hk, k F L H _ (Same.refl F) t o rfl⟩
/-- isinstance(e, (c1, c2, ..)) -/
def rIsET (K : PySem.W.Frag) (D a : Addr) : List V → Hp → VK → Prop := fun xs H Q => ∃ (tp : Addr) (cs : List V) (us : List Value) (b : Bool), xs = [.ref a, .ref tp] ∧ H tp = some (.tup cs) ∧ (∀ ws, Vals cs ws → ws = us) ∧ PySem.W.kitAny K (.ref D) us = some b ∧ Q (.bl b) H
theorem call_isET (hpn : (a, oe) ∈ X.pn) (C : ExcC X.K D) (hz : L2N.Zn (.ref D) none oe) (hf : ∃ vs, oe.data = .fields vs) : CallR X (.builtin "isinstance") (rIsET X.K D a) := by
  intro pins s σ H xs us Q I r h
  obtain ⟨tp, cs, ws, b, rfl, hT, hcv, e, q⟩ := h
  cases r with
  | cons rx rr =>
    cases rr with
    | cons rt rr =>
      cases rr
      cases rx
      rename_i u2
      cases (show u2 = Value.ref tp from rt)
      obtain ⟨hget, _⟩ := I.pin (a, oe) (List.mem_append.mpr (.inl hpn))
      obtain ⟨vs, hv⟩ := hf
      have J : PySem.W.InstAt s.heap a oe D none := by
        obtain ⟨oc, od, oda, osl⟩ := oe
        obtain ⟨h1, h2⟩ := hz.zc
        dsimp only at h1 h2 hv
        subst h1 h2 hv
        exact ⟨hget, rfl, rfl, trivial⟩
      obtain ⟨_, its, rv, o, h1, h2, n, h3⟩ := (show ObjOk X.prog X.w H s.heap tp (.tup cs) from I.hok tp _ hT)
      have e3 := hcv _ rv
      subst e3
      obtain ⟨oc, od, dt, sl⟩ := o
      simp only at h2 h3
      subst h2 h3
      exact PySem.W.kia_tup (PySem.W.handS_kitx_exc C.hg C.hk C.hs C.hd C.ha C.hn C.ht C.hm) I.kIn J h1 e (fun z => nomatch z) fun tk => ⟨.bl b, H, I.kept (t' := tk) fun _ _ z => z, rfl, q⟩
theorem vals_cls : ∀ {Ds : List Addr} {ws : List Value}, Vals (Ds.map V.ref) ws → ws = Ds.map Value.ref
  | [], _, .nil => rfl
  | D :: Ds, _, .cons h t => by
    rw [List.map_cons, ← vals_cls t]
    exact congrArg (· :: _) h
theorem vrs_cls {F : Hp} : ∀ {Ds : List Addr} {vs : List V}, VRs F (Ds.map fun D => Cvr (.ref D) (.ref D)) vs → vs = Ds.map V.ref
  | [], _, .nil => rfl
  | D :: Ds, _, .cons h t => by
    rw [List.map_cons, ← vrs_cls t]
    exact congrArg (· :: _) h
theorem je_isET {Ds : List Addr} {b : Bool} (hpn : (a, oe) ∈ X.pn) (C : ExcC X.K D) (hz : L2N.Zn (.ref D) none oe) (hf : ∃ vs, oe.data = .fields vs) (hg : Gl X "isinstance") (hm : X.mg "isinstance" = none) (ha : JE X Γ T e (Ref a)) (hc : JE X Γ T c (TupV (Ds.map fun D => Cvr (.ref D) (.ref D)))) (hk : PySem.W.kitAny X.K (.ref D) (Ds.map Value.ref) = some b)
    (hs : starEach [e, c] X.env = (false, eval e X.env) :: starEach [c] X.env := by exact star1 rfl) (hs' : starEach [c] X.env = (false, eval c X.env) :: starEach [] X.env := by exact star1 rfl) :
    JE X Γ T (.Call (.Name "isinstance" p') [e, c] [] pos) (Dat b) :=
  je_ca (ρs := [Ref a, TupV (Ds.map fun D => Cvr (.ref D) (.ref D))]) (pe_callB (call_isET hpn C hz hf) hg hm (by decide +kernel) wa_pa (by decide) (by decide) hs (by show (backTo pos (starEach [c] X.env)).any (·.1) = false; rw [hs']; rfl)) (ja_cons ha (ja_cons hc ja_nil hs') hs) fun F L Lf H vs Q t o rs k => by
    obtain ⟨x, y, rfl, rx, ⟨p, us, ry, hp, hvs⟩⟩ := vrs2 rs
    cases (show x = .ref a from rx)
    cases ry
    exact ⟨p, us, _, b, rfl, o.sub _ _ hp, fun ws h => vals_cls (by rw [vrs_cls hvs] at h; exact h), hk, k F L H _ (Same.refl F) t o rfl⟩
end
end G

/-! GY: a dict's keys as a view; sorted of a dict's keys, ints, any number of them; a dict's keys as a list. -/
namespace G
open PySem PySem.Spec PyProof.Rows L2
open Rp (rep)
/-- the view v of the keys of d -/
abbrev KeysO (v d : Addr) : HO := .ext fun h => PySem.W.KdlKeysView h v d
section
variable {X : Cx}
theorem mt_keys : MtR X "dict.keys" (fun x vs H Q => ∃ (d : Addr) (kvs : List (Key × V)), x = .ref d ∧ vs = [] ∧ Rd H d (.dK kvs) ∧ ∀ v, H v = none → Q (.ref v) (upd H v (KeysO v d))) := by
  intro pins s σ H x vs v us Q I rx rv h
  obtain ⟨d, kvs, rfl, rfl, hd, q⟩ := h
  cases rx
  obtain rfl := rv.zero
  obtain ⟨z, lo, ws, rel, dd⟩ := dk_rd I.hok hd
  obtain ⟨ep, hat⟩ := dd.dictAt
  refine call_meetsIn PySem.F.slot_dict_keys hat.dictOf.typeIs PySem.F.entry_dict_keys (PySem.F.args_dict_keys_1 _) (PySem.W.kdl_meets_keys (mixKind X.prog X.w) d lo) ⟨⟨ws, dd⟩, ?_⟩
  have hv : PySem.W.KdlKeysView (s.heap.push { cls := .type "dict_keys", data := .fields #[.ref d] }) s.heap.objs.size d := ⟨_, Heap.get?_push_size _ rfl, rfl, rfl⟩
  exact ⟨.ref s.heap.objs.size, upd H s.heap.objs.size (KeysO s.heap.objs.size d), I.laid (t' := s.toks) (fun b u e => Heap.get?_push_of_some _ e) (Nat.le_refl _)
    (show ObjOk X.prog X.w _ _ _ (KeysO _ d) from ⟨hv, ⟨_, Heap.get?_push_size _ rfl⟩, fun h1 h2 ⟨o, ho, x⟩ k => ⟨o, k o ho, x⟩⟩), rfl, q _ (I.hok.fresh (Nat.le_refl _))⟩
theorem sorted_src {T : String} {r d : Addr} {vs : List (Key × Value)} {ks : List Int} {OK : Heap → Prop} {pins : List (Addr × Obj)} {s : Shared} {σ : L2.St} {H : Hp} {Q : VK} (hcalm : X.calm = true) (I : Inv X pins σ H s) (S : PySem.W.KdlSrc X.prog X.w T r d vs.length (fun i v => ∃ k x, vs[i]? = some (k, x) ∧ (mixKind X.prog X.w).is k v = true) OK) (hok : OK s.heap)
    (hkeys : vs.map (·.1) = ks.map Sum.inl) (hz : vs.length ≤ sizeLine) (q : ∀ (ns' : List Int) (p : Addr), ns'.Perm ks → ns'.Pairwise (· ≤ ·) → H p = none → Q (.ref p) (upd H p (.lst (ns'.map V.int)))) : wpAny (model X.prog X.w) X.A (call (.builtin "sorted") [.ref r]) (EP X pins σ Q) X.xe s := by
  have hl : vs.length = ks.length := by
    have e := congrArg List.length hkeys
    rw [List.length_map, List.length_map] at e
    exact e
  refine Calls.call_function_entry PyProof.Rows.kind_sorted PyProof.Rows.plain_sorted PyProof.Rows.entry_sorted (PyProof.Rows.args_sorted1 _) ?_
  unfold Builtin.«sorted»
  refine wpAny_bind (m := checkCount "sorted" 1 1 _) (wpAny_pure ?_)
  refine wpAny_bind (PySem.W.kdu_collect (A := X.A.in1) S (I.ok.hd hcalm) hok hz fun h' tk acc hk hacc => ?_)
  have hal : acc.toList.length = ks.length := by rw [Array.length_toList, hacc.1, hl]
  have hS : IntsAre acc.toList ks := ints_each hal fun j v e => by
    obtain ⟨k, x, e1, e2⟩ := hacc.2 j v (by rw [← Array.getElem?_toList]; exact e)
    have e3 : (vs.map (·.1))[j]? = some k := by rw [List.getElem?_map, e1]; rfl
    rw [hkeys, List.getElem?_map] at e3
    cases e4 : ks[j]? with
    | none => rw [e4] at e3; cases e3
    | some y =>
      rw [e4] at e3
      have e5 : Sum.inl y = k := Option.some.inj e3
      subst e5
      rcases keyIs_shape (show keyIs (Sum.inl y) v = true from e2) with ⟨i, t, ek, ev⟩ | ⟨z, t, ek, ev⟩
      · cases ek
        exact ⟨y, t, rfl, ev⟩
      · cases ek
  have hz' : acc.toList.length ≤ sizeLine := by rw [hal, ← hl]; exact hz
  have I1 : Inv X pins σ H { s with heap := h', toks := tk } := I.kept hk
  refine wpAny_bind (wpAny_newList ?_ hz')
  have hoL : (h'.push (seqObj "list" acc.toList.toArray 0)).get? h'.objs.size = some (seqObj "list" acc.toList.toArray 0) := Heap.get?_push_size _ rfl
  show wpAny _ _ _ _ _ { s with heap := h'.push (seqObj "list" acc.toList.toArray 0), toks := tk }
  refine wpAny_bind (wpAny_holding (wpAny_call_entry PyProof.Rows.slot_list_sort ⟨_, hoL, rfl⟩ PyProof.Rows.entry_list_sort
    (SrtO.list_sort_ord (s := { s with heap := h'.push (seqObj "list" acc.toList.toArray 0), toks := tk }) SrtO.swo_int hoL hz' (fun h2 => SrtO.ints_sortable hS h2) fun out g1 g2 => ⟨_, rfl, ?_⟩) (PyProof.Rows.args_list_sort _)))
  obtain ⟨k1, k2, k3⟩ := SrtO.ints_out hS g1 g2
  obtain ⟨e', he'⟩ := PyProof.Rows.sortedHeap_at (vs := acc.toList) (out := out.toArray) hoL
  have hlen : ((out.map SrtO.iv).map V.int).length ≤ sizeLine := by
    rw [List.length_map, k2.length_eq, ← hl]
    exact hz
  refine wpAny_pure ⟨_, rfl, .ref h'.objs.size, upd H h'.objs.size (.lst ((out.map SrtO.iv).map V.int)), I1.laid (t' := tk) (fun b u e => ?_) (Nat.le_refl _)
    (show ObjOk X.prog X.w _ _ _ (.lst ((out.map SrtO.iv).map V.int)) from ⟨hlen, out, e', vals_of_ints k1, he'⟩), rfl, q _ _ k2 k3 (I1.hok.fresh (Nat.le_refl _))⟩
  have hb : b < h'.objs.size := Heap.lt_size e
  rw [PyProof.Rows.sortedHeap_old (Nat.ne_of_lt hb) (by rw [size_push']; exact Nat.lt_succ_of_lt hb)]
  exact Heap.get?_push_of_some _ e
/-- sorted(d), sorted(d.keys()), the keys ints -/
def rSortK : List V → Hp → VK → Prop := fun xs H Q => ∃ (v d : Addr) (kvs : List (Key × V)) (ks : List Int), xs = [.ref v] ∧ (v = d ∨ H v = some (KeysO v d)) ∧ Rd H d (.dK kvs) ∧ kvs.map (·.1) = ks.map Sum.inl ∧
  ∀ (ns' : List Int) (p : Addr), ns'.Perm ks → ns'.Pairwise (· ≤ ·) → H p = none → Q (.ref p) (upd H p (.lst (ns'.map V.int)))
theorem cr_sortK (hcalm : X.calm = true) : CallR X (.builtin "sorted") rSortK := by
  intro pins s σ H xs us Q I r q
  obtain ⟨v, d, kvs, ks, rfl, hv, hd, hks, q⟩ := q
  rw [Vals.ref1 r]
  obtain ⟨z, lo, vs, rel, dd⟩ := dk_rd I.hok hd
  obtain ⟨ep, hat⟩ := dd.dictAt
  have hz : vs.length ≤ sizeLine := by rw [← rel.length]; exact z
  rcases hv with rfl | hv
  · exact sorted_src hcalm I (PySem.W.kdl_dict (knd := mixKind X.prog X.w) (kvs := vs) (ep := ep) lo) hat (rel.keys.symm.trans hks) hz q
  · obtain ⟨hv', _, _⟩ := (show ObjOk X.prog X.w _ _ _ (KeysO v d) from I.hok v _ hv)
    exact sorted_src hcalm I (PySem.W.kdl_keys (r := v) (d := d) (knd := mixKind X.prog X.w) (kvs := vs) (ep := ep)) ⟨hv', hat⟩ (rel.keys.symm.trans hks) hz q
end
section
variable {X : Cx} {W : WX} {Γ : Slots} {T : Th} {o a : Expr} {p : Addr} {pos apos cpos pp : Pos}
theorem keys_map {F : Hp} {A : Type} [Rp A] : ∀ {ws : List (Int × V)} {d : List (Int × A)}, Paired (DR F) ws d → (ws.map fun w => (SKey.key w.1, w.2)).map (·.1) = (d.map (·.1)).map Sum.inl
  | _, _, .nil => rfl
  | w :: ws, kv :: d, .cons h t => by
    rw [List.map_cons, List.map_cons, List.map_cons, List.map_cons, keys_map t]
    show SKey.key w.1 :: _ = Sum.inl kv.1 :: _
    rw [h.1]
    rfl
/-- sorted(d.keys()) -/
theorem jf_sortedKeys {A : Type} [Rp A] {d : List (Int × A)} (n : Nat) (hcalm : X.calm = true) (hg : Gl X "sorted") (hm : X.mg "sorted" = none) (ho : JE X Γ T o (Ref p)) (hn : T[n]? = some (p, OD d))
    (hs : starEach [.Call (.Attribute o "keys" apos) [] [] cpos] X.env = (false, eval (.Call (.Attribute o "keys" apos) [] [] cpos) X.env) :: starEach [] X.env := by exact star1 rfl)
    (hp : ∀ {to : TE} {r : V → List V → Hp → VK → Prop}, MtR X "dict.keys" r → PE X o to → PE X (.Call (.Attribute o "keys" apos) [] [] cpos) (tBM0 X.K "dict" r to) := by exact fun hm h => pe_bm0 PySem.F.plainAttrs_dict PySem.F.slot_dict_keys PySem.F.type_dict_keys hm h) :
    JF X W Γ T (.Call (.Name "sorted" pp) [.Call (.Attribute o "keys" apos) [] [] cpos] [] pos) (sortI (d.map (·.1))) := fun F σ L Lf H s t ow Q q _ => by
  refine we_of (pe_callB (cr_sortK hcalm) hg hm (by decide +kernel) (pa_cons (hp mt_keys we_pe) pa_nil hs) (by decide) (by decide) hs (by rfl)) ?_
  refine ho F σ L Lf H s t ow _ fun F1 M1 H1 u e1 t1 o1 r1 => ?_
  obtain rfl : u = .ref p := r1
  obtain ⟨Lk, Lr, ⟨ws, h1, rfl⟩, o'⟩ := t1.cell o1 hn
  have hd : H1 p = some (.dK (ws.map fun w => (SKey.key w.1, w.2))) := o'.cel _ (List.mem_cons_self ..)
  refine ⟨.inr (.inr (.inl ⟨rfl, .inl ⟨_, hd⟩⟩)), p, _, rfl, rfl, .inl hd, fun v hv => ?_⟩
  obtain ⟨e2, o2, e3⟩ := own_ice (o := KeysO v p) o1 hv
  refine ⟨v, p, _, d.map (·.1), rfl, .inr upd_same, .inl ((upd_ne fun e => by subst e; rw [hv] at hd; cases hd).trans hd), keys_map h1, fun ns' q' hp' hs' => ?_⟩
  rw [sorted_one (hp'.trans (sortI_perm _).symm) hs' (sortI_le _)]
  exact jf_new q (e1.trans e2) (t1.mono e2) o2 (paired_ints _) q'
theorem keys_one {κ A : Type} [Sca κ] [SKey κ] [Rp A] {F : Hp} : ∀ {ws : List (κ × V)} {d : List (κ × A)}, Paired (DR F) ws d → Paired (rep F) ((ws.map fun w => (SKey.key w.1, w.2)).map fun kv => kV kv.1) (d.map (·.1))
  | _, _, .nil => .nil
  | w :: ws, kv :: d, .cons h t => by
    refine .cons ?_ (keys_one t)
    show rep F (kV (SKey.key w.1)) kv.1
    rw [← h.1]
    exact (Sca.ok _ _ _).mpr (SKey.val _)
/-- list(d), the keys ints or texts -/
theorem jf_listDK {κ A : Type} [Sca κ] [SKey κ] [DecidableEq κ] [Rp A] {d : List (κ × A)} (n : Nat) (hcalm : X.calm = true) (hg : Gl X "list") (hm : X.mg "list" = none) (ho : JE X Γ T o (Ref p)) (hn : T[n]? = some (p, OD d))
    (hs : starEach [o] X.env = (false, eval o X.env) :: starEach [] X.env := by exact star1 rfl) : JF X W Γ T (.Call (.Name "list" pp) [o] [] pos) (d.map (·.1)) := fun F σ L Lf H s t ow Q q _ => by
  refine we_of (pe_callTy (call_listD hcalm) hg hm (by decide +kernel) (pa_cons we_pe pa_nil hs) (by decide) (by decide) hs (by rfl)) ?_
  refine ho F σ L Lf H s t ow _ fun F1 M1 H1 u e1 t1 o1 r1 => ?_
  obtain rfl : u = .ref p := r1
  obtain ⟨Lk, Lr, ⟨ws, h1, rfl⟩, o'⟩ := t1.cell o1 hn
  have hd : H1 p = some (.dK (ws.map fun w => (SKey.key w.1, w.2))) := o'.cel _ (List.mem_cons_self ..)
  exact ⟨p, _, rfl, .inl hd, jf_new q e1 t1 o1 (keys_one h1)⟩
theorem call_listT (hcalm : X.calm = true) : CallR X (.type "list") (fun xs H Q => ∃ (a : Addr) (kvs : List (List L2.Key × V)), xs = [.ref a] ∧ Rd H a (.dT kvs) ∧
    ∀ ps : List Addr, Paired (fun (kv : List L2.Key × V) p => H p = some (.tup (kv.1.map kV))) kvs ps → ∀ p, H p = none → Q (.ref p) (upd H p (.lst (ps.map V.ref)))) := by
  intro pins s σ H xs us Q I r q
  obtain ⟨a, kvs, rfl, hd, q⟩ := q
  rw [Vals.ref1 r]
  obtain ⟨z, lo, xs, rel, dd⟩ := dt_rd I.hok hd
  obtain ⟨es, ep, hr, hsz, hk⟩ := PySem.Heap.DictOfH.raw dd
  have hlen : es.size ≤ sizeLine := by rw [hsz, ← rel.length]; exact z
  have hps : Paired (fun (kv : List L2.Key × V) p => H p = some (.tup (kv.1.map kV))) kvs (xs.map fun x => x.2.1) := by
    have go : ∀ {l : List (List L2.Key × V)} {m : List (List L2.Key × Addr × Value)}, KT H l m → Paired (fun (kv : List L2.Key × V) p => H p = some (.tup (kv.1.map kV))) l (m.map fun x => x.2.1) := by
      intro l m q
      induction q with
      | nil => exact .nil
      | cons h t ih => exact .cons h.2.1 ih
    exact go rel
  refine PySem.W.kdl_call (PySem.KdlSrc.rawDict lo (es := es) (ep := ep)) (I.ok.hd hcalm) hr hlen fun h' tk acc c' hkp hD hacc => ?_
  have hv : Vals ((xs.map fun x => x.2.1).map V.ref) acc.toList := by
    have e : acc.toList = (xs.map fun x => x.2.1).map Value.ref := by
      apply List.ext_getElem?
      intro i
      rw [List.getElem?_map, List.getElem?_map]
      cases hx : xs[i]? with
      | none =>
        have hl := List.getElem?_eq_none_iff.mp hx
        rw [List.getElem?_eq_none_iff.mpr (by rw [Array.length_toList, hacc.1, hsz]; exact hl)]
        rfl
      | some y =>
        have hl : i < es.size := by rw [hsz]; exact (List.getElem?_eq_some_iff.mp hx).1
        obtain ⟨y', h1, h2, _⟩ := hk i hl
        cases hx.symm.trans h1
        have ha : i < acc.toList.length := by rw [Array.length_toList, hacc.1]; exact hl
        obtain ⟨hi, e⟩ := hacc.2 i _ (by rw [← Array.getElem?_toList]; exact List.getElem?_eq_getElem ha)
        rw [List.getElem?_eq_getElem ha, e, h2]
        rfl
    rw [e]
    have go : ∀ l : List Addr, Vals (l.map V.ref) (l.map Value.ref) := by
      intro l
      induction l with
      | nil => exact .nil
      | cons x xs ih => exact .cons rfl ih
    exact go _
  refine ⟨.ref s.heap.objs.size, upd H s.heap.objs.size (.lst ((xs.map fun x => x.2.1).map V.ref)), I.laid (t' := tk) hkp (Nat.le_refl _)
    (show ObjOk X.prog X.w _ _ _ (.lst ((xs.map fun x => x.2.1).map V.ref)) from ⟨by rw [List.length_map, List.length_map, ← hsz]; exact hlen, acc.toList, c', hv, by rw [Array.toArray_toList]; exact hD⟩), rfl, q _ hps _ (I.hok.fresh (Nat.le_refl _))⟩
theorem adopt_all {κ κ' A : Type} [Sca κ] [SKey κ] [Sca κ'] [SKey κ'] [Rp A] {L : List Cell} {H : Hp} : ∀ {F F0 : Hp} {ws : List ((κ × κ') × V)} {d : List ((κ × κ') × A)} {ps : List Addr}, Paired (DR F0) ws d → Own F L H →
    Paired (fun (kv : List L2.Key × V) p => H p = some (.tup (kv.1.map kV))) (ws.map fun w => ([SKey.key w.1.1, SKey.key w.1.2], w.2)) ps → ∃ F', Same F F' ∧ Own F' L H ∧ Paired (rep F') (ps.map V.ref) (d.map (·.1))
  | F, _, _, _, _, .nil, ow, .nil => ⟨F, Same.refl F, ow, .nil⟩
  | F, _, w :: ws, kv :: d, p :: ps, .cons h t, ow, .cons h2 t2 => by
    obtain ⟨F1, e1, o1, r1⟩ := adopt_all t ow t2
    obtain ⟨F', a1, a2, a3⟩ := o1.adopt h2
    refine ⟨F', e1.trans a1, a2, .cons ?_ (Paired.mono (fun _ _ z => Rp.mono a1 z) r1)⟩
    show rep F' (V.ref p) kv.1
    rw [← h.1]
    exact ⟨p, kV (SKey.key w.1.1), kV (SKey.key w.1.2), rfl, a3, (Sca.ok _ _ _).mpr (SKey.val _), (Sca.ok _ _ _).mpr (SKey.val _)⟩
/-- list(d), the keys pairs -/
theorem jf_listDT {κ κ' A : Type} [Sca κ] [SKey κ] [DecidableEq κ] [Sca κ'] [SKey κ'] [DecidableEq κ'] [Rp A] {d : List ((κ × κ') × A)} (n : Nat) (hcalm : X.calm = true) (hg : Gl X "list") (hm : X.mg "list" = none) (ho : JE X Γ T o (Ref p)) (hn : T[n]? = some (p, OD d))
    (hs : starEach [o] X.env = (false, eval o X.env) :: starEach [] X.env := by exact star1 rfl) : JF X W Γ T (.Call (.Name "list" pp) [o] [] pos) (d.map (·.1)) := fun F σ L Lf H s t ow Q q _ => by
  refine we_of (pe_callTy (call_listT hcalm) hg hm (by decide +kernel) (pa_cons we_pe pa_nil hs) (by decide) (by decide) hs (by rfl)) ?_
  refine ho F σ L Lf H s t ow _ fun F1 M1 H1 u e1 t1 o1 r1 => ?_
  obtain rfl : u = .ref p := r1
  obtain ⟨Lk, Lr, ⟨ws, h1, rfl⟩, o'⟩ := t1.cell o1 hn
  have hd : H1 p = some (.dT (ws.map fun w => ([SKey.key w.1.1, SKey.key w.1.2], w.2))) := o'.cel _ (List.mem_cons_self ..)
  refine ⟨p, _, rfl, .inl hd, fun ps hps => ?_⟩
  obtain ⟨F2, e2, o2, r2⟩ := adopt_all h1 o1 hps
  exact jf_new q (e1.trans e2) (t1.mono e2) o2 r2
end
/-! walks whose list is told by a call that may refuse; calls with steps as arguments that may refuse -/
section
variable {X : Cx} {W : WX} {Γ Γ' : Slots} {T T' Tr : Th} {st : Stmt} {rest sts body : List Stmt} {D D' : Po} {e o tg iter b c : Expr} {es : List Expr} {pos apos pn : Pos} {ρ : VR} {x f m : Str} {p C : Addr} {A Cl R M : Type} {nm : Cl → Str} {vals : A → List VR} {owns : A → Th} {mi : A → Option (Rz Cl R M)} {res : A → R → VR → Th → Prop} {exr : A → M → Th} {n : Nat} {ps : List Str} {Rb : VR → Th → Prop} {xr xr' : Value → Th → Prop}
theorem jx_exK (he : JX X W Γ T e Rb (fun c T1 => ∃ T2, TEnt T1 T2 ∧ xr' c T2)) : JX X W Γ T e Rb xr' := jx_exE he fun _ _ h => h
theorem js_forZ (hp : PassesOwn (model X.prog X.w) X.A X.env X.xe) (hc : X.calm = true) (h : JX X W Γ T iter no_ D.xr) (hs : ∀ x, foldedSetIterable iter X.env x = pure x := by exact folded_no rfl) : JSs X W Γ T (.For tg iter body [] pos :: rest) D := by
  refine js_cons (M := fun _ _ => False) (fun F σ L Lf H sr t o w => ?_) fun _ _ z => z.elim
  refine ws_of (ps_for hp hc wi_pi wg_pg wss_pss hs) ?_
  exact ⟨_, pi_list we_pe, h F σ L Lf H sr t o _ (fun v H' ⟨_, _, _, _, z, _⟩ => z.elim) fun c T' F' L' H' h1 h2 h3 h4 => w c T' F' L' σ H' h1 h2 h3 h4⟩
abbrev CallKX (K : PySem.W.Frag) (nm : Cl → Str) (vals : A → List VR) (owns : A → Th) (mi : A → Option (Rz Cl R M)) (res : A → R → VR → Th → Prop) (exr : A → M → Th) (Rb : VR → Th → Prop) (xr : Value → Th → Prop) (ρs : List VR) (T1 : Th) : Prop :=
  ∃ (a : A) (z : Rz Cl R M) (Tr : Th), vals a = ρs ∧ mi a = some z ∧ T1.Perm (owns a ++ Tr) ∧ (∀ r ρ To, z = .ok r → res a r ρ To → Rb ρ (To ++ Tr)) ∧ ∀ cx y, z = .ex cx y → xr (.ref (He.ga K (nm cx))) (exr a y ++ Tr)
theorem jx_callXA (Ca : Cal X.prog X.w X.K X.mg X.base n x ps (xSpec X.K nm vals owns mi res exr).sp) (tk : L2N.Takes X W) (hr : Room n X.A) (hg : Gl X x) (hA : JAX X W Γ T (e :: es) (CallKX X.K nm vals owns mi res exr Rb xr)) (hdb : (x == ("__debug__" : Str)) = false := by decide) (he : starEach (e :: es) X.env = (false, eval e X.env) :: starEach es X.env := by exact star1 rfl) (hpl : (backTo pos (starEach es X.env)).any (·.1) = false := by exact backTo_any (stars rfl)) :
    JX X W Γ T (.Call (.Name x pn) (e :: es) [] pos) Rb xr := fun F σ L Lf H s t o Q q qx => by
  obtain ⟨f, fd, Fn, hm, hk, hb⟩ := Ca
  refine we_of (pe_callS Fn hr hg hm hk hb (fun σ => L2N.passAt tk σ) wa_pa hdb he hpl) (hA F σ L Lf H s t o _ fun vs H1 ⟨ρs, T', F1, M1, ⟨a, z, Tr, z1, h, hT, hR, hX⟩, e1, hv, t1, o1⟩ => ?_)
  subst z1
  obtain ⟨N1, p1, t2⟩ := t1.perm hT
  exact sp_use (g := xSpec X.K nm vals owns mi res exr) ⟨z, h⟩ hv t2 (o1.perm (p1.symm.append_right Lf)) (fun v H' ⟨ρ', T', F', L', ⟨To, ⟨r', h1, h1'⟩, h6⟩, h2, h3, h4, h5⟩ => by
    cases h.symm.trans h1
    subst h6
    exact q v H' ⟨ρ', _, F', L', hR _ _ _ rfl h1', e1.trans h2, h3, h4, h5⟩) fun c To F' L' H' ⟨x', y', h1, h2, h3⟩ h4 h5 h6 => by
      cases h.symm.trans h1
      subst h2 h3
      exact qx _ _ F' L' H' (hX _ _ rfl) (e1.trans h4) h5 h6
end
end G

/-! GZ: a def that is handed the exception that is handled. -/
namespace G
open PySem PySem.Spec PyProof.Rows L2
open Rp (rep)
section
variable {P : Program} {w : World} {K : PySem.W.Frag} {mg : Str → Option Value} {base : Heap}
/-- what a def promises where the exception p is handled -/
structure FnP (P : Program) (w : World) (K : PySem.W.Frag) (mg : Str → Option Value) (base : Heap) (k : Nat) (f : Addr) (fd : FuncData) (ps : List Str) (p : Addr × Obj) (sp : Sp) : Prop where
  len : ∀ vs H Q E, sp vs H Q E → vs.length = ps.length
  run : ∀ (A : Around) (outer : List Env) (s : Shared) (H : Hp) (args : Args) (us : List Value) (vs : List V) (Q : VK) (E : XK), L2H.RoomH k A → L2H.Hot1 A p → L2H.PinOk outer H s p → Env0 P w K mg base A outer s H → BindsTo s fd args (ps.zip us) → Vals vs us → sp vs H Q E →
    codeAny (model P w) A (.call (.ref f) args) (CR (L2N.CX P w) outer P w H s Q E) s
abbrev bodyP (P : Program) (w : World) (K : PySem.W.Frag) (mg : Str → Option Value) (base : Heap) (N : List Str) (qual : Str) (st : Stmt) (f : Addr) (cdv : Value) (A : Around) (outer : List Env) (s : Shared) (H : Hp) (E : XK) (p : Addr × Obj) : Cx :=
  L2H.cxH (L2N.CX P w) P w K mg base N qual (defScope st) f cdv A outer s H E p
theorem fnP_of {x qual : Str} {st : Stmt} {f : Addr} {fd : FuncData} {N ps : List Str} {k : Nat} {sp : Sp} {p : Addr × Obj} (F : FnD K x qual st f fd) (S : FnScope N ps (defScope st)) (len : ∀ vs H Q E, sp vs H Q E → vs.length = ps.length)
    (body : ∀ (cdv : Value) (A : Around) (outer : List Env) (s : Shared) (H : Hp) (vs : List V) (Q : VK) (E : XK), sp vs H Q E → WSs (bodyP P w K mg base N qual st f cdv A outer s H E p) (defBody st) { nx := fun _ H' => Q .non H', rt := Q } (start N vs) H) : FnP P w K mg base (k + 1) f fd ps p sp where
  len := len
  run A outer s H args us vs Q E hr hot hpin e0 hb r hsp := by
    obtain ⟨oc, od, dV, kV, doc, pm, an, cdv, ct, osl, rfl, lk, hcd, _, _⟩ := F.ex
    have KX : K.In s.heap := e0.mod.kin.keeps fun b o e => (e0.bs b o e).1
    have nolim : s.heap.NoLimit := e0.mod.nolimit.keeps fun b o e => (e0.bs b o e).1
    refine codeAny_call_function hr.depth (KX _ _ lk) rfl S.co S.gen rfl (PySem.W.codeRec_of KX hcd) (hb _ _ _ _ (wpAny_newFunctionEnv_cells S.kind (fun ⟨n, v⟩ hy => ?_) fun env he s1 x => ?_))
    · exact (S.par n (List.of_mem_zip hy).1).imp id fun q => ⟨q, PySem.W.cellsFrom_some _ _ _ (.inl q)⟩
    subst he
    refine ⟨nolim.keeps x.toInCall.keep, codeAny_func ?_⟩
    have I : Inv (bodyP P w K mg base N qual st f cdv A outer s H E p) [] (start N vs) H s1 := L2H.inv_startH S hpin e0 (len _ _ _ _ hsp) r x
    exact wpAny_mono ((body cdv A outer s H vs Q E hsp).run [] s1 I) (fun fl s' hs => match fl, hs with
      | .ret u, ⟨v, σ', H', J, rv, q⟩ => ⟨v, H', J.os, J.bare, J.base, J.hok, rv, q⟩
      | .next, ⟨σ', H', J, q⟩ => ⟨.non, H', J.os, J.bare, J.base, J.hok, rfl, q⟩
      | .brk, ⟨_, _, _, q⟩ => q.elim
      | .cont, ⟨_, _, _, q⟩ => q.elim) fun e s' hs => hs
theorem fnGP {x qual : Str} {st : Stmt} {f : Addr} {fd : FuncData} {N ps : List Str} {k : Nat} {A : Type} {p : Addr × Obj} (g : GSpec A) (F : FnD K x qual st f fd) (S : FnScope N ps (defScope st)) (hn : ∀ a, (g.vals a).length = ps.length)
    (body : ∀ (cdv : Value) (Ar : Around) (outer : List Env) (s : Shared) (H : Hp) (E : XK), ∀ a, g.ok a →
      JSs (bodyP P w K mg base N qual st f cdv Ar outer s H E p) (wOf E) (G0 N (g.vals a)) (g.owns a) (defBody st) { nx := fun _ T => g.res a (Dat ()) T, rt := g.res a, xr := g.exc a }) : FnP P w K mg base (k + 1) f fd ps p g.sp := by
  refine fnP_of F S (fun vs H Q E ⟨a, Fz, L, Lf, _, hv, _⟩ => by rw [← hv.length]; exact hn a) (fun cdv Ar outer s H vs Q E ⟨a, Fz, L, Lf, ha, hv, t, o, kq, ke⟩ => ?_)
  refine wss_le ?_ (body cdv Ar outer s H E a ha Fz _ L Lf H (sr_start hv) t o (fun c T F' L' σ H' x e t' o' => ke c T F' L' H' x e t' o'))
  exact ⟨fun σ' H' ⟨Γ, T, F', L', h1, h2, h3, h4, h5⟩ => kq _ _ ⟨Dat (), T, F', L', h1, h2, rfl, h4, h5⟩, fun v H' q => kq _ _ q, fun _ _ ⟨_, _, _, _, z, _⟩ => z.elim, fun _ _ ⟨_, _, _, _, z, _⟩ => z.elim⟩
/-- a def of the exception alone, by its mirror over the classes -/
abbrev pSpec {Cl R : Type} [Rp R] (K : PySem.W.Frag) (nm : Cl → Str) (m : Cl → Option R) (p : Addr × Obj) : GSpec Cl :=
  { ok := fun x => (∃ r, m x = some r) ∧ L2N.Zn (.ref (He.ga K (nm x))) none p.2 ∧ ∃ vs, p.2.data = .fields vs, vals := fun _ => [Ref p.1], owns := fun _ => [], res := fun x ρ T => ∃ r, m x = some r ∧ ρ = Dat r ∧ T = [], exc := fun _ _ _ => False }
def CalP (P : Program) (w : World) (K : PySem.W.Frag) (mg : Str → Option Value) (base : Heap) (k : Nat) (x : Str) (ps : List Str) (sp : Addr × Obj → Sp) : Prop :=
  ∃ f fd, (∀ p, FnP P w K mg base k f fd ps p (sp p)) ∧ mg x = some (.ref f) ∧ PySem.W.keepIn K (.ref f) = true ∧ Binds K fd ps []
theorem fnPm {Cl R : Type} [Rp R] {x qual : Str} {st : Stmt} {f : Addr} {fd : FuncData} {N ps : List Str} {k : Nat} (nm : Cl → Str) (m : Cl → Option R) (F : FnD K x qual st f fd) (S : FnScope N ps (defScope st)) (hn : ps.length = 1)
    (body : ∀ (p : Addr × Obj) (cdv : Value) (Ar : Around) (outer : List Env) (s : Shared) (H : Hp) (E : XK) (x : Cl) (r : R), m x = some r → L2N.Zn (.ref (He.ga K (nm x))) none p.2 → (∃ vs, p.2.data = .fields vs) →
      JSs (bodyP P w K mg base N qual st f cdv Ar outer s H E p) (wOf E) (G0 N [Ref p.1]) [] (defBody st) { nx := fun _ _ => False, rt := fun ρ T => ρ = Dat r ∧ T = [] }) : ∀ p, FnP P w K mg base (k + 1) f fd ps p (pSpec K nm m p).sp := fun p =>
  fnGP _ F S (fun _ => hn.symm) fun cdv Ar outer s H E x ⟨⟨r, hr⟩, hz, hf⟩ => jss_le (body p cdv Ar outer s H E x r hr hz hf) ⟨fun _ _ z => z.elim, fun _ _ ⟨a, b⟩ => ⟨r, hr, a, b⟩, fun _ _ z => z, fun _ _ z => z, fun _ _ z => z⟩
end
section
variable {X : Cx} {Γ : Slots} {T : Th} {e : Expr} {x : Str} {pos q : Pos} {n k : Nat} {f : Addr} {fd : FuncData} {ps : List Str} {sp : Sp} {t : TA} {p : Addr × Obj}
theorem pe_callP (F : FnP X.prog X.w X.K X.mg X.base k f fd ps p sp) (hr : L2H.RoomH k X.A) (hot : L2H.Hot1 X.A p) (hp : p ∈ X.pn) (hg : Gl X x) (hm : X.mg x = some (.ref f)) (hk : PySem.W.keepIn X.K (.ref f) = true) (hb : Binds X.K fd ps [])
    (ha : PA X [e] t) (hdb : (x == ("__debug__" : Str)) = false) (he : starEach [e] X.env = (false, eval e X.env) :: starEach [] X.env) : PE X (.Call (.Name x q) [e] [] pos) (tCallS sp (fun _ => E0) t) := by
  refine ⟨fun pins s σ H Q I h => wpAny_Call_Name_kw (ld_glob I hg hm ?_ hdb)⟩
  refine PySem.W.callWith_K (h₀ := X.base) I.ok.mod.kin hk (thn (ha.run pos pins s σ H _ I h) fun us s1 ⟨vs, H1, I1, r, hq⟩ => ⟨I1.kIn, ?_⟩) he (by rfl)
  have hq : sp vs H1 Q E0 := hq
  have P1 := I1.pin p (List.mem_append_left _ hp)
  have b := hb s1 us I1.kIn (by rw [List.append_nil, ← r.length]; exact F.len _ _ _ _ hq)
  rw [List.append_nil] at b
  refine wpAny_call (codeAny_mono (F.run X.A X.stack s1 H1 ⟨us, []⟩ us vs Q E0 hr hot ⟨P1.1, P1.2.1, fun hm => (List.mem_cons.mp (I1.stkSub p.1 hm)).elim P1.2.2.1 P1.2.2.2.1, P1.2.2.2.2⟩ I1.env0 b r hq) fun r s' hq => ?_)
  cases r with
  | error e =>
    obtain ⟨_, _, _, _, _, _, _, _, _, _, _, _, z⟩ := hq
    exact z.elim
  | ok fl =>
    cases fl with
    | ret u => exact I1.after hq
    | next => exact False.elim hq
    | brk => exact False.elim hq
    | cont => exact False.elim hq
theorem roomP {A : Around} {v : Option Value} {j : Nat} (hr : Room k A) (h : j ≤ k) : L2H.RoomH j (A.mark v) := ⟨(hr.mono h).dp, (hr.mono h).un⟩
/-- a call of a def that is handed the exception -/
theorem je_callE {Cl R : Type} [Rp R] {nm : Cl → Str} {m : Cl → Option R} {a : Addr} {oe : Obj} (y : Cl) {r : R} (h : m y = some r) (hz : L2N.Zn (.ref (He.ga X.K (nm y))) none oe) (hf : ∃ vs, oe.data = .fields vs) (Ca : CalP X.prog X.w X.K X.mg X.base n x ps fun p => (pSpec X.K nm m p).sp) (hh : X.A.handled = some (.ref a)) (hp : (a, oe) ∈ X.pn)
    (hr : L2H.RoomH n X.A) (hg : Gl X x) (ha : JE X Γ T e (Ref a)) (hdb : (x == ("__debug__" : Str)) = false := by decide) (he : starEach [e] X.env = (false, eval e X.env) :: starEach [] X.env := by exact star1 rfl) : JE X Γ T (.Call (.Name x q) [e] [] pos) (Dat r) := fun F σ L Lf H s t o Q q => by
  obtain ⟨f, fd, Fn, hm, hk, hb⟩ := Ca
  obtain ⟨vs, hv⟩ := hf
  refine we_of (pe_callP (Fn (a, oe)) hr ⟨hh, vs, hv, hz.2.2 vs hv⟩ hp hg hm hk hb wa_pa hdb he) (ja_cons ha ja_nil he F σ L Lf H s t o _ fun F1 M1 H1 us e1 t1 o1 hv1 => ?_)
  exact sp_use (g := pSpec X.K nm m (a, oe)) (a := y) (Tr := T) ⟨⟨r, h⟩, hz, vs, hv⟩ hv1 t1 o1 (fun v H' ⟨ρ', T', F', L', ⟨To, ⟨r', h1, h2, h3⟩, h6⟩, h7, h8, h9, h10⟩ => by
    cases h.symm.trans h1
    subst h2 h3 h6
    exact q F' L' H' v (e1.trans h7) h9 h10 h8) fun c To _ _ _ z => z.elim
end
/-! an item of a list of new lists; where a thing first stands in a list -/
section
variable {X : Cx} {W : WX} {Γ : Slots} {T : Th} {e b : Expr} {es : List Expr} {pos pos2 : Pos} {B : Type} [Rp B] {xs ys : List B} {xss : List (List B)} {i : Int}
theorem atI_mapV {α β : Type} {f : α → β} {l : List α} {i : Int} {x : α} (h : atI l i = some x) : atI (l.map f) i = some (f x) := by
  obtain ⟨j, _, h2, _⟩ := atI_get h
  unfold atI at h ⊢
  rw [List.length_map]
  cases e : ixN l.length i with
  | none => rw [e] at h; cases h
  | some k =>
    rw [e] at h
    show (l.map f)[k]? = _
    rw [List.getElem?_map, show l[k]? = some x from h]
    rfl
theorem Own.sublist {F : Hp} {L L' : List Cell} {H : Hp} (h : Own F L H) (e : L'.Sublist L) : Own F L' H :=
  ⟨h.sub, fun c m => h.cel c (e.subset m), fun c m => h.out c (e.subset m), (e.map _).nodup h.nd, fun c m => h.nt c (e.subset m)⟩
/-- expressions that each give a new list -/
def JFA (X : Cx) (Γ : Slots) (T : Th) (es : List Expr) {B : Type} [Rp B] (xss : List (List B)) : Prop := ∀ F σ L Lf H, SR F Γ σ → TR F T L → Own F (L ++ Lf) H → ∀ Q : List V → Hp → Prop,
  (∀ F' M' H' (cs : List Cell), Same F F' → TR F' T M' → Own F' (cs ++ (M' ++ Lf)) H' → Paired (fun c xs => ∃ vs, Paired (rep F') vs xs ∧ c.2 = .lst vs) cs xss → Q (cs.map fun c => .ref c.1) H') → WA X es σ H Q
theorem jfa_nil : JFA X Γ T [] ([] : List (List B)) := fun F σ L Lf H s t o Q k => wa_of pa_nil (k F L H [] (Same.refl F) t o .nil)
theorem jfa_cons (h : JF X W0 Γ T e xs) (hr : JFA X Γ T es xss) (hs : starEach (e :: es) X.env = (false, eval e X.env) :: starEach es X.env := by exact star1 rfl) : JFA X Γ T (e :: es) (xs :: xss) := fun F σ L Lf H s t o Q k =>
  wa_of (pa_cons we_pe wa_pa hs) (h F σ L Lf H s t o _ (fun v H' ⟨ρ', T', F1, L1, ⟨p, h1, h2⟩, e1, r, t1, o1⟩ => by
    subst h1 h2
    cases t1 with
    | @cons _ _ _ La Lb a t1 =>
      obtain ⟨vs, a1, a2⟩ := a
      subst a2
      obtain rfl : v = .ref p := r
      refine hr F1 σ Lb ((p, .lst vs) :: Lf) H' (s.mono e1) t1 (o1.perm (by simpa using List.perm_middle.symm)) _ fun F2 M2 H2 cs e2 t2 o2 rs => ?_
      exact k F2 M2 H2 ((p, .lst vs) :: cs) (e1.trans e2) t2 (o2.perm (by
        have : (cs ++ (M2 ++ (p, HO.lst vs) :: Lf)).Perm ((p, HO.lst vs) :: (cs ++ (M2 ++ Lf))) := by
          rw [← List.append_assoc, ← List.append_assoc]
          exact List.perm_middle
        simpa using this)) (.cons ⟨vs, Paired.mono (fun _ _ q => Rp.mono e2 q) a1, rfl⟩ rs)) fun c T' F' L' H' z => z.elim)
/-- an item of a list of new lists -/
theorem jf_pick (h : JFA X Γ T es xss) (hz : xss.length ≤ sizeLine) (hb : JE X Γ T b (Dat i)) (hi : atI xss i = some ys) (hs : PlainIx b := by exact fun _ _ => rfl) : JF X W Γ T (.Subscript (.List es pos2) b pos) ys := fun F σ L Lf H s t o Q q _ =>
  we_of (pe_ix ix_list we_pe we_pe hs) (we_of (pe_lst wa_pa) (h F σ L Lf H s t o _ fun F1 M1 H1 cs e1 t1 o1 rs => by
    refine ⟨by rw [List.length_map, rs.length]; exact hz, fun p hp => ?_⟩
    have o2 : Own F1 (M1 ++ (cs ++ ((p, HO.lst (cs.map fun c => V.ref c.1)) :: Lf))) (upd H1 p (.lst (cs.map fun c => V.ref c.1))) := (o1.born hp).perm (by
      have a1 : (M1 ++ (cs ++ ((p, HO.lst (cs.map fun c => V.ref c.1)) :: Lf))).Perm ((p, HO.lst (cs.map fun c => V.ref c.1)) :: (M1 ++ (cs ++ Lf))) := by
        rw [← List.append_assoc, ← List.append_assoc]
        exact List.perm_middle
      have a2 : (M1 ++ (cs ++ Lf)).Perm (cs ++ (M1 ++ Lf)) := by
        rw [← List.append_assoc, ← List.append_assoc]
        exact (List.perm_append_comm).append_right _
      exact ((List.Perm.cons _ a2).symm).trans a1.symm)
    refine hb F1 σ M1 _ _ (s.mono e1) t1 o2 _ fun F2 M2 H2 v e2 t2 o3 rv => ?_
    obtain ⟨c, hc, vs, c1, c2⟩ := Paired.at rs hi
    obtain ⟨j, _, hj, _⟩ := atI_get hc
    obtain ⟨pc, oc⟩ := c
    obtain rfl : oc = .lst vs := c2
    have hcm : (pc, HO.lst vs) ∈ cs := List.mem_of_getElem? hj
    have hl : H2 p = some (.lst (cs.map fun c => V.ref c.1)) := o3.cel _ (List.mem_append_right _ (List.mem_append_right _ (List.mem_cons_self ..)))
    refine ⟨p, _, i, .ref pc, rfl, rv, SqL.of hl, atI_mapV hc, ?_⟩
    refine q _ _ ⟨Ref pc, _, F2, (pc, .lst vs) :: M2, ⟨pc, rfl, rfl⟩, e1.trans e2, rfl, .cons (L1 := [(pc, .lst vs)]) ⟨vs, Paired.mono (fun _ _ q => Rp.mono e2 q) c1, rfl⟩ t2, ?_⟩
    have o4 : Own F2 (M2 ++ ((pc, HO.lst vs) :: Lf)) H2 := o3.sublist (List.Sublist.append_left (by
      have : [(pc, HO.lst vs)].Sublist cs := List.singleton_sublist.mpr hcm
      simpa using this.append (List.sublist_cons_self _ Lf)) M2)
    exact o4.perm List.perm_middle))
end
section
variable {X : Cx} {W : WX} {Γ : Slots} {T : Th} {e o : Expr} {pos apos : Pos} {A : Type} [Sca A] [DecidableEq A] {xs : List A} {y : A} {ρ : VR} {j : Int}
/-- where a thing first stands in a list -/
def idxO (xs : List A) (y : A) : Option Int := if y ∈ xs then some ((xs.idxOf y : Nat) : Int) else none
theorem idx_at {F : Hp} : ∀ {vs : List V} {xs : List A}, Paired (rep F) vs xs → y ∈ xs → ∃ z, vs[xs.idxOf y]? = some z ∧ eqV z (Sca.val y) = true ∧ ∀ (m : Nat) (z' : V), m < xs.idxOf y → vs[m]? = some z' → eqV z' (Sca.val y) = false
  | _, _, .nil, h => by cases h
  | _, _, @Paired.cons _ _ _ v x vs xs a t, h => by
    have hv : v = Sca.val x := (Sca.ok _ _ _).mp a
    by_cases q : x = y
    · subst q
      have e0 : (x :: xs).idxOf x = 0 := List.idxOf_cons_self
      rw [e0]
      exact ⟨v, rfl, by rw [hv, eqV_dec _ _ (Sca.flat _) (Sca.sc _ _)]; exact decide_eq_true rfl, fun m z' hm => by omega⟩
    · have e0 : (x :: xs).idxOf y = xs.idxOf y + 1 := by rw [List.idxOf_cons, show (x == y) = false from beq_false_of_ne q]; rfl
      rw [e0]
      obtain ⟨z, h1, h2, h3⟩ := idx_at t ((List.mem_cons.mp h).resolve_left fun z => q z.symm)
      refine ⟨z, by simpa using h1, h2, fun m z' hm hz => ?_⟩
      cases m with
      | zero =>
        simp at hz
        subst hz
        rw [hv, eqV_dec _ _ (Sca.flat _) (Sca.sc _ _)]
        exact decide_eq_false fun z => q (Sca.inj _ _ z)
      | succ m => exact h3 m z' (by omega) (by simpa using hz)
theorem je_index (h : idxO xs y = some j) (ho : JE X Γ T o ρ) (hr : Rdl X.K T ρ xs) (he : JE X Γ T e (Dat y)) (hs : starEach [e] X.env = (false, eval e X.env) :: starEach [] X.env := by exact star1 rfl)
    (hp : ∀ {to : TE} {t : TA}, PE X o to → PA X [e] t → PE X (.Call (.Attribute o "index" apos) [e] [] pos) (tBM X.K "list" (rIndex X.K) to t) := by exact fun h h' => pe_bm PySem.F.plainAttrs_list PySem.F.slot_list_index PySem.F.type_list_index mt_index h h') :
    JE X Γ T (.Call (.Attribute o "index" apos) [e] [] pos) (Dat j) := fun F σ L Lf H s t ow Q q => by
  unfold idxO at h
  split at h
  · rename_i hm
    injection h with h
    subst h
    refine we_of (hp we_pe wa_pa) (ho F σ L Lf H s t ow _ fun F1 M1 H1 v e1 t1 o1 r1 => ?_)
    obtain ⟨p, vs, h1, h2, h3⟩ := hr F1 M1 Lf H1 v t1 o1 r1
    subst h1
    refine ⟨.inl ⟨rfl, _, h2⟩, ja_cons he ja_nil hs F1 σ M1 Lf H1 (s.mono e1) t1 o1 _ fun F2 M2 H2 us e2 t2 o2 rs => ?_⟩
    obtain ⟨v, rfl, rv⟩ := vrs1 rs
    have rv : v = Sca.val y := (Sca.ok _ _ _).mp rv
    subst rv
    obtain ⟨p', ws, g1, g2, g3⟩ := hr F2 M2 Lf H2 (.ref p) t2 o2 (ρ.mono e2 r1)
    injection g1 with g1
    subst g1
    obtain ⟨z, z1, z2, z3⟩ := idx_at g3 hm
    exact ⟨p, ws, Sca.val y, _, z, rfl, rfl, g2, Sca.flat y, (inV_dec (x := y) g3).1, z1, z2, z3, q F2 M2 H2 _ (e1.trans e2) t2 o2 rfl⟩
  · cases h
end
end G

/-! GW: a try with several clauses, any of them with a name. -/
namespace G
open PySem PySem.Spec PyProof.Rows L2
open Rp (rep)
abbrev Sui := Addr → Value → Option Addr → TS
/-- the ends of a suite whose name stands in slot i -/
def Ends.off (D : Ends) (i : Nat) : Ends := ⟨fun σ H => D.nx (σ.set i none) H, D.rt, fun σ H => D.bk (σ.set i none) H, fun σ H => D.ct (σ.set i none) H⟩
/-- what the clauses want of an exception -/
def wCls (K : PySem.W.Frag) (Wo : WX) (D : Ends) : List (Value × Option Nat × Sui) → WX
  | [] => Wo
  | (c, none, ts) :: r => fun z d σ H => ∃ b, PySem.W.exmOne K z c = some b ∧ (b = true → ∀ q, H q = none → ts q z d D σ H) ∧ (b = false → wCls K Wo D r z d σ H)
  | (c, some i, ts) :: r => fun z d σ H => ∃ b, PySem.W.exmOne K z c = some b ∧ (b = true → ∀ q, H q = none → ts q z d (Ends.off D i) (σ.set i (some (.ref q))) H) ∧ (b = false → wCls K Wo D r z d σ H)
inductive Clauses (X : Cx) : List ExceptHandler → List (Value × Option Nat × Sui) → Prop
  | nil : Clauses X [] []
  | plain {x : Str} {c : Value} {ts : Sui} {b₀ : Stmt} {su : List Stmt} {np pp : Pos} {hds : List ExceptHandler} {l : List (Value × Option Nat × Sui)} : Names X x c →
      (∀ (a : Addr) (ob : Obj) (z : Value) (d : Option Addr) (pn : List (Addr × Obj)), L2N.Zn z d ob → (∃ vs, ob.data = .fields vs) → PSs (X.suite a ((a, ob) :: pn)) (b₀ :: su) (ts a z d)) → Clauses X hds l →
      Clauses X (.ExceptHandler (some (.Name x np)) none (b₀ :: su) pp :: hds) ((c, none, ts) :: l)
  | named {x n : Str} {c : Value} {ts : Sui} {b₀ : Stmt} {su : List Stmt} {np pp : Pos} {hds : List ExceptHandler} {l : List (Value × Option Nat × Sui)} {i : Nat} : Names X x c → X.N[i]? = some n → X.env.kindOf n = some .local →
      (∀ (a : Addr) (ob : Obj) (z : Value) (d : Option Addr) (pn : List (Addr × Obj)), L2N.Zn z d ob → (∃ vs, ob.data = .fields vs) → PSs (X.suite a ((a, ob) :: pn)) (b₀ :: su) (ts a z d)) → Clauses X hds l →
      Clauses X (.ExceptHandler (some (.Name x np)) (some n) (b₀ :: su) pp :: hds) ((c, some i, ts) :: l)
section
variable {X : Cx} {body : List Stmt} {hd0 : ExceptHandler} {hds : List ExceptHandler} {l : List (Value × Option Nat × Sui)} {pos : Pos} {tb : WX → TS} {Wo : WX}
theorem ps_tryC (hst : X.stack = X.env :: X.outer) (hlo : X.env.frame = some X.env.locals) (hN : X.N.Nodup) (tk : L2N.Takes X Wo)
    (hb : ∀ (W' : WX) (pn : List (Addr × Obj)) (xe : Value → Shared → Prop), L2N.Takes (X.tr pn xe) W' → PassesOwn (model X.prog X.w) X.A X.env xe → PSs (X.tr pn xe) body (tb W'))
    (hh : Clauses X (hd0 :: hds) l) : PS X (.Try body (hd0 :: hds) [] [] pos) (fun D σ H => tb (wCls X.K Wo D l) D σ H) := by
  refine ⟨fun ps s0 σ0 H0 D i0 want => ?_⟩
  have okX := i0.ok
  have frX : X.A.frames = some (X.env :: X.outer) := by rw [okX.frames, hst]
  refine wpAny_Try_except (wpAny_mono ((hb (wCls X.K Wo D l) (X.pn ++ ps) (fun ex t1 => wpAny (model X.prog X.w) X.A (noteFrame ex X.env) (fun _ t2 => wpAny (model X.prog X.w) X.A (setFlight ex none) (fun _ t3 =>
    wpAny (model X.prog X.w) X.A (handleBy ex X.env (hd0 :: hds)) (SP X ps D) X.xe t3) X.xe t2) X.xe t1) (fun u t1 xx => ?_) PassesOwn.looking).run [] s0 σ0 H0 D (i0.toTry _) want) (fun fl t1 hsp => ?_) fun _ _ z => z)
  · obtain ⟨q, B, tI, ps', σ1, H1, z, d, rfl, iT, nb, up, sky, na, os, ag, w⟩ := xx
    have i1 : Inv X ps σ1 H1 tI := iT.ofTry okX
    have sky1 : Sky B (X.env :: X.outer) q (L2N.Zn z d) X.env.locals t1.heap := by rw [← hst]; exact sky
    show wpAny (model X.prog X.w) X.A (noteFrame (.ref q) X.env) _ _ _
    refine L2N.Sky.land L2N.Zn.steady frX hlo sky1 fun h3 fl3 up3 => ?_
    have i3 : Inv X ps σ1 H1 { t1 with heap := h3 } := i1.landed nb fl3.1 (up.trans up3) os ag
    obtain ⟨ob3, vs3, he3, hz3, hd3⟩ := fl3.there
    have apart : ∀ {h : Heap} {o : Obj} {vs : Array Value}, h.FunFrames B (X.env :: X.outer) → h.get? q = some o → o.data = .fields vs → q ∉ frs (X.env :: X.outer) := fun {h o vs} ff e1 e2 hm => by
      obtain ⟨_, o', e', hnf⟩ := ff.mem hm
      exact hnf _ (by rw [← Option.some.inj (e1.symm.trans e')]; exact e2)
    have nst := apart fl3.2.2.1 he3 hd3
    have nlo : q ≠ X.env.locals := fun y => nst (List.mem_filterMap.mpr ⟨X.env, List.mem_cons_self, by rw [hlo, y]⟩)
    have nfs : q ∉ X.fs := fun hm => by
      obtain ⟨ev, hev, y⟩ := List.mem_filterMap.mp hm
      exact nst (List.mem_filterMap.mpr ⟨ev, List.mem_cons_of_mem _ hev, y⟩)
    have su3 := i3.suite he3 hd3 na nlo nfs
    suffices go : ∀ {hs' : List ExceptHandler} {l' : List (Value × Option Nat × Sui)}, Clauses X hs' l' → wCls X.K Wo D l' z d σ1 H1 → wpAny (model X.prog X.w) X.A (handleBy (.ref q) X.env hs') (SP X ps D) X.xe { t1 with heap := h3 } from go hh w
    have look : ∀ {x : Str} {c : Value} {np : Pos} {Q E : Value → Shared → Prop}, Names X x c → Q c { t1 with heap := h3 } → wpAny (model X.prog X.w) (X.A.mark (some (.ref q))) (eval (.Name x np) X.env) Q E { t1 with heap := h3 } := fun {x c np Q E} hc y => by
      obtain ⟨hg, hdbg, hm | ⟨hm, hv, hnn⟩⟩ := hc
      · exact ld_glob (X := X.suite q ((q, ob3) :: (X.pn ++ ps))) su3 hg hm y hdbg
      · exact ld_blt (X := X.suite q ((q, ob3) :: (X.pn ++ ps))) su3 hg hm hv y hnn hdbg
    have typ : PySem.W.Looks (model X.prog X.w) h3 (typeOf (.ref q)) z := fun A Q E s k y => wpAny_typeOf_ref (k _ _ he3) (by rw [hz3.1]; exact y)
    intro hs' l' hk
    induction hk with
    | nil =>
      intro w
      refine wpAny_handleBy_nil ?_
      obtain ⟨k1, k2, k3, oe, vs, T, oT, ts', he, hz, hd, h1, hr⟩ := id fl3
      unfold PySem.passOn
      refine wpAny_bind (wpAny_field he hd h1 ?_)
      rw [if_neg (show ¬ ((Value.ref T == Value.none) = true) from by simp)]
      have out : wpAny (model X.prog X.w) X.A (setFlight (.ref q) X.env.frame) (fun _ t4 => wpAny (model X.prog X.w) X.A (throw (.ref q) : Sem Flow) (SP X ps D) X.xe t4) X.xe { t1 with heap := h3 } := by
        rw [hlo]
        exact HandSPX.setFlight_upZ fl3 fun h4 hh4 up4 => wpAny_throw (tk _ _ ⟨q, B, tI, ps, σ1, H1, z, d, rfl, i1, nb, (up.trans up3).trans up4, .inr (.inr (by rw [hst]; exact hh4)), na, os, ag, w⟩)
      first
        | exact wpAny_bind (wpAny_pure (wpAny_bind out))
        | exact wpAny_bind out
    | plain hc hsu _ ih =>
      rintro ⟨b, hb1, hyes, hno⟩
      refine wpAny_handleBy_cons (codeAny_handlers_test (look hc ((PySem.W.exm_one (M := model X.prog X.w) (i3.kIn) typ hb1).here ?_))) (by intro y; cases y)
      cases b with
      | false => exact ih (hno rfl)
      | true =>
        refine codeAny_handlers_suite (HandSPX.lands_againZ fl3 fun h4 fl4 up4 => ?_)
        have i4 : Inv X ps σ1 H1 { t1 with heap := h4 } := i1.landed nb fl4.1 ((up.trans up3).trans up4) os ag
        obtain ⟨ob4, vs4, he4, hz4, hd4⟩ := fl4.there
        have su4 := i4.suite he4 hd4 na nlo nfs
        refine wpAny_mono ((hsu q ob4 z d (X.pn ++ ps) hz4 ⟨_, hd4⟩).run [] _ _ H1 _ su4 (hyes rfl q na)) (fun fl t6 y => ?_) (fun _ _ y => y.elim)
        cases fl with
        | ret u => obtain ⟨v6, σ6, H6, S6, r6, q6⟩ := y; exact ⟨_, _, _, S6.unsuite okX, r6, q6⟩
        | _ => obtain ⟨σ6, H6, S6, q6⟩ := y; exact ⟨_, _, S6.unsuite okX, q6⟩
    | @named x n c ts b₀ su np pp hds2 l2 i hc hi hln hsu _ ih =>
      rintro ⟨b, hb1, hyes, hno⟩
      refine wpAny_handleBy_cons (codeAny_handlers_test (look hc ((PySem.W.exm_one (M := model X.prog X.w) (i3.kIn) typ hb1).here ?_))) (by intro y; cases y)
      cases b with
      | false => exact ih (hno rfl)
      | true =>
        refine codeAny_handlers_suite_as (HandSPX.lands_againZ fl3 fun h4 fl4 up4 => ?_)
        have i4 : Inv X ps σ1 H1 { t1 with heap := h4 } := i1.landed nb fl4.1 ((up.trans up3).trans up4) os ag
        obtain ⟨ob4, vs4, he4, hz4, hd4⟩ := fl4.there
        have su4 := i4.suite he4 hd4 na nlo nfs
        refine store_ok (X := X.suite q ((q, ob4) :: (X.pn ++ ps))) (v := .ref q) su4 hN hi (.inl hln) rfl (fun t5 su5 => ?_) (.inr hln)
        refine wpAny_mono ((hsu q ob4 z d (X.pn ++ ps) hz4 ⟨_, hd4⟩).run [] t5 _ H1 _ su5 (hyes rfl q na)) (fun fl t6 y => ?_) (fun _ _ y => y.elim)
        have fin : ∀ {σ6 : L2.St} {H6 : Hp} {Q : Shared → Prop}, Inv (X.suite q ((q, ob4) :: (X.pn ++ ps))) [] σ6 H6 t6 → (∀ t7, Inv X ps (σ6.set i none) H6 t7 → Q t7) → wpAny (model X.prog X.w) X.A (do bindName X.env n .none; unbindBehindTheSuite X.env n pp) (fun _ t7 => Q t7) X.xe t6 := fun {σ6 H6 Q} S6 hq => gone_ok (S6.unsuite okX) hN hi hln hq
        cases fl with
        | ret u => obtain ⟨v6, σ6, H6, S6, r6, q6⟩ := y; exact fin S6 fun t7 i7 => ⟨_, _, _, i7, r6, q6⟩
        | _ => obtain ⟨σ6, H6, S6, q6⟩ := y; exact fin S6 fun t7 i7 => ⟨_, _, i7, q6⟩
  · cases fl with
    | next => obtain ⟨σ', H', i', y⟩ := hsp; exact wpAny_execs_nil ⟨σ', H', i'.ofTry okX, y⟩
    | ret u => obtain ⟨v, σ', H', i', r, y⟩ := hsp; exact ⟨v, σ', H', i'.ofTry okX, r, y⟩
    | _ => obtain ⟨σ', H', i', y⟩ := hsp; exact ⟨σ', H', i'.ofTry okX, y⟩
end
/-- a suite as it stands -/
def suiteAs (X : Cx) (sts : List Stmt) : Sui := fun a z d D' σ H => ∀ ob pn, L2N.Zn z d ob → (∃ vs, ob.data = .fields vs) → WSs (X.suite a ((a, ob) :: pn)) sts D' σ H
inductive CN (X : Cx) : List ExceptHandler → List (Value × Option Nat × List Stmt) → Prop
  | nil : CN X [] []
  | plain {x : Str} {c : Value} {b₀ : Stmt} {su : List Stmt} {np pp : Pos} {hds : List ExceptHandler} {l : List (Value × Option Nat × List Stmt)} (hc : Names X x c) (r : CN X hds l) : CN X (.ExceptHandler (some (.Name x np)) none (b₀ :: su) pp :: hds) ((c, none, b₀ :: su) :: l)
  | named {x n : Str} {c : Value} {b₀ : Stmt} {su : List Stmt} {np pp : Pos} {hds : List ExceptHandler} {l : List (Value × Option Nat × List Stmt)} (i : Nat) (hc : Names X x c) (hi : X.N[i]? = some n) (hk : X.env.kindOf n = some .local) (r : CN X hds l) : CN X (.ExceptHandler (some (.Name x np)) (some n) (b₀ :: su) pp :: hds) ((c, some i, b₀ :: su) :: l)
def asCl (X : Cx) (l : List (Value × Option Nat × List Stmt)) : List (Value × Option Nat × Sui) := l.map fun q => (q.1, q.2.1, suiteAs X q.2.2)
theorem CN.clauses {X : Cx} {hds : List ExceptHandler} {l : List (Value × Option Nat × List Stmt)} (h : CN X hds l) : Clauses X hds (asCl X l) := by
  induction h with
  | nil => exact .nil
  | plain hc _ ih => exact .plain hc (fun a ob z d pn hz hf => ⟨fun pins s σ H D I w => (w ob pn hz hf).run pins s I⟩) ih
  | named i hc hi hk _ ih => exact .named hc hi hk (fun a ob z d pn hz hf => ⟨fun pins s σ H D I w => (w ob pn hz hf).run pins s I⟩) ih
/-- the clauses, one after another, at an exception of the class cx -/
def JW (X : Cx) (W : WX) (D : Po) (rest : List Stmt) (Γ : Slots) (T1 : Th) (cx : Value) : List (Value × Option Nat × List Stmt) → Prop
  | [] => D.xr cx T1
  | (c, none, sts) :: r => ∃ b, PySem.W.exmOne X.K cx c = some b ∧ (b = true → ∀ (a : Addr) (ob : Obj) (pn : List (Addr × Obj)), L2N.Zn cx none ob → (∃ vs, ob.data = .fields vs) → JSs (X.suite a ((a, ob) :: pn)) W Γ T1 sts { D with nx := fun Γ' T' => JSs X W Γ' T' rest D, xr := nox }) ∧ (b = false → JW X W D rest Γ T1 cx r)
  | (c, some i, sts) :: r => ∃ b, PySem.W.exmOne X.K cx c = some b ∧ (b = true → ∀ (a : Addr) (ob : Obj) (pn : List (Addr × Obj)), L2N.Zn cx none ob → (∃ vs, ob.data = .fields vs) → JSs (X.suite a ((a, ob) :: pn)) W (Γ.set i (some (Ref a))) T1 sts { nx := fun Γ' T' => JSs X W (Γ'.set i none) T' rest D, rt := D.rt }) ∧ (b = false → JW X W D rest Γ T1 cx r)
section
variable {X : Cx} {W : WX} {Γ : Slots} {T T1 : Th} {D : Po} {rest body : List Stmt} {hd0 : ExceptHandler} {hds : List ExceptHandler} {l : List (Value × Option Nat × List Stmt)} {pos : Pos} {cx : Value}
theorem JW.want (hbk : ∀ Γ T, ¬ D.bk Γ T) (hct : ∀ Γ T, ¬ D.ct Γ T) {F F' : Hp} {σ : L2.St} {L' Lf : List Cell} {H' : Hp} (w : XOk D W F Lf) (e' : Same F F') (s : SR F' Γ σ) (t' : TR F' T1 L') (o' : Own F' (L' ++ Lf) H') : ∀ l, JW X W D rest Γ T1 cx l →
    wCls X.K W (({ D with nx := fun Γ' T' => JSs X W Γ' T' rest D } : Po).ends F Lf) (asCl X l) cx none σ H'
  | [], h => w _ _ F' L' σ H' h e' t' o'
  | (c, none, sts) :: r, ⟨b, hb, hy, hno⟩ => ⟨b, hb, fun q a _ ob pn hz hf => wss_le (ends_le (D := { D with nx := fun Γ' T' => JSs X W Γ' T' rest D, xr := nox }) ⟨fun _ _ q => q, fun _ _ q => q, fun _ _ q => q, fun _ _ q => q, fun _ _ z => z.elim⟩ e') (hy q a ob pn hz hf F' σ L' Lf H' s t' o' fun _ _ _ _ _ _ z => z.elim), fun q => JW.want hbk hct w e' s t' o' r (hno q)⟩
  | (c, some i, sts) :: r, ⟨b, hb, hy, hno⟩ => ⟨b, hb, fun q a _ ob pn hz hf => wss_le (D := ({ nx := fun Γ' T' => JSs X W (Γ'.set i none) T' rest D, rt := D.rt } : Po).ends F' Lf) ⟨fun σ6 H6 ⟨Γ6, T6, F6, L6, h1, h2, h3, h4, h5⟩ => ⟨_, T6, F6, L6, h1, e'.trans h2, h3.set (s := none) (o := none) True.intro i, h4, h5⟩, fun v H6 q => atV_le e' (fun _ _ z => z) q, fun _ _ ⟨_, _, _, _, z, _⟩ => z.elim, fun _ _ ⟨_, _, _, _, z, _⟩ => z.elim⟩ (hy q a ob pn hz hf F' _ L' Lf H' (s.set (s := some (Ref a)) (o := some (V.ref a)) ⟨_, rfl, rfl⟩ i) t' o' fun _ _ _ _ _ _ z => z.elim), fun q => JW.want hbk hct w e' s t' o' r (hno q)⟩
/-- the body refuses with the class cx -/
theorem js_tryM (hs : X.stack = X.env :: X.outer) (hf : X.env.frame = some X.env.locals) (hN : X.N.Nodup) (tk : L2N.Takes X W) (hh : CN X (hd0 :: hds) l)
    (hp : ∀ (W' : WX) (pn : List (Addr × Obj)) (xe : Value → Shared → Prop), L2N.Takes (X.tr pn xe) W' → PassesOwn (model X.prog X.w) X.A X.env xe → JB (X.tr pn xe) W' Γ T body { D with nx := fun _ _ => False, xr := fun c T' => c = cx ∧ T' = T1 })
    (hbk : ∀ Γ T, ¬ D.bk Γ T) (hct : ∀ Γ T, ¬ D.ct Γ T) (hw : JW X W D rest Γ T1 cx l) : JSs X W Γ T (.Try body (hd0 :: hds) [] [] pos :: rest) D :=
  js_cons (M := fun Γ' T' => JSs X W Γ' T' rest D) (fun F σ L Lf H s t o w =>
    ws_of (ps_tryC (tb := fun W' D' σ H => ∀ pn xe, L2N.Takes (X.tr pn xe) W' → PassesOwn (model X.prog X.w) X.A X.env xe → WSs (X.tr pn xe) body D' σ H) hs hf hN tk
      (fun W' pn xe t1 t2 => ⟨fun pins s σ H D I h => (h pn xe t1 t2).run pins s I⟩) hh.clauses)
      (fun pn xe t1 t2 => wss_le (D := ({ D with nx := fun _ _ => False, xr := fun c T' => c = cx ∧ T' = T1 } : Po).ends F Lf) ⟨fun _ _ ⟨_, _, _, _, z, _⟩ => z.elim, fun _ _ q => q, fun _ _ q => q, fun _ _ q => q⟩ (hp _ pn xe t1 t2 F σ L Lf H s t o fun c T' F' L' H' ⟨q1, q2⟩ e' t' o' => by
        subst q1 q2
        exact JW.want hbk hct w e' (s.mono e') t' o' _ hw))) fun _ _ h => h
/-- the body refuses nothing -/
theorem js_tryKM (hs : X.stack = X.env :: X.outer) (hf : X.env.frame = some X.env.locals) (hN : X.N.Nodup) (tk : L2N.Takes X W) (hh : CN X (hd0 :: hds) l)
    (hp : ∀ (W' : WX) (pn : List (Addr × Obj)) (xe : Value → Shared → Prop), L2N.Takes (X.tr pn xe) W' → PassesOwn (model X.prog X.w) X.A X.env xe → JB (X.tr pn xe) W' Γ T body { D with nx := fun Γ' T' => JSs X W Γ' T' rest D, xr := nox }) :
    JSs X W Γ T (.Try body (hd0 :: hds) [] [] pos :: rest) D :=
  js_cons (M := fun Γ' T' => JSs X W Γ' T' rest D) (fun F σ L Lf H s t o w =>
    ws_of (ps_tryC (tb := fun W' D' σ H => ∀ pn xe, L2N.Takes (X.tr pn xe) W' → PassesOwn (model X.prog X.w) X.A X.env xe → WSs (X.tr pn xe) body D' σ H) hs hf hN tk
      (fun W' pn xe t1 t2 => ⟨fun pins s σ H D I h => (h pn xe t1 t2).run pins s I⟩) hh.clauses)
      fun pn xe t1 t2 => hp _ pn xe t1 t2 F σ L Lf H s t o fun c T' F' L' H' z => z.elim) fun _ _ h => h
theorem jw_nil (h : D.xr cx T1) : JW X W D rest Γ T1 cx [] := h
theorem jw_plain {c : Value} {b : Bool} {sts : List Stmt} {r : List (Value × Option Nat × List Stmt)} (hb : PySem.W.exmOne X.K cx c = some b) (hy : b = true → ∀ (a : Addr) (ob : Obj) (pn : List (Addr × Obj)), L2N.Zn cx none ob → (∃ vs, ob.data = .fields vs) → JSs (X.suite a ((a, ob) :: pn)) W Γ T1 sts { D with nx := fun Γ' T' => JSs X W Γ' T' rest D, xr := nox })
    (hno : b = false → JW X W D rest Γ T1 cx r) : JW X W D rest Γ T1 cx ((c, none, sts) :: r) := ⟨b, hb, hy, hno⟩
theorem jw_named {c : Value} {b : Bool} {i : Nat} {sts : List Stmt} {r : List (Value × Option Nat × List Stmt)} (hb : PySem.W.exmOne X.K cx c = some b) (hy : b = true → ∀ (a : Addr) (ob : Obj) (pn : List (Addr × Obj)), L2N.Zn cx none ob → (∃ vs, ob.data = .fields vs) → JSs (X.suite a ((a, ob) :: pn)) W (Γ.set i (some (Ref a))) T1 sts { nx := fun Γ' T' => JSs X W (Γ'.set i none) T' rest D, rt := D.rt })
    (hno : b = false → JW X W D rest Γ T1 cx r) : JW X W D rest Γ T1 cx ((c, some i, sts) :: r) := ⟨b, hb, hy, hno⟩
end
end G

/-! GQ: owned dicts whose keys are tuples of an int and a bool. -/
namespace G
open PySem PySem.Spec PyProof.Rows L2
open Rp (rep)
abbrev IB := Int × Bool
def b01 (b : Bool) : Int := if b = true then 1 else 0
theorem b01_inj {a b : Bool} (h : b01 a = b01 b) : a = b := by cases a <;> cases b <;> first | rfl | cases h
def nk (k : IB) : NestedKey := .tup [.num k.1, .num (b01 k.2)]
theorem nk_inj {a b : IB} (h : nk a = nk b) : a = b := by
  unfold nk at h
  injection h with h
  injection h with h1 h
  injection h with h2 _
  injection h1 with h1
  injection h2 with h2
  exact Prod.ext h1 (b01_inj h2)
abbrev BE := IB × Addr × Value
def nkx (x : BE) : NestedKey × Addr × Value := (nk x.1, x.2)
def hB (k : IB) : Int := reduceHash (Builtin.Tuple.tupleHashOf [hashInt k.1, hashInt (b01 k.2)])
theorem hB_eq (P : Program) (w : World) (k : IB) : (nestedKind P w).hash (nk k) = hB k := by
  show NestedKey.hash w (.tup [.num k.1, .num (b01 k.2)]) = _
  unfold NestedKey.hash NestedKey.hashes NestedKey.hashes NestedKey.hashes NestedKey.hash
  rfl
def bEnt (x : BE) : DictEntry := ⟨hB x.1, .ref x.2.1, x.2.2⟩
/-- the dict at p has these entries -/
def BdAt (p : Addr) (xs : List BE) (h : Heap) : Prop := xs.length ≤ sizeLine ∧ (p == sysModules) = false ∧ ∃ ob es ep, h.get? p = some ob ∧ ob.ExactDict ∧ ob.data = .dict es ep ∧ es.toList = xs.map bEnt ∧ (xs.map (·.1)).Nodup
abbrev bKey (k : IB) : HO := .tup [.int k.1, .bl k.2]
abbrev bAll (H : Hp) (xs : List BE) : Prop := ∀ x ∈ xs, H x.2.1 = some (bKey x.1)
def bGet (xs : List BE) (k : IB) : Option Value := (xs.find? fun x => decide (x.1 = k)).map (·.2.2)
def bPut (xs : List BE) (k : IB) (q : Addr) (u : Value) : List BE := if (bGet xs k).isSome then xs.map (fun x => if x.1 = k then (x.1, x.2.1, u) else x) else xs ++ [(k, q, u)]
theorem BdAt.ok {P : Program} {w : World} {H : Hp} {h : Heap} {p : Addr} {xs : List BE} (b : BdAt p xs h) : ObjOk P w H h p (.ext (BdAt p xs)) :=
  ⟨b, let ⟨_, _, ob, _, _, h1, _⟩ := b; ⟨ob, h1⟩, fun h1 h2 ⟨z, y, ob, es, ep, e, r⟩ k => ⟨z, y, ob, es, ep, k ob e, r⟩⟩
section
variable {P : Program} {w : World} {H : Hp} {h : Heap} {p q : Addr} {xs : List BE} {k : IB}
theorem key_is (ok : HOk P w H h) (e : H q = some (bKey k)) : (nestedKind P w).is h (nk k) q := by
  obtain ⟨_, its, r, ob, h1, h2, n, h3⟩ := (show ObjOk P w H h q (.tup [.int k.1, .bl k.2]) from ok q _ e)
  cases r with
  | cons r1 r =>
    cases r with
    | cons r2 r =>
      cases r
      obtain ⟨t, rfl⟩ := r1
      obtain rfl := r2
      refine ⟨.tup h1 h2 h3 ?_, by show NestedKey.depth (nk k) ≤ 8; unfold nk NestedKey.depth NestedKey.depthAll NestedKey.depthAll NestedKey.depthAll NestedKey.depth; decide⟩
      exact .cons (.int _ _) (.cons (.bool rfl) .nil)
theorem bd_H (ok : HOk P w H h) (b : BdAt p xs h) (ha : bAll H xs) : h.DictOfH (nestedKind P w) p (xs.map nkx) := by
  obtain ⟨_, _, ob, es, ep, h1, h2, h3, h4, h5⟩ := b
  refine ⟨ob, es, ep, h1, h2, h3, ?_, fun y hy => ?_, ?_⟩
  · rw [h4, List.map_map]
    refine List.map_congr_left fun x _ => ?_
    show bEnt x = entryOfKey (nestedKind P w) (nkx x)
    unfold bEnt entryOfKey nkx
    rw [hB_eq]
  · obtain ⟨x, hx, rfl⟩ := List.mem_map.mp hy
    exact key_is ok (ha x hx)
  · rw [List.map_map]
    have : ((xs.map (·.1)).map nk).Nodup := List.pairwise_map.mpr (h5.imp fun hne e => hne (nk_inj e))
    simpa [Function.comp_def, nkx] using this
theorem at_nk : atKey (xs.map nkx) (nk k) = (xs.find? fun x => decide (x.1 = k)).map (·.2) := by
  unfold atKey
  induction xs with
  | nil => rfl
  | cons x xs ih =>
    by_cases e : x.1 = k
    · subst e
      simp [nkx]
    · have e2 : ¬ nk x.1 = nk k := fun z => e (nk_inj z)
      simp only [List.map_cons, List.find?_cons, nkx, e, e2, decide_false]
      exact ih
theorem at_get : (atKey (xs.map nkx) (nk k)).map (·.2) = bGet xs k := by
  rw [at_nk]
  unfold bGet
  cases xs.find? fun x => decide (x.1 = k) <;> rfl
theorem at_put {u : Value} : storedH (xs.map nkx) (nk k) q u = (bPut xs k q u).map nkx := by
  unfold storedH bPut
  have e : (atKey (xs.map nkx) (nk k)).isSome = (bGet xs k).isSome := by rw [← at_get, Option.isSome_map]
  rw [e]
  split
  · rw [List.map_map, List.map_map]
    refine List.map_congr_left fun x _ => ?_
    by_cases e : x.1 = k
    · subst e; simp [nkx, putAt]
    · have e2 : ¬ nk x.1 = nk k := fun z => e (nk_inj z)
      simp [nkx, putAt, e, e2]
  · rw [List.map_append]; rfl
theorem put_len (u : Value) : (bPut xs k q u).length ≤ xs.length + 1 := by
  unfold bPut
  split <;> simp
end
section
variable {X : Cx} {pins : List (Addr × Obj)} {σ : L2.St} {H : Hp} {s : Shared} {p q : Addr} {xs : List BE} {k : IB} {v : V} {u : Value} {A : Around} {E : Value → Shared → Prop}
theorem bd_at (I : Inv X pins σ H s) (e : H p = some (.ext (BdAt p xs))) : BdAt p xs s.heap := (show ObjOk X.prog X.w H s.heap p (.ext (BdAt p xs)) from I.hok p _ e).1
theorem bd_getItem {Q : Value → Shared → Prop} (hu : A.units + 10 < cLine) (I : Inv X pins σ H s) (e : H p = some (.ext (BdAt p xs))) (ha : bAll H xs) (eq : H q = some (bKey k)) (hg : bGet xs k = some u) (h : ∀ s', Inv X pins σ H s' → Q u s') :
    wpAny (model X.prog X.w) A (getItem (.ref p) (.ref q)) Q E s := by
  have b := bd_at I e
  rw [← at_get] at hg
  obtain ⟨r, hr, rfl⟩ := Option.map_eq_some_iff.mp hg
  exact wpAny_getItem_heap (knd := nestedKind X.prog X.w) (show A.in1.units + 8 < cLine from by show A.units + 1 + 8 < cLine; omega) (key_is I.hok eq) (bd_H I.hok b ha) hr (h _ (I.tok _))
theorem bd_in {Q : Value → Shared → Prop} (hu : A.units + 10 < cLine) (I : Inv X pins σ H s) (e : H p = some (.ext (BdAt p xs))) (ha : bAll H xs) (eq : H q = some (bKey k)) (h : ∀ s', Inv X pins σ H s' → Q (.bool (bGet xs k).isSome) s') :
    wpAny (model X.prog X.w) A (compareOp .In (.ref q) (.ref p)) Q E s := by
  have b := bd_at I e
  refine wpAny_in_heap (knd := nestedKind X.prog X.w) (show A.in1.units + 8 < cLine from by show A.units + 1 + 8 < cLine; omega) (key_is I.hok eq) b.2.1 (bd_H I.hok b ha) ?_
  rw [show (atKey (xs.map nkx) (nk k)).isSome = (bGet xs k).isSome by rw [← at_get, Option.isSome_map]]
  exact h _ (I.tok _)
theorem bd_notIn {Q : Value → Shared → Prop} (hu : A.units + 10 < cLine) (I : Inv X pins σ H s) (e : H p = some (.ext (BdAt p xs))) (ha : bAll H xs) (eq : H q = some (bKey k)) (h : ∀ s', Inv X pins σ H s' → Q (.bool (!(bGet xs k).isSome)) s') :
    wpAny (model X.prog X.w) A (compareOp .NotIn (.ref q) (.ref p)) Q E s := by
  have b := bd_at I e
  refine wpAny_notIn_heap (knd := nestedKind X.prog X.w) (show A.in1.units + 8 < cLine from by show A.units + 1 + 8 < cLine; omega) (key_is I.hok eq) b.2.1 (bd_H I.hok b ha) ?_
  rw [show (atKey (xs.map nkx) (nk k)).isSome = (bGet xs k).isSome by rw [← at_get, Option.isSome_map]]
  exact h _ (I.tok _)
theorem entry_inj {x y : BE} (h : entryOfKey (nestedKind X.prog X.w) (nkx x) = bEnt y) (e : x.1 = y.1) : x = y := by
  unfold entryOfKey nkx bEnt at h
  injection h with _ h1 h2
  injection h1 with h1
  exact Prod.ext e (Prod.ext h1 h2)
theorem bd_setItem {Q : Unit → Shared → Prop} (hu : A.units + 10 < cLine) (I : Inv X pins σ H s) (e : H p = some (.ext (BdAt p xs))) (ha : bAll H xs) (eq : H q = some (bKey k)) (hl : xs.length < sizeLine) (h : ∀ s', Inv X pins σ (upd H p (.ext (BdAt p (bPut xs k q u)))) s' → Q () s') :
    wpAny (model X.prog X.w) A (setItem (.ref p) (.ref q) u) Q E s := by
  have b := bd_at I e
  refine wpAny_setItem_heap (knd := nestedKind X.prog X.w) (hsz := by rw [List.length_map]; exact b.1) (show A.in1.units + 8 < cLine from by show A.units + 1 + 8 < cLine; omega) (key_is I.hok eq) (bd_H I.hok b ha) fun h' dd hs => h _ ?_
  rw [at_put] at dd
  obtain ⟨ob, es, ep, h1, h2, h3, h4, h5, h6⟩ := dd
  have nb : BdAt p (bPut xs k q u) h' := by
    refine ⟨by have := put_len (xs := xs) (k := k) (q := q) u; omega, b.2.1, ob, es, ep, h1, h2, h3, ?_, ?_⟩
    · rw [h4, List.map_map]
      refine List.map_congr_left fun x _ => ?_
      show entryOfKey (nestedKind X.prog X.w) (nkx x) = bEnt x
      unfold bEnt entryOfKey nkx
      rw [hB_eq]
    · have h7 : ((bPut xs k q u).map fun x => nk x.1).Nodup := by rw [List.map_map] at h6; exact h6
      exact List.pairwise_map.mpr ((List.pairwise_map.mp h7).imp fun hne z => hne (congrArg nk z))
  exact d_write I (by rw [e]; exact True.intro) hs ⟨ob, h1⟩ nb.ok
theorem bd_typeIs (I : Inv X pins σ H s) (e : H p = some (.ext (BdAt p xs))) : s.TypeIs (.ref p) "dict" := let ⟨_, _, ob, _, _, h1, h2, _⟩ := bd_at I e; ⟨ob, h1, h2.1⟩
theorem bd_new {P : Program} {w : World} {H : Hp} (h : Heap) (hb : sysModules < h.objs.size) : ObjOk P w H (h.push { cls := .type "dict", data := .dict #[] }) h.objs.size (.ext (BdAt h.objs.size [])) :=
  BdAt.ok ⟨Nat.zero_le _, beq_eq_false_iff_ne.mpr (Ne.symm (Nat.ne_of_lt hb)), _, #[], 0, Heap.get?_push_size _ rfl, ⟨rfl, rfl, rfl⟩, rfl, rfl, List.nodup_nil⟩
end
section
variable {X : Cx} {o i value : Expr} {pos pos' : Pos} {td ty tv : TE}
theorem pe_bnew : PE X (.Dict [] [] pos) (fun _ H Q => ∀ p, H p = none → Q (.ref p) (upd H p (.ext (BdAt p [])))) := ⟨fun pins s σ H Q I h =>
  wpAny_Dict_empty ⟨.ref s.heap.objs.size, _, I.laid (a := s.heap.objs.size) (o := .ext (BdAt s.heap.objs.size [])) (t' := s.toks) (fun _ _ q => Heap.get?_push_of_some _ q) (Nat.le_refl _) (bd_new s.heap I.big), rfl, h _ (I.hok.fresh (Nat.le_refl _))⟩⟩
theorem pe_bget (hu : X.A.units + 10 < cLine) (ho : PE X o td) (hi : PE X i ty) (hs : NoSl i) : PE X (.Subscript o i pos) (fun σ H Q => td σ H fun x H1 => ty σ H1 fun y H2 => ∃ p xs q k v u, x = .ref p ∧ H2 p = some (.ext (BdAt p xs)) ∧ bAll H2 xs ∧ y = .ref q ∧ H2 q = some (bKey k) ∧ bGet xs k = some u ∧ RelV v u ∧ Q v H2) := by
  refine ⟨fun pins s σ H Q I h => ?_⟩
  refine subD_of PySem.F.slot_dict_getitem.lookup hs (thn (ho.run pins s σ H _ I h) fun w1 s1 ⟨x, H1, I1, rx, q1⟩ => thn (hi.run pins s1 σ H1 _ I1 q1) fun w2 s2 ⟨y, H2, I2, ry, p, xs, q, k, v, u, ex, e, ha, ey, eq, hg, rv, q2⟩ => ?_)
  subst ex ey
  obtain rfl : w1 = Value.ref p := rx
  obtain rfl : w2 = Value.ref q := ry
  exact ⟨bd_typeIs I2 e, bd_getItem hu I2 e ha eq hg fun s3 I3 => ⟨v, H2, I3, rv, q2⟩⟩
theorem pc_bin (hu : X.A.units + 10 < cLine) (hi : PE X i ty) (ho : PE X o td) : PC X .In i o (fun σ H Q => ty σ H fun y H1 => td σ H1 fun x H2 => ∃ p xs q k, x = .ref p ∧ H2 p = some (.ext (BdAt p xs)) ∧ bAll H2 xs ∧ y = .ref q ∧ H2 q = some (bKey k) ∧ Q (.bl (bGet xs k).isSome) H2) := by
  refine ⟨fun pins s σ H Q I h => ?_⟩
  refine thn (hi.run pins s σ H _ I h) fun w1 s1 ⟨y, H1, I1, ry, q1⟩ => thn (ho.run pins s1 σ H1 _ I1 q1) fun w2 s2 ⟨x, H2, I2, rx, p, xs, q, k, ex, e, ha, ey, eq, q2⟩ => ?_
  subst ex ey
  obtain rfl : w2 = Value.ref p := rx
  obtain rfl : w1 = Value.ref q := ry
  exact bd_in hu I2 e ha eq fun s3 I3 => ⟨.bl (bGet xs k).isSome, H2, I3, rfl, q2⟩
theorem pc_bnotin (hu : X.A.units + 10 < cLine) (hi : PE X i ty) (ho : PE X o td) : PC X .NotIn i o (fun σ H Q => ty σ H fun y H1 => td σ H1 fun x H2 => ∃ p xs q k, x = .ref p ∧ H2 p = some (.ext (BdAt p xs)) ∧ bAll H2 xs ∧ y = .ref q ∧ H2 q = some (bKey k) ∧ Q (.bl (!(bGet xs k).isSome)) H2) := by
  refine ⟨fun pins s σ H Q I h => ?_⟩
  refine thn (hi.run pins s σ H _ I h) fun w1 s1 ⟨y, H1, I1, ry, q1⟩ => thn (ho.run pins s1 σ H1 _ I1 q1) fun w2 s2 ⟨x, H2, I2, rx, p, xs, q, k, ex, e, ha, ey, eq, q2⟩ => ?_
  subst ex ey
  obtain rfl : w2 = Value.ref p := rx
  obtain rfl : w1 = Value.ref q := ry
  exact bd_notIn hu I2 e ha eq fun s3 I3 => ⟨.bl (!(bGet xs k).isSome), H2, I3, rfl, q2⟩
theorem ps_bput (hu : X.A.units + 10 < cLine) (ho : PE X o td) (hi : PE X i ty) (hv : PE X value tv) (hs : swapsWith value (some (.Subscript o i pos')) pos.line X.env = pure false) :
    PS X (.Assign [.Subscript o i pos'] value pos) (fun D σ H => tv σ H fun v H1 => td σ H1 fun x H2 => ty σ H2 fun y H3 => ∃ p xs q k, x = .ref p ∧ H3 p = some (.ext (BdAt p xs)) ∧ bAll H3 xs ∧ y = .ref q ∧ H3 q = some (bKey k) ∧ xs.length < sizeLine ∧ ∀ u, RelV v u → D.nx σ (upd H3 p (.ext (BdAt p (bPut xs k q u))))) := by
  refine ⟨fun pins s σ H D I h => ?_⟩
  refine wpAny_Assign_Subscript (thn (hv.run pins s σ H _ I h) fun r s1 ⟨v, H1, I1, rv, q1⟩ => thn (ho.run pins s1 σ H1 _ I1 q1) fun w2 s2 ⟨x, H2, I2, rx, q2⟩ => thn (hi.run pins s2 σ H2 _ I2 q2) fun w3 s3 ⟨y, H3, I3, ry, p, xs, q, k, ex, e, ha, ey, eq, hl, q3⟩ => ?_) hs
  subst ex ey
  obtain rfl : w2 = Value.ref p := rx
  obtain rfl : w3 = Value.ref q := ry
  exact bd_setItem hu I3 e ha eq hl fun s4 I4 => ⟨σ, _, I4, q3 r rv⟩
end
/-! as an owned thing -/
abbrev BR {A : Type} [Rp A] (F : Hp) (x : BE) (kv : IB × A) : Prop := x.1 = kv.1 ∧ F x.2.1 = some (bKey kv.1) ∧ ∃ v, RelV v x.2.2 ∧ rep F v kv.2
def OB {A : Type} [Rp A] (d : List (IB × A)) : OV where
  rel := fun F p L => ∃ xs : List BE, Paired (BR F) xs d ∧ L = [(p, .ext (BdAt p xs))]
  mono := fun e ⟨xs, h, q⟩ => ⟨xs, Paired.mono (fun _ _ ⟨a, b, v, c, d⟩ => ⟨a, e _ _ b, v, c, Rp.mono e d⟩) h, q⟩
section
variable {A : Type} [Rp A] {F : Hp} {k : IB} {xs : List BE} {d : List (IB × A)} {a : A} {q : Addr}
theorem br_all {H : Hp} (e : Same F H) (h : Paired (BR F) xs d) : bAll H xs := by
  induction h with
  | nil => intro x hx; cases hx
  | cons a _ ih =>
    intro x hx
    rcases List.mem_cons.mp hx with rfl | hx
    · rw [a.1]; exact e _ _ a.2.1
    · exact ih x hx
theorem br_get (h : Paired (BR F) xs d) : match dget d k with | some a => ∃ u v, bGet xs k = some u ∧ RelV v u ∧ rep F v a | none => bGet xs k = none := by
  induction h with
  | nil => rfl
  | @cons x kv xs d r t ih =>
    obtain ⟨e, _, v, rv, hv⟩ := r
    by_cases z : kv.1 = k
    · have e1 : dget (kv :: d) k = some kv.2 := by simp [dget, z]
      rw [e1]
      exact ⟨x.2.2, v, by unfold bGet; simp [e.trans z], rv, hv⟩
    · have e1 : dget (kv :: d) k = dget d k := by simp [dget, z]
      have e2 : bGet (x :: xs) k = bGet xs k := by unfold bGet; simp [show ¬ x.1 = k from fun y => z (e.symm.trans y)]
      rw [e1, e2]
      exact ih
theorem br_some (h : Paired (BR F) xs d) : (bGet xs k).isSome = (d.any fun kv => decide (kv.1 = k)) := by
  induction h with
  | nil => rfl
  | @cons x kv xs d r t ih =>
    by_cases z : kv.1 = k
    · unfold bGet; simp [r.1.trans z, z]
    · have e2 : bGet (x :: xs) k = bGet xs k := by unfold bGet; simp [show ¬ x.1 = k from fun y => z (r.1.symm.trans y)]
      rw [e2, ih]
      simp [z]
theorem br_set {v : V} {u : Value} (rv : RelV v u) (hv : rep F v a) (h : Paired (BR F) xs d) : Paired (BR F) (xs.map fun x => if x.1 = k then (x.1, x.2.1, u) else x) (d.map fun kv => if kv.1 = k then (kv.1, a) else kv) := by
  induction h with
  | nil => exact .nil
  | @cons x kv xs d r t ih =>
    refine .cons ?_ ih
    by_cases z : kv.1 = k
    · simp only [r.1.trans z, z, if_true]; exact ⟨rfl, by rw [← z]; exact r.2.1, v, rv, hv⟩
    · simp only [show ¬ x.1 = k from fun y => z (r.1.symm.trans y), z, if_false]; exact r
theorem br_put {v : V} {u : Value} (hq : F q = some (bKey k)) (rv : RelV v u) (hv : rep F v a) (h : Paired (BR F) xs d) : Paired (BR F) (bPut xs k q u) (dput d k a) := by
  unfold bPut dput
  rw [br_some h]
  split
  · exact br_set rv hv h
  · exact Paired.append h (.cons ⟨rfl, hq, v, rv, hv⟩ .nil)
end
section
variable {A : Type} [Rp A] {X : Cx} {W : WX} {Γ : Slots} {T : Th} {rest : List Stmt} {D : Po} {e o i : Expr} {pos pos' : Pos} {R : VR → Th → Prop} {xr : Value → Th → Prop} {p : Addr} {d : List (IB × A)} {k : IB} {a : A}
theorem hu10 {A : Around} (h : A.units + 64 < cLine) : A.units + 10 < cLine := Nat.lt_of_le_of_lt (Nat.add_le_add_left (by decide) _) h
theorem pair_at {F H : Hp} {y : V} (e : Same F H) (r : rep F y k) : ∃ q, y = .ref q ∧ F q = some (bKey k) ∧ H q = some (bKey k) := by
  obtain ⟨q, x, z, rfl, h, h1, h2⟩ := r
  obtain rfl : x = .int k.1 := h1
  obtain rfl : z = .bl k.2 := h2
  exact ⟨q, rfl, h, e _ _ h⟩
theorem je_bget (n : Nat) (h : dget d k = some a) (hu : X.A.units + 64 < cLine) (ho : JE X Γ T o (Ref p)) (hn : T[n]? = some (p, OB d)) (hi : JE X Γ T i (Dat k)) (hs : PlainIx i := by exact fun _ _ => rfl) : JE X Γ T (.Subscript o i pos) (Dat a) := fun F σ L Lf H s t ow Q q =>
  we_of (pe_bget (hu10 hu) we_pe we_pe hs) (ho F σ L Lf H s t ow _ fun F1 M1 H1 u e1 t1 o1 r1 => hi F1 σ M1 Lf H1 (s.mono e1) t1 o1 _ fun F2 M2 H2 y e2 t2 o2 r2 => by
    obtain ⟨Lk, Lr, ⟨xs, h1, rfl⟩, o'⟩ := t2.cell o2 hn
    have h2 := br_get (k := k) h1
    rw [h] at h2
    obtain ⟨w, v, h3, h4, h5⟩ := h2
    obtain ⟨qa, rfl, h6, h7⟩ := pair_at o2.sub r2
    exact ⟨p, xs, qa, k, v, w, r1, o'.cel _ (List.mem_cons_self ..), br_all o2.sub h1, rfl, h7, h3, h4, q F2 M2 H2 v (e1.trans e2) t2 o2 h5⟩)
theorem br_is {F : Hp} {xs : List BE} (h : Paired (BR F) xs d) : (bGet xs k).isSome = (dget d k).isSome := by
  have h2 := br_get (k := k) h
  cases q : dget d k with
  | some a => rw [q] at h2; obtain ⟨u, v, h3, _⟩ := h2; rw [h3]; rfl
  | none => rw [q] at h2; rw [show bGet xs k = none from h2]; rfl
theorem jc_bin (n : Nat) (hu : X.A.units + 64 < cLine) (hi : JE X Γ T i (Dat k)) (ho : JE X Γ T o (Ref p)) (hn : T[n]? = some (p, OB d)) : JC X Γ T .In i o (Dat (dget d k).isSome) := fun F σ L Lf H s t ow Q q =>
  ⟨_, pc_bin (hu10 hu) we_pe we_pe, hi F σ L Lf H s t ow _ fun F1 M1 H1 y e1 t1 o1 r1 => ho F1 σ M1 Lf H1 (s.mono e1) t1 o1 _ fun F2 M2 H2 u e2 t2 o2 r2 => by
    obtain ⟨Lk, Lr, ⟨xs, h1, rfl⟩, o'⟩ := t2.cell o2 hn
    obtain ⟨qa, rfl, h6, h7⟩ := pair_at o2.sub (Rp.mono e2 r1)
    exact ⟨p, xs, qa, k, r2, o'.cel _ (List.mem_cons_self ..), br_all o2.sub h1, rfl, h7, q F2 M2 H2 _ (e1.trans e2) t2 o2 (by rw [br_is h1]; rfl)⟩⟩
theorem jc_bni (n : Nat) (hu : X.A.units + 64 < cLine) (hi : JE X Γ T i (Dat k)) (ho : JE X Γ T o (Ref p)) (hn : T[n]? = some (p, OB d)) : JC X Γ T .NotIn i o (Dat (!(dget d k).isSome)) := fun F σ L Lf H s t ow Q q =>
  ⟨_, pc_bnotin (hu10 hu) we_pe we_pe, hi F σ L Lf H s t ow _ fun F1 M1 H1 y e1 t1 o1 r1 => ho F1 σ M1 Lf H1 (s.mono e1) t1 o1 _ fun F2 M2 H2 u e2 t2 o2 r2 => by
    obtain ⟨Lk, Lr, ⟨xs, h1, rfl⟩, o'⟩ := t2.cell o2 hn
    obtain ⟨qa, rfl, h6, h7⟩ := pair_at o2.sub (Rp.mono e2 r1)
    exact ⟨p, xs, qa, k, r2, o'.cel _ (List.mem_cons_self ..), br_all o2.sub h1, rfl, h7, q F2 M2 H2 _ (e1.trans e2) t2 o2 (by rw [br_is h1]; rfl)⟩⟩
/-- o[i] = e, where e may be a step -/
theorem js_bput (n : Nat) (hu : X.A.units + 64 < cLine) (he : JX X W Γ T e R xr) (hD : ∀ ρ T', R ρ T' → ∃ (p : Addr) (d d' : List (IB × A)) (k : IB) (a : A), ρ = Dat a ∧ JE X Γ T' o (Ref p) ∧ JE X Γ T' i (Dat k) ∧ T'[n]? = some (p, OB d) ∧ dputO d k a = some d' ∧ JSs X W Γ (T'.set n (p, OB d')) rest D) (hE : ∀ c T', xr c T' → D.xr c T')
    (hs : swapsWith e (some (.Subscript o i pos')) pos.line X.env = pure false := by exact swaps_no rfl) : JSs X W Γ T (.Assign [.Subscript o i pos'] e pos :: rest) D := by
  refine js_cons (M := fun Γ' T' => JSs X W Γ' T' rest D) ?_ fun _ _ h => h
  intro F σ L Lf H s t ow w
  refine ws_of (ps_bput (hu10 hu) we_pe we_pe we_pe hs) (he F σ L Lf H s t ow _ (fun v H' ⟨ρ, T', F', L', h1, h2, h3, h4, h5⟩ => ?_) fun c T' F' L' H' h1 h2 h3 h4 => w c T' F' L' σ H' (hE c T' h1) h2 h3 h4)
  obtain ⟨p, d, d', k, a, rfl, ho, hi, hn, hd, hJ⟩ := hD ρ T' h1
  obtain ⟨hl, rfl⟩ := of_when hd
  refine ho F' σ L' Lf H' (s.mono h2) h4 h5 _ fun F1 M1 H1 u e1 t1 o1 r1 => hi F1 σ M1 Lf H1 ((s.mono h2).mono e1) t1 o1 _ fun F2 M2 H2 y e2 t2 o2 r2 => ?_
  obtain ⟨Lk, Lr, ⟨xs, hx, rfl⟩, o', nx⟩ := t2.upd o2 hn
  have hxs : xs.length < sizeLine := by rw [hx.length]; exact hl
  obtain ⟨qa, rfl, h6, h7⟩ := pair_at o2.sub r2
  refine ⟨p, xs, qa, k, r1, o'.cel _ (List.mem_cons_self ..), br_all o2.sub hx, rfl, h7, hxs, fun z rz => ?_⟩
  obtain ⟨L2', t3, o3⟩ := nx F2 [(p, .ext (BdAt p (bPut xs k qa z)))] (OB (dput d k a)) _ (Same.refl _) ⟨_, br_put h6 rz (Rp.mono (e1.trans e2) h3) hx, rfl⟩ (o'.put rfl)
  exact ⟨Γ, _, F2, L2', hJ, (h2.trans e1).trans e2, ((s.mono h2).mono e1).mono e2, t3, o3⟩
/-- a new dict, owned -/
theorem jx_bdict : JX X W Γ T (.Dict [] [] pos) (fun ρ T' => ∃ p, ρ = Ref p ∧ T' = (p, OB ([] : List (IB × A))) :: T) nox := fun F σ L Lf H s t o Q q _ =>
  we_of pe_bnew fun p hp => q _ _ ⟨Ref p, _, F, (p, .ext (BdAt p [])) :: L, ⟨p, rfl, rfl⟩, Same.refl _, rfl, .cons (L1 := [(p, .ext (BdAt p []))]) ⟨[], .nil, rfl⟩ t, o.born hp rfl⟩
end
end G

/-! GU: owned lists whose items hold owned lists. -/
namespace G
open PySem PySem.Spec PyProof.Rows L2
open Rp (rep)
/-- the address of an owned thing, as data -/
structure RefA where
  a : Addr
instance : Rp RefA := ⟨fun _ v r => v = .ref r.a, fun _ h => h⟩
/-- items that hold a list of their own: Sh is the item with the list's address in its place -/
class Part (A : Type) where
  B : Type
  rB : Rp B
  Sh : Type
  rS : Rp Sh
  get : A → List B
  wi : A → Addr → Sh
instance {A : Type} [Part A] : Rp (Part.B A) := Part.rB
instance {A : Type} [Part A] : Rp (Part.Sh A) := Part.rS
instance {B : Type} [Rp B] : Part (List B) := ⟨B, inferInstance, RefA, inferInstance, fun x => x, fun _ q => ⟨q⟩⟩
instance {α β B : Type} [Rp α] [Rp β] [Rp B] : Part (T3 α β (List B)) := ⟨B, inferInstance, T3 α β RefA, inferInstance, fun x => x.c, fun x q => ⟨x.a, x.b, ⟨q⟩⟩⟩
def part2 {α γ B : Type} [Rp α] [Rp γ] [Rp B] : Part (T3 α (List B) γ) := ⟨B, inferInstance, T3 α RefA γ, inferInstance, fun x => x.b, fun x q => ⟨x.a, ⟨q⟩, x.c⟩⟩
instance {α B : Type} [Rp α] [Rp B] : Part (T3 α (List B) Int) := part2
/-- a thing and what it holds -/
def OTh (u : OV) (T1 : Th) : OV := ⟨fun F p L => ∃ L1 L2, u.rel F p L1 ∧ TR F T1 L2 ∧ L = L1 ++ L2, fun e ⟨L1, L2, a, b, c⟩ => ⟨L1, L2, u.mono e a, b.mono e, c⟩⟩
theorem TEnt.othO {p : Addr} {u : OV} {T1 T : Th} : TEnt ((p, OTh u T1) :: T) ((p, u) :: (T1 ++ T)) := fun F L t => by
  cases t with
  | cons a t =>
    obtain ⟨L1, L2, h1, h2, rfl⟩ := a
    exact ⟨_, [], by rw [List.append_nil], by rw [List.append_assoc]; exact .cons h1 (h2.app t)⟩
theorem TEnt.othC {p : Addr} {u : OV} {T1 T : Th} : TEnt ((p, u) :: (T1 ++ T)) ((p, OTh u T1) :: T) := fun F L t => by
  cases t with
  | cons a t =>
    obtain ⟨L1, L2, rfl, t1, t2⟩ := t.split
    exact ⟨_, [], by rw [List.append_nil], by rw [← List.append_assoc]; exact .cons ⟨_, _, a, t1, rfl⟩ t2⟩
section
variable {A : Type} [Part A]
def shs : List A → List Addr → List (Part.Sh A) := List.zipWith Part.wi
def blk : List A → List Addr → Th := List.zipWith fun x q => (q, OL (Part.get x))
/-- a list of items that hold a list each, all owned -/
def OP (xs : List A) : OV := ⟨fun F p L => ∃ qs : List Addr, qs.length = xs.length ∧ (OTh (OL (shs xs qs)) (blk xs qs)).rel F p L, fun e ⟨qs, h, a⟩ => ⟨qs, h, OV.mono _ e a⟩⟩
theorem TEnt.opC {p : Addr} {xs : List A} {qs : List Addr} {T : Th} (h : qs.length = xs.length) : TEnt ((p, OTh (OL (shs xs qs)) (blk xs qs)) :: T) ((p, OP xs) :: T) := fun F L t => by
  cases t with
  | cons a t => exact ⟨_, [], by rw [List.append_nil], .cons ⟨qs, h, a⟩ t⟩
theorem shs_at {xs : List A} {qs : List Addr} {i : Nat} {x : A} {q : Addr} (hx : xs[i]? = some x) (hq : qs[i]? = some q) : (shs xs qs)[i]? = some (Part.wi x q) := by unfold shs; rw [List.getElem?_zipWith, hx, hq]
theorem blk_at {xs : List A} {qs : List Addr} {i : Nat} {x : A} {q : Addr} (hx : xs[i]? = some x) (hq : qs[i]? = some q) : (blk xs qs)[i]? = some (q, OL (Part.get x)) := by unfold blk; rw [List.getElem?_zipWith, hx, hq]
theorem blk_set {xs : List A} {qs : List Addr} {i : Nat} {y : A} {q : Addr} (hq : qs[i]? = some q) : blk (xs.set i y) qs = (blk xs qs).set i (q, OL (Part.get y)) := by
  unfold blk
  apply List.ext_getElem?
  intro j
  rw [List.getElem?_zipWith, List.getElem?_set, List.getElem?_set, List.length_zipWith]
  by_cases h : i = j
  · subst h
    have hl := (List.getElem?_eq_some_iff.mp hq).1
    by_cases h2 : i < xs.length
    · rw [if_pos rfl, if_pos h2, if_pos rfl, if_pos (by omega), hq]
    · rw [if_pos rfl, if_neg h2, if_pos rfl, if_neg (by omega)]
  · rw [if_neg h, if_neg h, List.getElem?_zipWith]
theorem shs_set {xs : List A} {qs : List Addr} {i : Nat} {x y : A} (hx : xs[i]? = some x) (h : ∀ q, Part.wi y q = (Part.wi x q : Part.Sh A)) : shs (xs.set i y) qs = shs xs qs := by
  unfold shs
  apply List.ext_getElem?
  intro j
  rw [List.getElem?_zipWith, List.getElem?_zipWith, List.getElem?_set]
  by_cases e : i = j
  · subst e
    rw [if_pos rfl, if_pos (List.getElem?_eq_some_iff.mp hx).1, hx]
    cases qs[i]? with
    | none => rfl
    | some q => exact congrArg some (h q)
  · rw [if_neg e]
variable {X : Cx} {W : WX} {Γ Γ' : Slots} {T T' : Th} {rest sts : List Stmt} {D : Po} {o i e tg iter elt : Expr} {pos pos' apos : Pos} {p : Addr} {xs : List A}
theorem js_openP (k : Nat) (hk : T[k]? = some (p, OP xs)) (h : ∀ qs : List Addr, qs.length = xs.length → JSs X W Γ ((p, OTh (OL (shs xs qs)) (blk xs qs)) :: T.eraseIdx k) sts D) : JSs X W Γ T sts D := fun F σ L Lf H s t ow w => by
  obtain ⟨L', pm, t'⟩ := t.perm (perm_pick k hk)
  have ow' := ow.perm (pm.symm.append_right Lf)
  cases t' with
  | cons a t2 =>
    obtain ⟨qs, hq, a⟩ := a
    exact h qs hq F σ _ Lf H s (.cons a t2) ow' w
theorem perm_back {l : List (Addr × OV)} : ∀ (k : Nat) {x y : Addr × OV}, l[k]? = some x → (y :: l.eraseIdx k).Perm (l.set k y) := fun k x y h => by
  have h1 : (l.set k y)[k]? = some y := by rw [List.getElem?_set_self (List.getElem?_eq_some_iff.mp h).1]
  have := (perm_pick k h1).symm
  rwa [List.eraseIdx_set_eq] at this
end
/-! a list of lists -/
section
variable {B : Type} [Rp B] {X : Cx} {W : WX} {Γ Γ' : Slots} {T T' : Th} {rest sts : List Stmt} {D : Po} {o i e tg iter elt : Expr} {pos pos' apos : Pos} {p : Addr} {xss yss : List (List B)}
/-- xss[j].append(y) -/
def appAt (xss : List (List B)) (j : Int) (y : B) : Option (List (List B)) := (ixN xss.length j).bind fun n => (xss[n]?).bind fun xs => when (xs.length < sizeLine) (xss.set n (xs ++ [y]))
theorem ixN_at {A : Type} {xs : List A} {j : Int} {n : Nat} {x : A} (h : ixN xs.length j = some n) (hx : xs[n]? = some x) : atI xs j = some x := by
  unfold atI
  rw [h]
  exact hx
theorem js_appP (k : Nat) {j : Int} {y : B} (hk : T[k]? = some (p, OP xss)) (h : appAt xss j y = some yss) (ho : JE X Γ T o (Ref p)) (hi : JE X Γ T i (Dat j)) (he : ∀ T', JE X Γ T' e (Dat y)) (hr : JSs X W Γ (T.set k (p, OP yss)) rest D)
    (hs : starEach [e] X.env = (false, eval e X.env) :: starEach [] X.env := by exact star1 rfl) (hpl : PlainIx i := by exact fun _ _ => rfl)
    (hp : ∀ {to : TE} {t : TA}, PE X (.Subscript o i pos') to → PA X [e] t → PE X (.Call (.Attribute (.Subscript o i pos') "append" apos) [e] [] pos) (tBM X.K "list" rAppend to t) := by exact fun h h' => pe_bm PySem.F.plainAttrs_list PySem.F.slot_list_append PySem.F.type_list_append mt_append h h')
    {epos : Pos} (hsw : swapsWith (.Call (.Attribute (.Subscript o i pos') "append" apos) [e] [] pos) none epos.line X.env = pure false := by exact swaps_no rfl) :
    JSs X W Γ T (.Expr (.Call (.Attribute (.Subscript o i pos') "append" apos) [e] [] pos) epos :: rest) D := by
  unfold appAt at h
  obtain ⟨n, hn, h⟩ := obind h
  obtain ⟨xs, hx, h⟩ := obind h
  obtain ⟨hl, rfl⟩ := of_when h
  refine js_exprK (R := fun ρ T' => ρ = Dat () ∧ T' = T.set k (p, OP (xss.set n (xs ++ [y])))) (xr := nox) ?_ (fun ρ T' ⟨_, e⟩ => e ▸ hr) (fun _ _ z => z.elim) hsw
  intro F σ L Lf H s t ow Q q _
  refine we_of (hp we_pe wa_pa) ?_
  refine we_of (pe_ix ix_list we_pe we_pe hpl) ?_
  refine ho F σ L Lf H s t ow _ fun F1 M1 H1 u e1 t1 o1 r1 => hi F1 σ M1 Lf H1 (s.mono e1) t1 o1 _ fun F2 M2 H2 v e2 t2 o2 r2 => ?_
  obtain ⟨L', pm, t'⟩ := t2.perm (perm_pick k hk)
  have o2' := o2.perm (pm.symm.append_right Lf)
  cases t' with
  | @cons _ _ _ La Lb a t3 =>
    obtain ⟨qs, hq, a⟩ := a
    have hnq : n < qs.length := by rw [hq]; exact (List.getElem?_eq_some_iff.mp hx).1
    have hqn : qs[n]? = some qs[n] := List.getElem?_eq_getElem hnq
    generalize qs[n] = q1 at hqn
    obtain ⟨L1, L2, ⟨vs, p1, rfl⟩, b1, rfl⟩ := a
    have hsh := shs_at (A := List B) hx hqn
    obtain ⟨w, hw1, hw2⟩ := Paired.get p1 hsh
    have hw2 : w = .ref q1 := hw2
    subst hw2
    have tT : TR F2 ((p, OTh (OL (shs xss qs)) (blk xss qs)) :: T.eraseIdx k) (([(p, .lst vs)] ++ L2) ++ Lb) := .cons ⟨_, _, ⟨vs, p1, rfl⟩, b1, rfl⟩ t3
    have hHp : H2 p = some (.lst vs) := o2'.cel _ (List.mem_append_left _ (List.mem_append_left _ (List.mem_append_left _ (List.mem_singleton.mpr rfl))))
    have hlen : vs.length = xss.length := by
      rw [p1.length]; unfold shs; rw [List.length_zipWith, hq, Nat.min_self]
    refine ⟨p, vs, j, .ref q1, r1, r2, SqL.of hHp, ?_, ?_⟩
    · unfold atI
      rw [hlen, hn]
      exact hw1
    have tq : ∀ {F' : Hp} {L' : List Cell} {H' : Hp}, TR F' ((p, OTh (OL (shs xss qs)) (blk xss qs)) :: T.eraseIdx k) L' → Own F' (L' ++ Lf) H' → ∃ ws, Paired (rep F') ws xs ∧ H' q1 = some (.lst ws) ∧ ∀ ws', Paired (rep F') ws' (xs ++ [y]) → ∃ M, TR F' (T.set k (p, OP (xss.set n (xs ++ [y])))) M ∧ Own F' (M ++ Lf) (upd H' q1 (.lst ws')) := by
      intro F' L' H' t o
      obtain ⟨L3, t3, o3⟩ := (TEnt.othO).own t o
      have hb : ((p, OL (shs xss qs)) :: (blk xss qs ++ T.eraseIdx k))[n + 1]? = some (q1, OL xs) := by
        rw [List.getElem?_cons_succ, List.getElem?_append_left (by unfold blk; rw [List.length_zipWith]; have := (List.getElem?_eq_some_iff.mp hx).1; omega)]
        exact blk_at hx hqn
      obtain ⟨Lk, Lr, ⟨ws, h1, rfl⟩, o4, nx⟩ := t3.upd o3 hb
      refine ⟨ws, h1, o4.cel _ (List.mem_cons_self ..), fun ws' hw' => ?_⟩
      obtain ⟨L5, t5, o5⟩ := nx F' [(q1, .lst ws')] (OL (xs ++ [y])) _ (Same.refl _) ⟨ws', hw', rfl⟩ o4.put
      have hset : ((p, OL (shs xss qs)) :: (blk xss qs ++ T.eraseIdx k)).set (n + 1) (q1, OL (xs ++ [y])) = (p, OL (shs (xss.set n (xs ++ [y])) qs)) :: (blk (xss.set n (xs ++ [y])) qs ++ T.eraseIdx k) := by
        rw [List.set_cons_succ, List.set_append_left _ _ (by unfold blk; rw [List.length_zipWith]; have := (List.getElem?_eq_some_iff.mp hx).1; omega), shs_set (y := xs ++ [y]) hx (fun _ => rfl), blk_set (y := xs ++ [y]) hqn]
        rfl
      rw [hset] at t5
      exact (((TEnt.othC).trans (TEnt.opC (by rw [List.length_set]; exact hq))).trans (TEnt.perm (perm_back k hk))).own t5 o5
    obtain ⟨ws0, _, hw0, _⟩ := tq tT o2'
    refine ⟨.inl ⟨rfl, ws0, SqL.of hw0⟩, ?_⟩
    refine (ja_cons (he _) ja_nil hs) F2 σ _ Lf H2 ((s.mono e1).mono e2) tT o2' _ fun F3 M3 H3 zs e3 t4 o4 rs => ?_
    obtain ⟨z, rfl, rz⟩ := vrs1 rs
    obtain ⟨ws, g1, g2, g3⟩ := tq t4 o4
    refine ⟨q1, ws, z, rfl, rfl, g2, by rw [g1.length]; exact hl, ?_⟩
    obtain ⟨M, t6, o6⟩ := g3 _ (Paired.append g1 (.cons rz .nil))
    exact q _ _ ⟨Dat (), _, F3, M, ⟨rfl, rfl⟩, (e1.trans e2).trans e3, rfl, t6, o6⟩
end
/-! a comprehension whose items hold new lists -/
section
variable {A : Type} [Part A] {X : Cx} {W : WX} {Γ : Slots} {T : Th} {tg iter elt : Expr} {pos : Pos}
abbrev JFp (X : Cx) (W : WX) (Γ : Slots) (T : Th) (e : Expr) (y : A) : Prop := JX X W Γ T e (fun ρ T' => ∃ q, ρ = Dat (Part.wi y q) ∧ T' = (q, OL (Part.get y)) :: T) nox
theorem shs_app {xs ys : List A} {qs rs : List Addr} (h : xs.length = qs.length) : shs (xs ++ ys) (qs ++ rs) = shs xs qs ++ shs ys rs := List.zipWith_append h
theorem blk_app {xs ys : List A} {qs rs : List Addr} (h : xs.length = qs.length) : blk (xs ++ ys) (qs ++ rs) = blk xs qs ++ blk ys rs := List.zipWith_append h
theorem ite_yes {P R : Prop} (h : P) : if (true : Bool) = true then P else R := by rw [if_pos rfl]; exact h
theorem lcP_read {ρs : List VR} {ys : List A} {scope : Scope} {vs : List Nat} {ok : Th → Prop} (hI : JI X Γ T tg iter ok ρs) (hok : ok T) (hl : ρs.length = ys.length) (hz : ys.length ≤ 1000000)
    (turn : ∀ (i : Nat) (ρ : VR) (y : A), ρs[i]? = some ρ → ys[i]? = some y → ∃ put ws, (∀ w ∈ ws, w ∈ vs) ∧ Blk X scope (fun Y => JG Y tg ρ put ws) ∧ Blk X scope fun Y => JFp Y W0 (put (vs.foldr (fun v g => g.set v none) Γ)) T elt y)
    {F : Hp} {σ : L2.St} {L Lf : List Cell} {H : Hp} (s : SR F Γ σ) (t : TR F T L) (ow : Own F (L ++ Lf) H) {Q : VK}
    (k : ∀ F' M' H' p, Same F F' → TR F' ((p, OP ys) :: T) M' → Own F' (M' ++ Lf) H' → Q (.ref p) H') : tLc (WI X tg iter) (gLc X scope tg) (ttLc X scope []) (teLc X scope elt) vs σ H Q := by
  refine hI F σ L Lf H s t ow _ fun J F1 M1 H1 e1 t1 o1 fd => fun Dl hD => ?_
  let St (i : Nat) (H' : Hp) : Prop := ∃ F' M' us qs Lq, Same F1 F' ∧ TR F' T M' ∧ Own F' ((Dl, .lst us) :: (M' ++ (Lq ++ Lf))) H' ∧ qs.length = i ∧ Paired (rep F') us (shs (ys.take i) qs) ∧ TR F' (blk (ys.take i) qs) Lq
  refine ⟨fun i m H' => i + m = ρs.length ∧ St i H', ⟨ρs.length, by simp, F1, M1, [], [], [], Same.refl _, t1, o1.born hD, rfl, .nil, .nil⟩, ?_⟩
  rintro i m H' ⟨him, F', M', us, qs, Lq, e', t', o', hq, pr, tb⟩
  have op : Own F' (M' ++ ((Dl, HO.lst us) :: (Lq ++ Lf))) H' := o'.perm (by
    have := (List.perm_middle (a := (Dl, HO.lst us)) (l₁ := M') (l₂ := Lq ++ Lf)).symm
    exact this)
  have f := fd T hok F' M' ((Dl, .lst us) :: (Lq ++ Lf)) H' i e' t' op
  cases q : ρs[i]? with
  | none =>
    have hle : ρs.length ≤ i := List.getElem?_eq_none_iff.mp q
    rw [List.take_of_length_le (by omega)] at pr tb
    refine .inl ⟨f.1 hle, ?_⟩
    have hql : qs.length = ys.length := by omega
    refine k F' (([(Dl, .lst us)] ++ Lq) ++ M') H' Dl (e1.trans e') (.cons ⟨qs, hql, _, _, ⟨us, pr, rfl⟩, tb, rfl⟩ t') (o'.perm ?_)
    show ((Dl, HO.lst us) :: (M' ++ (Lq ++ Lf))).Perm ((Dl, HO.lst us) :: (Lq ++ M' ++ Lf))
    refine List.Perm.cons _ ?_
    rw [List.append_assoc]
    exact List.perm_append_comm_assoc M' Lq Lf
  | some ρ =>
    have hlt : i < ρs.length := (List.getElem?_eq_some_iff.mp q).1
    obtain ⟨hgo, hy⟩ := f.2 ρ q
    obtain ⟨y, hoi⟩ : ∃ y, ys[i]? = some y := ⟨ys[i], List.getElem?_eq_getElem (by omega)⟩
    obtain ⟨put, ws, hws, hg, he⟩ := turn i ρ y q hoi
    refine .inr ⟨hgo, fun H2 => St (i + 1) H2, fun H2 z => ⟨m - 1, by omega, by omega, z⟩, fun x H2 hx => ?_⟩
    obtain ⟨F2, e2, o2, r2⟩ := hy x H2 hx
    intro sh Hh C cl fp
    refine hg sh Hh C cl fp _ T F2 (wipe σ vs) M' ((Dl, .lst us) :: (Lq ++ Lf)) H2 x ((((s.mono e1).mono e').mono e2).wipe vs) (t'.mono e2) o2 r2 _ fun σ2 s2 hw => ⟨(hw vs hws).trans (wipe_wipe σ vs), ?_⟩
    intro sh Hh C cl fp
    rw [show ∀ (Z : Cx) (Qb : Bool → Hp → Prop), WTs Z [] σ2 H2 Qb = Qb true H2 from fun _ _ => rfl]
    rw [if_pos rfl]
    intro sh Hh C cl fp
    refine he sh Hh C cl fp F2 σ2 M' ((Dl, .lst us) :: (Lq ++ Lf)) H2 s2 (t'.mono e2) o2 _ (fun v H4 ⟨ρ', T4, F4, L4, ⟨qa, h1, h2⟩, e4, r4, t4, o4⟩ => ?_) fun _ _ _ _ _ z => z.elim
    subst h1 h2
    cases t4 with
    | @cons _ _ _ La M4 a t4 =>
      obtain ⟨zs, hz1, rfl⟩ := a
      have o5 : Own F4 ((Dl, .lst us) :: (M4 ++ ((Lq ++ [(qa, .lst zs)]) ++ Lf))) H4 := o4.perm (by
        show ((qa, HO.lst zs) :: (M4 ++ ((Dl, HO.lst us) :: (Lq ++ Lf)))).Perm _
        refine (List.Perm.cons _ List.perm_middle).trans ((List.Perm.swap _ _ _).trans (List.Perm.cons _ ?_))
        refine List.perm_middle.symm.trans (List.Perm.append_left M4 ?_)
        rw [List.append_assoc]
        exact List.perm_middle.symm)
      have e24 := e2.trans e4
      refine ⟨us, o5.at, ?_, F4, M4, us ++ [v], qs ++ [qa], Lq ++ [(qa, .lst zs)], e'.trans e24, t4, o5.put, by simp [hq], ?_, ?_⟩
      · have h1 := pr.length
        unfold shs at h1
        rw [List.length_zipWith, List.length_take] at h1
        rw [sizeLine_eq]
        omega
      · rw [List.take_add_one, hoi, shs_app (by rw [List.length_take]; omega)]
        exact Paired.append (Paired.mono (fun _ _ => Rp.mono e24) pr) (.cons r4 .nil)
      · rw [List.take_add_one, hoi, blk_app (by rw [List.length_take]; omega)]
        have tb1 : TR F4 [(qa, OL (Part.get y))] ([(qa, HO.lst zs)] ++ []) := .cons (L1 := [(qa, HO.lst zs)]) ⟨zs, hz1, rfl⟩ .nil
        exact (tb.mono e24).app tb1
theorem jx_lcP {ys : List A} {A' : Type} {xs : List A'} {m : A' → Option A} {it : A' → VR} {scope : Scope} (own : List (Str × Nat)) (hm : mapB m xs = some ys) (ok : Th → Prop) (hc : X.calm = true) (hN : X.N.Nodup) (bo : BlkOk X.N X.env.scope scope own) (hI : JI X Γ T tg iter ok (xs.map it)) (hok : ok T)
    (turn : ∀ x y, x ∈ xs → m x = some y → ∃ put ws, (∀ w ∈ ws, w ∈ own.map (·.2)) ∧ Blk X scope (fun Y => JG Y tg (it x) put ws) ∧ Blk X scope fun Y => JFp Y W0 (put ((own.map (·.2)).foldr (fun v g => g.set v none) Γ)) T elt y) (hs : ∀ x, foldedSetIterable iter X.env x = pure x := by exact folded_no rfl) :
    JX X W Γ T (.ListComp elt [⟨tg, iter, [], 0⟩] scope pos) (fun ρ T' => ∃ p, ρ = Ref p ∧ T' = (p, OP ys) :: T) nox := by
  unfold mapB at hm
  split at hm
  · obtain ⟨h1, h2⟩ := mapO_os hm
    intro F σ L Lf H s t o Q q _
    refine we_of (pe_lcW hc hN bo hs) (lcP_read hI hok (by simp [h1]) (by simpa [← h1] using ‹xs.length ≤ 1000000›) (fun i ρ y hρ hy => ?_) s t o fun F' M' H' p e t' o' => q _ _ ⟨Ref p, _, F', M', ⟨p, rfl, rfl⟩, e, rfl, t', o'⟩)
    rw [List.getElem?_map] at hρ
    cases hx : xs[i]? with
    | none => rw [hx] at hρ; cases hρ
    | some x =>
      rw [hx] at hρ
      cases hρ
      exact turn x y (List.mem_of_getElem? hx) (h2 i x y hx hy)
  · cases hm
end
/-! all that it holds is frozen -/
section
variable {B : Type} [Rp B] {X : Cx} {W : WX} {Γ : Slots} {T : Th} {sts : List Stmt} {D : Po} {p : Addr} {a b c : Expr} {pos : Pos}
theorem ice_all {H : Hp} : ∀ {xss : List (List B)} {qs : List Addr} {F : Hp} {Lq L : List Cell}, qs.length = xss.length → TR F (blk xss qs) Lq → Own F (Lq ++ L) H → ∀ {vs : List V}, Paired (rep F) vs (shs xss qs) → ∃ F', Same F F' ∧ Own F' L H ∧ Paired (rep F') vs xss
  | [], [], F, Lq, L, _, t, o, vs, pr => by
    cases t
    cases pr
    exact ⟨F, Same.refl _, o, .nil⟩
  | xs :: xss, q :: qs, F, Lq, L, hl, t, o, vs, pr => by
    cases pr with
    | @cons v _ vs _ h pr =>
      have h : v = .ref q := h
      subst h
      cases (show TR F ((q, OL xs) :: blk xss qs) Lq from t) with
      | @cons _ _ _ La Lb a t2 =>
        obtain ⟨ws, hw, rfl⟩ := a
        have o' : Own F ((q, .lst ws) :: (Lb ++ L)) H := o
        obtain ⟨o2, e2⟩ := o'.freeze
        obtain ⟨F', e3, o3, pr3⟩ := ice_all (by simpa using hl) (t2.mono e2) o2 (Paired.mono (fun _ _ => Rp.mono e2) pr)
        exact ⟨F', e2.trans e3, o3, .cons ⟨q, ws, rfl, e3 _ _ upd_same, Paired.mono (fun _ _ => Rp.mono (e2.trans e3)) hw⟩ pr3⟩
theorem js_iceP (k : Nat) {xss : List (List B)} (hk : T[k]? = some (p, OP xss)) (h : JSs X W Γ (T.set k (p, OL xss)) sts D) : JSs X W Γ T sts D := fun F σ L Lf H s t ow w => by
  obtain ⟨L', pm, t'⟩ := t.perm (perm_pick k hk)
  have ow' := ow.perm (pm.symm.append_right Lf)
  cases t' with
  | @cons _ _ _ La Lb a t2 =>
    obtain ⟨qs, hq, L1, L2, ⟨vs, p1, rfl⟩, b1, rfl⟩ := a
    have o1 : Own F (L2 ++ ((p, .lst vs) :: (Lb ++ Lf))) H := ow'.perm (by
      show ((p, HO.lst vs) :: ((L2 ++ Lb) ++ Lf)).Perm _
      rw [List.append_assoc]
      exact List.perm_middle.symm)
    obtain ⟨F', e', o', pr⟩ := ice_all hq b1 o1 p1
    obtain ⟨L3, p3, t3⟩ := (TR.cons (L1 := [(p, .lst vs)]) (o := OL xss) ⟨vs, pr, rfl⟩ (t2.mono e')).perm (perm_back (y := (p, OL xss)) k hk)
    refine wss_le (ends_le (Po.Le.refl D) e') (h F' σ L3 Lf H (s.mono e') t3 (o'.perm (p3.symm.append_right Lf)) (w.mono e' fun _ _ q => q))
/-! items -/
variable {α β : Type} [Rp α] [Rp β] {x : α} {y : β} {xs : List B}
theorem jp_list {es : List Expr} (h : JA X Γ T es (xs.map Dat)) (hl : xs.length ≤ sizeLine) : JFp X W Γ T (.List es pos) xs := jx_list h hl
theorem jp_listOf {pp : Pos} {ρ : VR} (hg : Gl X "list") (hm : X.mg "list" = none) (ha : JE X Γ T a ρ) (hr : Rdl X.K T ρ xs) (hs : starEach [a] X.env = (false, eval a X.env) :: starEach [] X.env := by exact star1 rfl) : JFp X W Γ T (.Call (.Name "list" pp) [a] [] pos) xs := jx_listOf hg hm ha hr hs
theorem jp_jf (h : JF X W Γ T a xs) : JFp X W Γ T a xs := h
/-- (a, b, a new list) -/
theorem jp_tup3c {n : Nat} (ha : JE X Γ T a (Dat x)) (hb : JE X Γ T b (Dat y)) (hc : JF X W Γ T c xs) (hs : starEach [a, b, c] X.env = (false, eval a X.env) :: starEach [b, c] X.env := by exact star1 rfl) (hs1 : starEach [b, c] X.env = (false, eval b X.env) :: starEach [c] X.env := by exact star1 rfl) (hs2 : starEach [c] X.env = (false, eval c X.env) :: starEach [] X.env := by exact star1 rfl) :
    JFp X W Γ T (.Tuple [a, b, c] n pos) (T3.mk x y xs) := fun F σ L Lf H s t o Q q _ =>
  have hA : JAX X W Γ T [a, b, c] (fun ρs T2 => ∃ q, ρs = [Dat x, Dat y, Ref q] ∧ T2 = (q, OL xs) :: T) := jax_pure ha (jax_pure hb (jax_cons (jx_le hc fun ρ T' ⟨q, h1, h2⟩ => by subst h1 h2; exact jax_nil ⟨q, rfl, rfl⟩) hs2) hs1) hs
  we_of (pe_tup wa_pa) (hA F σ L Lf H s t o _ fun vs H1 ⟨ρs, T1, F1, L1, ⟨qa, h1, h2⟩, e1, rs, t1, o1⟩ => by
    subst h1 h2
    cases rs with
    | @cons _ v1 _ _ r1 rs =>
      cases rs with
      | @cons _ v2 _ _ r2 rs =>
        cases rs with
        | @cons _ v3 _ _ r3 rs =>
          cases rs
          refine ⟨by show 3 ≤ sizeLine; decide, fun p hp => ?_⟩
          obtain ⟨e2, o2, e3⟩ := own_ice (o := .tup [v1, v2, v3]) o1 hp
          exact q _ _ ⟨_, _, _, L1, ⟨qa, rfl, rfl⟩, e1.trans e2, ⟨p, v1, v2, v3, rfl, e3, Rp.mono e2 r1, Rp.mono e2 r2, r3⟩, t1.mono e2, o2⟩)
/-- (a, a new list, c) -/
theorem jp_tup3b {n : Nat} {z : Int} (ha : JE X Γ T a (Dat x)) (hb : JF X W Γ T b xs) (hc : ∀ q, JE X Γ ((q, OL xs) :: T) c (Dat z)) (hs : starEach [a, b, c] X.env = (false, eval a X.env) :: starEach [b, c] X.env := by exact star1 rfl) (hs1 : starEach [b, c] X.env = (false, eval b X.env) :: starEach [c] X.env := by exact star1 rfl) (hs2 : starEach [c] X.env = (false, eval c X.env) :: starEach [] X.env := by exact star1 rfl) :
    JFp X W Γ T (.Tuple [a, b, c] n pos) (T3.mk x xs z) := fun F σ L Lf H s t o Q q _ =>
  have hA : JAX X W Γ T [a, b, c] (fun ρs T2 => ∃ q, ρs = [Dat x, Ref q, Dat z] ∧ T2 = (q, OL xs) :: T) := jax_pure ha (jax_cons (jx_le hb fun ρ T' ⟨q, h1, h2⟩ => by subst h1 h2; exact jax_pure (hc q) (jax_nil ⟨q, rfl, rfl⟩) hs2) hs1) hs
  we_of (pe_tup wa_pa) (hA F σ L Lf H s t o _ fun vs H1 ⟨ρs, T1, F1, L1, ⟨qa, h1, h2⟩, e1, rs, t1, o1⟩ => by
    subst h1 h2
    cases rs with
    | @cons _ v1 _ _ r1 rs =>
      cases rs with
      | @cons _ v2 _ _ r2 rs =>
        cases rs with
        | @cons _ v3 _ _ r3 rs =>
          cases rs
          refine ⟨by show 3 ≤ sizeLine; decide, fun p hp => ?_⟩
          obtain ⟨e2, o2, e3⟩ := own_ice (o := .tup [v1, v2, v3]) o1 hp
          exact q _ _ ⟨_, _, _, L1, ⟨qa, rfl, rfl⟩, e1.trans e2, ⟨p, v1, v2, v3, rfl, e3, Rp.mono e2 r1, r2, Rp.mono e2 r3⟩, t1.mono e2, o2⟩)
end
/-! d.items() walked; d.get(k, x); d.pop(k); a field that is a new dict -/
section
variable {X : Cx} {W : WX} {Γ : Slots} {T : Th} {rest sts body : List Stmt} {D : Po} {tg iter o e e2 : Expr} {elts : List Expr} {pos apos cpos tpos : Pos} {kk : Nat} {p : Addr} {κ A : Type} [Sca κ] [SKey κ] [DecidableEq κ] [Rp A] {d : List (κ × A)} {od : Obj} {u : HO} {k : κ} {x : A}
theorem ji_items (n : Nat) (h : JE X Γ T iter (Ref p)) (hn : T[n]? = some (p, OZ od u d))
    (hp : ∀ {td : TE}, PE X iter td → PI X (.Tuple elts kk tpos) (.Call (.Attribute iter "items" apos) [] [] cpos) (iItems td) := by exact fun h => pi_items h) :
    JI X Γ T (.Tuple elts kk tpos) (.Call (.Attribute iter "items" apos) [] [] cpos) (fun T' => T'[n]? = some (p, OZ od u d)) (d.map Dat) := fun F σ L Lf H s t o R kont =>
  ⟨_, hp we_pe, h F σ L Lf H s t o _ fun F1 M1 H1 v e1 t1 o1 r => by
    obtain ⟨Lk, Lr, ⟨rfl, ws, rfl, pr⟩, o2⟩ := t1.cell o1 hn
    have o2a : H1 p = some (.frz od (.dK (ws.map fun w => (SKey.key w.1, w.2)))) := o2.at
    refine ⟨p, od, _, r, o2a, kont _ F1 M1 H1 e1 t1 o1 fun T' hT' F2 L2 Lf2 H2 i e2 t2 o3 => ?_⟩
    obtain ⟨Lk2, Lr2, ⟨rfl, ws2, e4, pr2⟩, o4⟩ := t2.cell o3 hT'
    have hlen : (d.map (Dat : κ × A → VR)).length = ws.length := by rw [List.length_map, pr.length]
    have o4a : H2 p = some (.frz od (.dK (ws.map fun w => (SKey.key w.1, w.2)))) := o4.at
    refine ⟨fun hl => ⟨o4a, by rw [List.length_map]; omega⟩, fun ρ' hρ => ?_⟩
    have hi : i < ws.length := by rw [← hlen]; exact (List.getElem?_eq_some_iff.mp hρ).1
    refine ⟨⟨o4a, by rw [List.length_map]; exact hi⟩, fun y H' hy => ?_⟩
    obtain ⟨qa, kq, vq, hk, rfl, hnone, rfl⟩ := hy
    rw [List.getElem?_map] at hk
    cases hw : ws[i]? with
    | none => rw [hw] at hk; cases hk
    | some w =>
      rw [hw] at hk
      cases hk
      obtain ⟨kv, h7, h8⟩ := Paired.get' (Paired.mono (fun _ _ z => ⟨z.1, Rp.mono e2 z.2⟩) pr : Paired (DR F2) ws d) hw
      rw [List.getElem?_map, h7] at hρ
      cases hρ
      obtain ⟨e5, o5, e6⟩ := own_ice (o := .tup [kV (SKey.key w.1), w.2]) o3 hnone
      refine ⟨_, e5, o5, qa, kV (SKey.key w.1), w.2, rfl, e6, ?_, Rp.mono e5 h8.2⟩
      show rep _ _ kv.1
      rw [← h8.1]
      exact (Sca.ok _ _ _).mpr (SKey.val _)⟩
variable {S R : Type}
theorem js_forDI {f : S → κ × A → Option S} {s0 sN : S} (n : Nat) (hk : T[n]? = some (p, OD d)) (hm : foldO f s0 d = some sN) (Γs : S → Slots) (Ts : S → Th) (hp : PassesOwn (model X.prog X.w) X.A X.env X.xe) (hc : X.calm = true)
    (hi : ∀ od u, JI X Γ (T.set n (p, OZ od u d)) tg iter (fun T' => T'[n]? = some (p, OZ od u d)) (d.map Dat)) (hΓ : Wk Γ (Γs s0)) (hT : T = Ts s0) (hz : ∀ s, (Ts s)[n]? = some (p, OD d))
    (turn : ∀ od u x s s', x ∈ d → f s x = some s' → ∃ put ws, JG X tg (Dat x) put ws ∧ JSs X W (put (Γs s)) ((Ts s).set n (p, OZ od u d)) body { nx := fun Γ' T' => Wk Γ' (Γs s') ∧ T' = (Ts s').set n (p, OZ od u d), ct := fun Γ' T' => Wk Γ' (Γs s') ∧ T' = (Ts s').set n (p, OZ od u d), rt := lockRt p od u d D })
    (fin : JSs X W (Γs sN) (Ts sN) rest D) (hs : ∀ x, foldedSetIterable iter X.env x = pure x := by exact folded_no rfl) : JSs X W Γ T (.For tg iter body [] pos :: rest) D := by
  refine js_cons (M := fun Γ' T' => Γ' = Γs sN ∧ T' = Ts sN) (js_lockD n hk fun od u => ?_) fun _ _ ⟨a, b⟩ => by subst a b; exact fin
  have hset : ∀ s, ((Ts s).set n (p, OZ od u d))[n]? = some (p, OZ od u d) := fun s => List.getElem?_set_self (List.getElem?_eq_some_iff.mp (hz s)).1
  have hsT : (T.set n (p, OZ od u d))[n]? = some (p, OZ od u d) := by rw [hT]; exact hset s0
  refine js_for hp hc (hi od u) (fun i s => foldO f s (d.drop i) = some sN) Γs (fun s => (Ts s).set n (p, OZ od u d)) s0 (by simpa using hm) hΓ (by rw [hT]) (fun i s _ => hset s) (fun i ρ s hi inv => ?_) (fun s inv => ?_) hs
  · rw [List.getElem?_map] at hi
    cases hx : d[i]? with
    | none => rw [hx] at hi; cases hi
    | some x =>
      rw [hx] at hi
      cases hi
      obtain ⟨hl, hx'⟩ := List.getElem?_eq_some_iff.mp hx
      rw [List.drop_eq_getElem_cons hl, hx'] at inv
      obtain ⟨s', h1, h2⟩ := obind inv
      obtain ⟨put, ws, hg, hb⟩ := turn od u x s s' (hx' ▸ List.getElem_mem hl) h1
      exact ⟨put, ws, hg, jss_le hb ⟨fun _ _ ⟨a, b⟩ => ⟨s', h2, a, b⟩, fun _ _ q => q, fun _ _ q => q.elim, fun _ _ ⟨a, b⟩ => ⟨s', h2, a, b⟩, fun _ _ q => q⟩⟩
  · rw [List.length_map, List.drop_length] at inv
    cases inv
    exact ⟨Ts sN, rfl, hz sN, rfl, rfl⟩
end
section
variable {X : Cx}
theorem kt_drop {H : Hp} {kvs : List (List Key × V)} {xs : List (List Key × Addr × Value)} (r : KT H kvs xs) (k : List Key) : KT H (dropK kvs k) (withoutH xs k) := by
  induction r with
  | nil => exact .nil
  | @cons a b as bs h t ih =>
    unfold dropK withoutH at ih ⊢
    by_cases z : a.1 = k
    · rw [List.filter_cons_of_neg (by simp [z]), List.filter_cons_of_neg (by simp [h.1.symm.trans z])]
      exact ih
    · rw [List.filter_cons_of_pos (by simp [z]), List.filter_cons_of_pos (by simp [show ¬ b.1 = k from fun y => z (h.1.trans y)])]
      exact .cons h ih
theorem mt_popT (hu : X.A.units + 1 < cLine) : MtR X "dict.pop" (fun x vs H Q => ∃ (d b : Addr) (kvs : List (List Key × V)) (k : List Key) (v : V), x = .ref d ∧ vs = [.ref b] ∧ H d = some (.dT kvs) ∧ H b = some (.tup (k.map kV)) ∧ valV kvs k = some v ∧ Q v (upd H d (.dT (dropK kvs k)))) := by
  intro pins s σ H x vs v us Q I rx rv h
  obtain ⟨d, b, kvs, k, y, rfl, rfl, hd, hb, hk, q⟩ := h
  cases rx
  cases rv with
  | cons r1 rv =>
    cases rv
    cases r1
    obtain ⟨z, hds, xs, rel, dd⟩ := dt_of I.hok hd
    obtain ⟨w', hw, rw'⟩ := RelO.some_of (v := y) (o := (atKey xs k).map (·.2)) (by rw [← hk]; exact rel.val k)
    obtain ⟨p, hp, rfl⟩ := Option.map_eq_some_iff.mp hw
    refine call_pop_heap (knd := tupleKind (mixKind X.prog X.w)) (hsz := by rw [← Paired.length rel]; exact z) (.inl rfl) (PySem.F.args_dict_pop_2 _ _) (tupleKind_room_in1 hu) (key_of I.hok hb) hds dd hp fun h' dd' hs => ⟨y, _, ?_, rw', q⟩
    obtain ⟨ob, es, ep, e1, e2, e3, e4, _, e5⟩ := dd'
    refine d_write I (by rw [hd]; exact True.intro) hs ⟨ob, e1⟩ ⟨Nat.le_trans (dropK_le kvs k) z, hds, _, (kt_drop rel k).keeps fun c ys ec => ?_, ob, es, ep, e1, e2, e3, e4, e5⟩
    rw [upd_ne (ne_of ec hd (fun z => nomatch z))]
    exact ec
end
def ddrop {κ A : Type} [DecidableEq κ] (d : List (κ × A)) (k : κ) : List (κ × A) := d.filter fun kv => decide (kv.1 ≠ k)
def dpopO {κ A : Type} [DecidableEq κ] (d : List (κ × A)) (k : κ) : Option (List (κ × A) × A) := (dget d k).map fun a => (ddrop d k, a)
section
variable {κ κ' A : Type} [Sca κ] [SKey κ] [DecidableEq κ] [Sca κ'] [SKey κ'] [DecidableEq κ'] [Rp A] {X : Cx} {W : WX} {Γ : Slots} {T : Th} {o e e2 : Expr} {pos apos : Pos} {p : Addr} {d : List ((κ × κ') × A)} {k : κ × κ'} {r : List ((κ × κ') × A) × A}
theorem dr_drop {κ A : Type} [DecidableEq κ] [Rp A] {F : Hp} {k : κ} {ws : List (κ × V)} {d : List (κ × A)} (h : Paired (DR F) ws d) : Paired (DR F) (dropK ws k) (ddrop d k) := by
  induction h with
  | nil => exact .nil
  | @cons a b as bs h t ih =>
    unfold dropK ddrop at ih ⊢
    by_cases z : a.1 = k
    · rw [List.filter_cons_of_neg (by simp [z]), List.filter_cons_of_neg (by simp [h.1.symm.trans z])]
      exact ih
    · rw [List.filter_cons_of_pos (by simp [z]), List.filter_cons_of_pos (by simp [show ¬ b.1 = k from fun y => z (h.1.trans y)])]
      exact .cons h ih
theorem dropK_inj {κ κ' : Type} [DecidableEq κ] [DecidableEq κ'] (g : κ → κ') (hg : ∀ a b, g a = g b → a = b) (k : κ) (ws : List (κ × V)) : dropK (ws.map fun w => (g w.1, w.2)) (g k) = (dropK ws k).map fun w => (g w.1, w.2) := by
  unfold dropK
  rw [List.filter_map]
  congr 1
  refine List.filter_congr fun w _ => ?_
  by_cases h : w.1 = k
  · simp [h]
  · have : ¬ g w.1 = g k := fun q => h (hg _ _ q)
    simp [h, this]
theorem pair_inj (a b : κ × κ') (h : [SKey.key a.1, SKey.key a.2] = [SKey.key b.1, SKey.key b.2]) : a = b := by
  have h' := List.cons.inj h
  exact Prod.ext (SKey.inj _ _ h'.1) (SKey.inj _ _ (List.cons.inj h'.2).1)
/-- d.pop(k), there -/
theorem jx_popT (n : Nat) (h : dpopO d k = some r) (hu : X.A.units + 64 < cLine) (ho : JE X Γ T o (Ref p)) (hn : T[n]? = some (p, OD d)) (he : JE X Γ T e (Dat k)) (hs : starEach [e] X.env = (false, eval e X.env) :: starEach [] X.env := by exact star1 rfl)
    (hp : ∀ {to : TE} {t : TA} {r : V → List V → Hp → VK → Prop}, MtR X "dict.pop" r → PE X o to → PA X [e] t → PE X (.Call (.Attribute o "pop" apos) [e] [] pos) (tBM X.K "dict" r to t) := by exact fun hm h h' => pe_bm PySem.F.plainAttrs_dict PySem.F.slot_dict_pop PySem.F.type_dict_pop hm h h') :
    JX X W Γ T (.Call (.Attribute o "pop" apos) [e] [] pos) (fun ρ T' => ρ = Dat r.2 ∧ T' = T.set n (p, OD r.1)) nox := fun F σ L Lf H s t ow Q q _ => by
  refine we_of (hp (mt_popT (hu1 hu)) we_pe wa_pa) (ho F σ L Lf H s t ow _ fun F1 M1 H1 u e1 t1 o1 r1 => ?_)
  obtain rfl : u = .ref p := r1
  obtain ⟨Lk, Lr, ⟨ws, h1, rfl⟩, o'⟩ := t1.cell o1 hn
  have hd : H1 p = some (.dT (ws.map fun w => ([SKey.key w.1.1, SKey.key w.1.2], w.2))) := o'.cel _ (List.mem_cons_self ..)
  refine ⟨.inr (.inr (.inl ⟨rfl, .inr ⟨_, hd⟩⟩)), ?_⟩
  refine (ja_cons he ja_nil hs) F1 σ M1 Lf H1 (s.mono e1) t1 o1 _ fun F2 M2 H2 zs e2 t2 o2 rs => ?_
  obtain ⟨z, rfl, rz⟩ := vrs1 rs
  obtain ⟨qa, x, y, rfl, hq, hx, hy⟩ := rz
  obtain rfl := (Sca.ok _ _ _).mp hx
  obtain rfl := (Sca.ok _ _ _).mp hy
  obtain ⟨Lk2, Lr2, ⟨ws2, h2, rfl⟩, o3, nx⟩ := t2.upd o2 hn
  have hd2 : H2 p = some (.dT (ws2.map fun w => ([SKey.key w.1.1, SKey.key w.1.2], w.2))) := o3.cel _ (List.mem_cons_self ..)
  obtain ⟨a, ha, rfl⟩ := Option.map_eq_some_iff.mp h
  have h3 := dr_get (k := k) h2
  rw [ha] at h3
  obtain ⟨v, h4, h5⟩ := h3
  refine ⟨p, qa, _, [SKey.key k.1, SKey.key k.2], v, rfl, rfl, hd2, ?_, ?_, ?_⟩
  · rw [o2.sub _ _ hq]
    show some (HO.tup [Sca.val k.1, Sca.val k.2]) = some (HO.tup [kV (SKey.key k.1), kV (SKey.key k.2)])
    rw [SKey.val, SKey.val]
  · rw [← h4]
    exact valV_inj (fun k : κ × κ' => [SKey.key k.1, SKey.key k.2]) pair_inj k ws2
  · rw [dropK_inj (fun k : κ × κ' => [SKey.key k.1, SKey.key k.2]) pair_inj k ws2]
    obtain ⟨L', t', o4⟩ := nx F2 [(p, .dT ((dropK ws2 k).map fun w => ([SKey.key w.1.1, SKey.key w.1.2], w.2)))] (OD (ddrop d k)) _ (Same.refl _) ⟨_, dr_drop h2, rfl⟩ (o3.put rfl)
    exact q _ _ ⟨Dat a, _, F2, L', ⟨rfl, rfl⟩, e1.trans e2, h5, t', o4⟩
/-- d.get(k, x) -/
theorem je_get2 {κ A : Type} [Rp κ] [DecidableEq κ] [DKey κ] [Rp A] {d : List (κ × A)} {k : κ} {x : A} (hn : DAt T p d) (hu : X.A.units + 64 < cLine) (ho : JE X Γ T o (Ref p)) (he : JE X Γ T e (Dat k)) (hf : JE X Γ T e2 (Dat x)) (m : M2 X o "get" apos e e2 pos := by exact ⟨rfl, rfl, rfl, rfl⟩) : JE X Γ T (.Call (.Attribute o "get" apos) [e, e2] [] pos) (Dat ((dget d k).getD x)) := fun F σ L Lf H s t ow Q q =>
  we_of (pe_dget2 (hu1 hu) we_pe we_pe we_pe m) (ho F σ L Lf H s t ow _ fun F1 M1 H1 u e1 t1 o1 r1 => by
    obtain ⟨ws0, h0, _⟩ := hn F1 M1 Lf H1 t1 o1
    refine ⟨p, r1, DKey.isD h0, he F1 σ M1 Lf H1 (s.mono e1) t1 o1 _ fun F2 M2 H2 y e2 t2 o2 r2 => hf F2 σ M2 Lf H2 ((s.mono e1).mono e2) t2 o2 _ fun F3 M3 H3 z e3 t3 o3 r3 => ?_⟩
    obtain ⟨ws, h1, pr⟩ := hn F3 M3 Lf H3 t3 o3
    refine ⟨valV ws k, DKey.get o3.sub (Rp.mono e3 r2) h1, q F3 M3 H3 _ ((e1.trans e2).trans e3) t3 o3 ?_⟩
    have h2 := dr_get (k := k) pr
    cases h : dget d k with
    | some a => rw [h] at h2; obtain ⟨v, h3, h4⟩ := h2; rw [h3]; exact h4
    | none => rw [h] at h2; rw [show valV ws k = none from h2]; exact r3)
end
/-! a list of two kinds -/
structure Two (α β : Type) where
  (a : α) (b : β)
  deriving DecidableEq
instance {α β : Type} [Rp α] [Rp β] : Rp (Two α β) := ⟨fun F v t => ∃ p x y, v = .ref p ∧ F p = some (.lst [x, y]) ∧ rep F x t.a ∧ rep F y t.b, fun e ⟨p, x, y, h1, h2, h3, h4⟩ => ⟨p, x, y, h1, e _ _ h2, Rp.mono e h3, Rp.mono e h4⟩⟩
instance instDpvTwo {A B : Type} [Rp A] [Rp B] [Dpv A] [Dpv B] : Dpv (Two A B) where
  toD := fun x => .list [Dpv.toD x.a, Dpv.toD x.b]
  dep := max (Dpv.dep A) (Dpv.dep B) + 1
  lok := fun x => Dpv.lok x.a && Dpv.lok x.b
  dp := fun e ⟨p, x, y, h1, h2, h3, h4⟩ => by
    subst h1
    exact .lst (SqL.of (e _ _ h2)) (.cons (Dpv.dp e h3) (.cons (Dpv.dp e h4) .nil))
  eq := fun a b => by
    rw [PyData.eqv]
    simp only [PyData.eqvAll, Bool.and_true, Bool.and_eq_true, Dpv.eq]
    constructor
    · intro h; cases a; cases b; simp only at h; obtain ⟨rfl, rfl⟩ := h; rfl
    · intro h; subst h; exact ⟨rfl, rfl⟩
  lay := fun a h => by
    rw [Bool.and_eq_true] at h
    rw [PyData.canLay0]
    simp [PyData.canLayAll0, Dpv.lay _ h.1, Dpv.lay _ h.2]
  low := fun a => by
    have h1 := Dpv.low a.a
    have h2 := Dpv.low a.b
    simp only [PyData.depth, PyData.depthAll]
    omega
instance {A B : Type} [Rp A] [Rp B] [DpvT A] [DpvT B] : DpvT (Two A B) where
  toDpv := instDpvTwo
  all := fun x => by show (Dpv.lok x.a && Dpv.lok x.b) = true; rw [DpvT.all, DpvT.all]; rfl
section
variable {X : Cx} {W : WX} {Γ : Slots} {T : Th} {a b i : Expr} {pos : Pos} {A B : Type} [Rp A] [Rp B] {x : A} {y : B} {t2 : Two A B}
theorem je_two2 (h : JA X Γ T [a, b] [Dat x, Dat y]) : JE X Γ T (.List [a, b] pos) (Dat (Two.mk x y)) := fun F σ L Lf H s t o Q k =>
  we_of (pe_lst wa_pa) (h F σ L Lf H s t o _ fun F1 M1 H1 vs e1 t1 o1 rs => by
    cases rs with
    | cons r1 rs => cases rs with
      | cons r2 rs =>
        cases rs
        refine ⟨by show 2 ≤ sizeLine; rw [sizeLine_eq]; decide, fun p hp => ?_⟩
        obtain ⟨e2, o2, e3⟩ := own_ice (o := .lst _) o1 hp
        exact k _ M1 _ _ (e1.trans e2) (t1.mono e2) o2 ⟨p, _, _, rfl, e3, Rp.mono e2 r1, Rp.mono e2 r2⟩)
theorem je_ixtwoa (ha : JE X Γ T a (Dat t2)) (hb : JE X Γ T i (Dat (0 : Int))) (hs : PlainIx i := by exact fun _ _ => rfl) : JE X Γ T (.Subscript a i pos) (Dat t2.a) :=
  je_two (t := tOp (rIxL X.K)) (pe_ix ix_list we_pe we_pe hs) (fun _ _ _ _ _ h => h) ha hb fun F L Lf H u v Q t o ⟨p, x', y', h1, h2, h3, h4⟩ rv k => ⟨p, _, 0, x', h1, rv, SqL.of (o.sub _ _ h2), rfl, k F L H _ (Same.refl F) t o h3⟩
theorem je_ixtwob (ha : JE X Γ T a (Dat t2)) (hb : JE X Γ T i (Dat (1 : Int))) (hs : PlainIx i := by exact fun _ _ => rfl) : JE X Γ T (.Subscript a i pos) (Dat t2.b) :=
  je_two (t := tOp (rIxL X.K)) (pe_ix ix_list we_pe we_pe hs) (fun _ _ _ _ _ h => h) ha hb fun F L Lf H u v Q t o ⟨p, x', y', h1, h2, h3, h4⟩ rv k => ⟨p, _, 1, y', h1, rv, SqL.of (o.sub _ _ h2), rfl, k F L H _ (Same.refl F) t o h4⟩
end
/-! ### a tuple whose items are steps -/
section
variable {X : Cx} {W : WX} {Γ : Slots} {T : Th} {es : List Expr} {pos : Pos} {R : VR → Th → Prop}
theorem jx_tupA {n : Nat} (h : JAX X W Γ T es (fun ρs T' => ρs.length ≤ sizeLine ∧ R (TupV ρs) T')) : JX X W Γ T (.Tuple es n pos) R nox := fun F σ L Lf H s t o Q q _ =>
  we_of (pe_tup wa_pa) (h F σ L Lf H s t o _ fun vs H1 ⟨ρs, T1, F1, L1, ⟨h1, h2⟩, e1, rs, t1, o1⟩ => by
    refine ⟨by rw [← rs.length]; exact h1, fun p hp => ?_⟩
    obtain ⟨e2, o2, e3⟩ := own_ice (o := .tup vs) o1 hp
    exact q _ _ ⟨_, T1, _, L1, h2, e1.trans e2, ⟨p, vs, rfl, e3, VRs.mono e2 rs⟩, t1.mono e2, o2⟩)
end
/-! ### lists of one's own that may be missing -/
/-- a list's address, or None -/
def OptR {A : Type} (p : Addr) (o : Option A) : VR := match o with | none => Dat () | some _ => Ref p
def OQ {A : Type} [Rp A] (o : Option (List A)) : OV := match o with | none => .emp | some xs => OL xs
theorem optR_some {A : Type} {p : Addr} {o : Option A} {x : A} (h : o = some x) : OptR p o = Ref p := by subst h; rfl
theorem oq_some {A : Type} [Rp A] {o : Option (List A)} {x : List A} (h : o = some x) : OQ o = OL x := by subst h; rfl
theorem TEnt.emQ {A : Type} [Rp A] {p : Addr} {T : Th} : TEnt T ((p, OQ (none : Option (List A))) :: T) := fun F L t => ⟨L, [], by rw [List.append_nil], .cons (L1 := []) rfl t⟩
section
variable {X : Cx} {Γ : Slots} {T : Th} {a : Expr} {A : Type} {o : Option A} {p : Addr}
theorem jc_isQ (ha : JE X Γ T a (OptR p o)) {j : Nat} {p' : Pos} : JC X Γ T .Is a (.Constant .none j p') (Dat o.isNone) := fun F σ L Lf H s t ow Q k =>
  ⟨_, pc_isN we_pe, ha F σ L Lf H s t ow _ fun F1 M1 H1 v e1 t1 o1 rv => k F1 M1 H1 _ e1 t1 o1 (by
    cases o with
    | none => obtain rfl : v = .non := rv; rfl
    | some y => obtain rfl : v = .ref p := rv; rfl)⟩
theorem jc_notQ (ha : JE X Γ T a (OptR p o)) {j : Nat} {p' : Pos} : JC X Γ T .IsNot a (.Constant .none j p') (Dat o.isSome) := fun F σ L Lf H s t ow Q k =>
  ⟨_, pc_notN we_pe, ha F σ L Lf H s t ow _ fun F1 M1 H1 v e1 t1 o1 rv => k F1 M1 H1 _ e1 t1 o1 (by
    cases o with
    | none => obtain rfl : v = .non := rv; rfl
    | some y => obtain rfl : v = .ref p := rv; rfl)⟩
end
section
variable {X : Cx} {W : WX} {Γ : Slots} {T T' : Th} {D : Po} {pos : Pos}
theorem js_retNE (c : TEnt T T') (h : D.rt (Dat ()) T') : JS X W Γ T (.Return none pos) D := fun F σ L Lf H s t o w => by
  obtain ⟨L', t', o'⟩ := c.own t o
  exact ws_of ps_retN ⟨Dat (), T', F, L', h, Same.refl F, rfl, t', o'⟩
end
section
variable {X : Cx} {W : WX} {Γ : Slots} {T T2 : Th} {es : List Expr} {RL : List VR → Th → Prop}
theorem jax_ent (c : TEnt T T2) (h : JAX X W Γ T2 es RL) : JAX X W Γ T es RL := fun F σ L Lf H s t o Q k => by
  obtain ⟨L', t', o'⟩ := c.own t o
  exact h F σ L' Lf H s t' o' Q k
end
/-! ### list(d.keys()) -/
section
variable {X : Cx}
theorem call_listKs (hcalm : X.calm = true) : CallR X (.type "list") (fun xs H Q => ∃ (v a : Addr) (kvs : List (Key × V)), xs = [.ref v] ∧ H v = some (KeysO v a) ∧ Rd H a (.dK kvs) ∧ ∀ p, H p = none → Q (.ref p) (upd H p (.lst (kvs.map fun kv => kV kv.1)))) := by
  intro pins s σ H xs us Q I r q
  obtain ⟨r0, a, kvs, rfl, hv, hd, q⟩ := q
  rw [Vals.ref1 r]
  obtain ⟨z, lo, vs, rel, dd⟩ := dk_rd I.hok hd
  obtain ⟨ep, hat⟩ := dd.dictAt
  obtain ⟨hv', _, _⟩ := (show ObjOk X.prog X.w _ _ _ (KeysO r0 a) from I.hok r0 _ hv)
  have ek : (kvs.map fun kv => kV kv.1) = vs.map fun p => kV p.1 := by
    have e := congrArg (List.map kV) rel.keys
    rw [List.map_map, List.map_map] at e
    exact e
  refine PySem.W.kdl_call (PySem.W.kdl_keys (r := r0) (d := a) (knd := mixKind X.prog X.w) (kvs := vs) (ep := ep)) (I.ok.hd hcalm) ⟨hv', hat⟩ (by rw [← rel.length]; exact z) fun h' tk acc c' hk hD hacc => ?_
  have hv2 : Vals (vs.map fun p => kV p.1) acc.toList := keys_at (by rw [Array.length_toList]; exact hacc.1) fun j v e => hacc.2 j v (by rw [← Array.getElem?_toList]; exact e)
  refine ⟨.ref s.heap.objs.size, upd H s.heap.objs.size (.lst (kvs.map fun kv => kV kv.1)), I.laid (t' := tk) hk (Nat.le_refl _)
    (show ObjOk X.prog X.w _ _ _ (.lst (kvs.map fun kv => kV kv.1)) from ⟨by rw [List.length_map]; exact z, acc.toList, c', by rw [ek]; exact hv2, by rw [Array.toArray_toList]; exact hD⟩), rfl, q _ (I.hok.fresh (Nat.le_refl _))⟩
end
section
variable {X : Cx} {W : WX} {Γ : Slots} {T : Th} {o a : Expr} {p : Addr} {pos apos cpos pp : Pos}
theorem jf_listKs {κ A : Type} [Sca κ] [SKey κ] [DecidableEq κ] [Rp A] {d : List (κ × A)} (n : Nat) (hcalm : X.calm = true) (hg : Gl X "list") (hm : X.mg "list" = none) (ho : JE X Γ T o (Ref p)) (hn : T[n]? = some (p, OD d))
    (hs : starEach [.Call (.Attribute o "keys" apos) [] [] cpos] X.env = (false, eval (.Call (.Attribute o "keys" apos) [] [] cpos) X.env) :: starEach [] X.env := by exact star1 rfl)
    (hp : ∀ {to : TE} {r : V → List V → Hp → VK → Prop}, MtR X "dict.keys" r → PE X o to → PE X (.Call (.Attribute o "keys" apos) [] [] cpos) (tBM0 X.K "dict" r to) := by exact fun hm h => pe_bm0 PySem.F.plainAttrs_dict PySem.F.slot_dict_keys PySem.F.type_dict_keys hm h) :
    JF X W Γ T (.Call (.Name "list" pp) [.Call (.Attribute o "keys" apos) [] [] cpos] [] pos) (d.map (·.1)) := fun F σ L Lf H s t ow Q q _ => by
  refine we_of (pe_callTy (call_listKs hcalm) hg hm (by decide +kernel) (pa_cons (hp mt_keys we_pe) pa_nil hs) (by decide) (by decide) hs (by rfl)) ?_
  refine ho F σ L Lf H s t ow _ fun F1 M1 H1 u e1 t1 o1 r1 => ?_
  obtain rfl : u = .ref p := r1
  obtain ⟨Lk, Lr, ⟨ws, h1, rfl⟩, o'⟩ := t1.cell o1 hn
  have hd : H1 p = some (.dK (ws.map fun w => (SKey.key w.1, w.2))) := o'.cel _ (List.mem_cons_self ..)
  refine ⟨.inr (.inr (.inl ⟨rfl, .inl ⟨_, hd⟩⟩)), p, _, rfl, rfl, .inl hd, fun v hv => ?_⟩
  obtain ⟨e2, o2, e3⟩ := own_ice (o := KeysO v p) o1 hv
  refine ⟨v, p, _, rfl, upd_same, .inl ((upd_ne fun e => by subst e; rw [hv] at hd; cases hd).trans hd), ?_⟩
  exact jf_new q (e1.trans e2) (t1.mono e2) o2 (Paired.mono (fun _ _ => Rp.mono e2) (keys_one h1))
end
/-! ### a step's outcome put at the end of a list -/
section
variable {B : Type} [Rp B] {X : Cx} {W : WX} {Γ : Slots} {T : Th} {rest : List Stmt} {D : Po} {o e : Expr} {pos apos : Pos} {p : Addr} {xs : List B}
theorem js_appX (i : Nat) (hi : T[i]? = some (p, OL xs)) (ho : JE X Γ T o (Ref p)) (he : JAX X W Γ T [e] (fun ρs T' => ∃ (j : Nat) (y : B) (ys zs : List B), ρs = [Dat y] ∧ T'[j]? = some (p, OL ys) ∧ appO ys y = some zs ∧ JSs X W Γ (T'.set j (p, OL zs)) rest D))
    (hp : ∀ {to : TE} {t : TA}, PE X o to → PA X [e] t → PE X (.Call (.Attribute o "append" apos) [e] [] pos) (tBM X.K "list" rAppend to t) := by exact fun h h' => pe_bm PySem.F.plainAttrs_list PySem.F.slot_list_append PySem.F.type_list_append mt_append h h')
    {pos2 : Pos} (hs2 : swapsWith (.Call (.Attribute o "append" apos) [e] [] pos) none pos2.line X.env = pure false := by exact swaps_no rfl) : JSs X W Γ T (.Expr (.Call (.Attribute o "append" apos) [e] [] pos) pos2 :: rest) D := by
  refine js_exprK (R := fun ρ T' => JSs X W Γ T' rest D) (xr := nox) ?_ (fun ρ T' h => h) (fun _ _ z => z.elim) hs2
  intro F σ L Lf H s t ow Q q _
  refine we_of (hp we_pe wa_pa) (ho F σ L Lf H s t ow _ fun F1 M1 H1 v e1 t1 o1 r1 => ?_)
  obtain ⟨Lk, Lr, ⟨us, h1, h2⟩, o2, _⟩ := t1.upd o1 hi
  subst h2
  cases (show v = .ref p from r1)
  refine ⟨.inl ⟨rfl, us, SqL.of o2.at⟩, ?_⟩
  refine he F1 σ M1 Lf H1 (s.mono e1) t1 o1 _ fun vs H2 ⟨ρs, T', F2, L2, ⟨j, y, ys, zs, g1, g2, g3, g4⟩, e2, rs, t2, o3⟩ => ?_
  subst g1
  obtain ⟨g5, rfl⟩ := of_when g3
  obtain ⟨w, rfl, rw'⟩ := vrs1 rs
  obtain ⟨Lk, Lr, ⟨us2, k1, k2⟩, o4, nx⟩ := t2.upd o3 g2
  subst k2
  refine ⟨p, us2, w, rfl, rfl, o4.at, by rw [k1.length]; exact g5, ?_⟩
  obtain ⟨L', t', o'⟩ := nx F2 [(p, .lst (us2 ++ [w]))] (OL (ys ++ [y])) _ (Same.refl _) ⟨_, Paired.append k1 (.cons rw' .nil), rfl⟩ o4.put
  exact q _ _ ⟨Dat (), _, F2, L', g4, e1.trans e2, rfl, t', o'⟩
end
/-- a comprehension within a comprehension -/
theorem blkOk_in {N N' : List Str} {sc scope0 scope : Scope} {cl : List (Str × Addr)} {C : Addr} {E : Env} {own : List (Str × Nat)} (h : blkC N (relS scope0 sc) scope own = true) (hN : N' = N := by rfl) (hE : E.scope = sc := by rfl) : BlkOk N' (compEnvC scope0 cl C E).scope scope own := by
  subst hN hE
  exact blkOk_by h
/-! ### sorted(d) -/
section
variable {X : Cx} {W : WX} {Γ : Slots} {T : Th} {o : Expr} {p : Addr} {pos pp : Pos}
theorem jf_sortedD {A : Type} [Rp A] {d : List (Int × A)} (n : Nat) (hcalm : X.calm = true) (hg : Gl X "sorted") (hm : X.mg "sorted" = none) (ho : JE X Γ T o (Ref p)) (hn : T[n]? = some (p, OD d))
    (hs : starEach [o] X.env = (false, eval o X.env) :: starEach [] X.env := by exact star1 rfl) : JF X W Γ T (.Call (.Name "sorted" pp) [o] [] pos) (sortI (d.map (·.1))) := fun F σ L Lf H s t ow Q q _ => by
  refine we_of (pe_callB (cr_sortK hcalm) hg hm (by decide +kernel) (pa_cons we_pe pa_nil hs) (by decide) (by decide) hs (by rfl)) ?_
  refine ho F σ L Lf H s t ow _ fun F1 M1 H1 u e1 t1 o1 r1 => ?_
  obtain rfl : u = .ref p := r1
  obtain ⟨Lk, Lr, ⟨ws, h1, rfl⟩, o'⟩ := t1.cell o1 hn
  have hd : H1 p = some (.dK (ws.map fun w => (SKey.key w.1, w.2))) := o'.cel _ (List.mem_cons_self ..)
  refine ⟨p, p, _, d.map (·.1), rfl, .inl rfl, .inl hd, keys_map h1, fun ns' q' hp' hs' => ?_⟩
  rw [sorted_one (hp'.trans (sortI_perm _).symm) hs' (sortI_le _)]
  exact jf_new q e1 t1 o1 (paired_ints _) q'
end
/-! ### xs.extend(ys) -/
section
variable {B : Type} [Rp B] {X : Cx} {W : WX} {Γ : Slots} {T : Th} {rest : List Stmt} {D : Po} {o e : Expr} {pos apos : Pos} {p : Addr} {xs ys zs : List B} {ρ : VR}
theorem js_ext (i : Nat) (hi : T[i]? = some (p, OL xs)) (ho : JE X Γ T o (Ref p)) (he : JE X Γ T e ρ) (hr : Rdm T ρ ys) (h : extO xs ys = some zs) (k : JSs X W Γ (T.set i (p, OL zs)) rest D)
    (hs : starEach [e] X.env = (false, eval e X.env) :: starEach [] X.env := by exact star1 rfl)
    (hp : ∀ {to : TE} {t : TA}, PE X o to → PA X [e] t → PE X (.Call (.Attribute o "extend" apos) [e] [] pos) (tBM X.K "list" rExtend to t) := by exact fun h h' => pe_bm PySem.F.plainAttrs_list PySem.F.slot_list_extend PySem.F.type_list_extend mt_extend h h')
    {pos2 : Pos} (hs2 : swapsWith (.Call (.Attribute o "extend" apos) [e] [] pos) none pos2.line X.env = pure false := by exact swaps_no rfl) : JSs X W Γ T (.Expr (.Call (.Attribute o "extend" apos) [e] [] pos) pos2 :: rest) D := by
  obtain ⟨hl, rfl⟩ := of_when h
  refine js_exprK (R := fun ρ T' => T' = T.set i (p, OL (xs ++ ys))) (xr := nox) ?_ (fun ρ T' h => by subst h; exact k) (fun _ _ z => z.elim) hs2
  intro F σ L Lf H s t ow Q q _
  refine we_of (hp we_pe wa_pa) (ho F σ L Lf H s t ow _ fun F1 M1 H1 v e1 t1 o1 r1 => ?_)
  obtain ⟨Lk, Lr, ⟨us, h1, h2⟩, o2, _⟩ := t1.upd o1 hi
  subst h2
  cases (show v = .ref p from r1)
  refine ⟨.inl ⟨rfl, us, SqL.of o2.at⟩, ?_⟩
  refine (ja_cons he ja_nil hs) F1 σ M1 Lf H1 (s.mono e1) t1 o1 _ fun F2 M2 H2 vs e2 t2 o3 rs => ?_
  obtain ⟨w, rfl, rw'⟩ := vrs1 rs
  obtain ⟨b, ws, rfl, hb, pw⟩ := hr F2 M2 Lf H2 w t2 o3 rw'
  obtain ⟨Lk, Lr, ⟨us2, k1, k2⟩, o4, nx⟩ := t2.upd o3 hi
  subst k2
  refine ⟨p, b, us2, ws, rfl, rfl, o4.at, hb, by rw [k1.length, pw.length]; exact hl, ?_⟩
  obtain ⟨L', t', o'⟩ := nx F2 [(p, .lst (us2 ++ ws))] (OL (xs ++ ys)) _ (Same.refl _) ⟨_, Paired.append k1 pw, rfl⟩ o4.put
  exact q _ _ ⟨Dat (), _, F2, L', rfl, e1.trans e2, rfl, t', o'⟩
end
/-! ### values of several kinds -/
inductive Anyv where
  | i (x : Int)
  | b (x : Bool)
  | s (x : Str)
  | n
  /-- (1,) -/
  | t
  /-- [1] -/
  | l
  deriving DecidableEq
instance : Rp Anyv := ⟨fun F v a => match a with | .i x => v = .int x | .b x => v = .bl x | .s x => v = .str x | .n => v = .non | .t => ∃ p, v = .ref p ∧ F p = some (.tup [.int 1]) | .l => ∃ p, v = .ref p ∧ F p = some (.lst [.int 1]), fun {_ _ _ a} e h => by
  cases a with
  | i x => exact h
  | b x => exact h
  | s x => exact h
  | n => exact h
  | t => obtain ⟨p, h1, h2⟩ := h; exact ⟨p, h1, e _ _ h2⟩
  | l => obtain ⟨p, h1, h2⟩ := h; exact ⟨p, h1, e _ _ h2⟩⟩
namespace Anyv
def ty : Anyv → String
  | .i _ => "int"
  | .b _ => "bool"
  | .s _ => "str"
  | .n => "NoneType"
  | .t => "tuple"
  | .l => "list"
def isI : Anyv → Bool
  | .i _ => true
  | .b _ => true
  | _ => false
def isB : Anyv → Bool
  | .b _ => true
  | _ => false
def isS : Anyv → Bool
  | .s _ => true
  | _ => false
def toI : Anyv → Option Int
  | .i x => some x
  | _ => none
end Anyv
section
variable {X : Cx} {Γ : Slots} {T : Th} {a e : Expr} {pos p q : Pos} {f : Str} {x : Anyv}
theorem je_anI {y : Int} (h : x.toI = some y) (he : JE X Γ T e (Dat x)) : JE X Γ T e (Dat y) := by
  cases x with
  | i z => cases h; exact he
  | b z => cases h
  | s z => cases h
  | n => cases h
  | t => cases h
  | l => cases h
theorem je_ofI {y : Int} (he : JE X Γ T e (Dat y)) : JE X Γ T e (Dat (Anyv.i y)) := he
theorem je_ofB {y : Bool} (he : JE X Γ T e (Dat y)) : JE X Γ T e (Dat (Anyv.b y)) := he
theorem je_ofS {y : Str} (he : JE X Γ T e (Dat y)) : JE X Γ T e (Dat (Anyv.s y)) := he
theorem je_ofN (he : JE X Γ T e (Dat ())) : JE X Γ T e (Dat Anyv.n) := he
theorem ty_any {K : PySem.W.Frag} : ∀ F L Lf H v, TR F T L → Own F (L ++ Lf) H → (Dat x).rel F v → TyX K H v (.type x.ty) := fun F L Lf H v t o r => by
  cases x with
  | i z => exact ty_int F L Lf H v t o r
  | b z => exact ty_bl F L Lf H v t o r
  | s z => exact ty_str F L Lf H v t o r
  | n => exact ty_non (K := K) F L Lf H v t o r
  | t =>
    obtain ⟨p, rfl, h2⟩ := r
    exact .base (.tup (o.sub _ _ h2))
  | l =>
    obtain ⟨p, rfl, h2⟩ := r
    exact .base (.lst (o.sub _ _ h2))
/-- isinstance of a value of several kinds -/
theorem je_isiA {ty : String} {g : Anyv → Bool} (hg : Gl X "isinstance") (hm : X.mg "isinstance" = none) (ha : JE X Γ T a (Dat x)) (hc : PE X (.Name f q) (tC (.ty ty))) (hk : ∀ y : Anyv, kitB y.ty ty = some (g y)) (hs : starEach [a, .Name f q] X.env = (false, eval a X.env) :: starEach [.Name f q] X.env := by exact star1 rfl) (hs' : starEach [.Name f q] X.env = (false, eval (.Name f q) X.env) :: starEach [] X.env := by exact star1 rfl) :
    JE X Γ T (.Call (.Name "isinstance" p) [a, .Name f q] [] pos) (Dat (g x)) := je_isi hg hm ha hc (hk x) ty_any hs hs'
theorem kit_anI : ∀ y : Anyv, kitB y.ty "int" = some y.isI
  | .i _ => (by decide +kernel : kitB "int" "int" = some true)
  | .b _ => (by decide +kernel : kitB "bool" "int" = some true)
  | .s _ => (by decide +kernel : kitB "str" "int" = some false)
  | .n => (by decide +kernel : kitB "NoneType" "int" = some false)
  | .t => (by decide +kernel : kitB "tuple" "int" = some false)
  | .l => (by decide +kernel : kitB "list" "int" = some false)
theorem kit_anB : ∀ y : Anyv, kitB y.ty "bool" = some y.isB
  | .i _ => (by decide +kernel : kitB "int" "bool" = some false)
  | .b _ => (by decide +kernel : kitB "bool" "bool" = some true)
  | .s _ => (by decide +kernel : kitB "str" "bool" = some false)
  | .n => (by decide +kernel : kitB "NoneType" "bool" = some false)
  | .t => (by decide +kernel : kitB "tuple" "bool" = some false)
  | .l => (by decide +kernel : kitB "list" "bool" = some false)
theorem kit_anS : ∀ y : Anyv, kitB y.ty "str" = some y.isS
  | .i _ => (by decide +kernel : kitB "int" "str" = some false)
  | .b _ => (by decide +kernel : kitB "bool" "str" = some false)
  | .s _ => (by decide +kernel : kitB "str" "str" = some true)
  | .n => (by decide +kernel : kitB "NoneType" "str" = some false)
  | .t => (by decide +kernel : kitB "tuple" "str" = some false)
  | .l => (by decide +kernel : kitB "list" "str" = some false)
end
/-! ### a, b = a list of two -/
def twoO {B : Type} (xs : List B) : Option (B × B) := match xs with | [a, b] => some (a, b) | _ => none
section
variable {X : Cx} {pos : Pos} {t1 t2 : Expr}
theorem jg_lst2 {B : Type} [Rp B] {xs : List B} {ab : B × B} {n : Nat} {put : Slots → Slots} {ws : List Nat} (hx : twoO xs = some ab) (hc : X.calm = true) (h : JGs X [t1, t2] [Dat ab.1, Dat ab.2] put ws) (hp : ∀ {t : TGs}, PGs X [t1, t2] t → PG X (.Tuple [t1, t2] n pos) (gLst X.K 2 t) := by exact fun h => pg_lst rfl h) : JG X (.Tuple [t1, t2] n pos) (Dat xs) put ws := by
  obtain ⟨a, b, rfl, rfl⟩ : ∃ a b, xs = [a, b] ∧ ab = (a, b) := by
    match xs, hx with
    | [a, b], hx => exact ⟨a, b, rfl, (Option.some.inj hx).symm⟩
  exact fun Γ T F σ L Lf H v s t o ⟨p, vs, h1, h2, h3⟩ Q k => by
    match vs, h3 with
    | [u, w], .cons g1 (.cons g2 .nil) =>
      obtain ⟨tt, g, q⟩ := h Γ T F σ L Lf H [u, w] s t o (.cons g1 (.cons g2 .nil)) Q k
      exact ⟨_, hp g, p, [u, w], h1, SqL.of (o.sub _ _ h2), rfl, q⟩
end
/-! ### f(..)[k], where f tells a dict -/
section
variable {X : Cx} {W : WX} {Γ : Slots} {T : Th} {a b : Expr} {pos : Pos} {R : VR → Th → Prop} {κ A : Type} [Sca κ] [SKey κ] [DecidableEq κ] [Rp A]
theorem jx_ixD {k : κ} {x : A} (hu : X.A.units + 64 < cLine) (h : JX X W Γ T a (fun ρ T' => ∃ (p : Addr) (d : List (κ × A)) (n : Nat), ρ = Ref p ∧ T'[n]? = some (p, OD d) ∧ dget d k = some x ∧ JE X Γ T' b (Dat k) ∧ R (Dat x) T') nox) (hs : PlainIx b := by exact fun _ _ => rfl) : JX X W Γ T (.Subscript a b pos) R nox := fun F σ L Lf H s t o Q q _ =>
  we_of (pe_dget (hu1 hu) we_pe we_pe hs) (h F σ L Lf H s t o _ (fun u H1 ⟨ρ, T1, F1, L1, ⟨p, d, n, h1, hn, hd, hb, h3⟩, e1, r1, t1, o1⟩ => by
    subst h1
    refine hb F1 σ L1 Lf H1 (s.mono e1) t1 o1 _ fun F2 L2 H2 y e2 t2 o2 r2 => ?_
    obtain ⟨Lk, Lr, ⟨ws, g1, rfl⟩, o'⟩ := t2.cell o2 hn
    have h2 := dr_get (k := k) g1
    rw [hd] at h2
    obtain ⟨v, g3, g4⟩ := h2
    refine ⟨p, v, r1, ?_, q v H2 ⟨_, T1, F2, L2, h3, e1.trans e2, g4, t2, o2⟩⟩
    rw [← g3]
    exact DKey.get o2.sub r2 (.inl (o'.cel _ (List.mem_cons_self ..)))) fun _ _ _ _ _ z => z.elim)
end
end G

/-! HA: lists whose items hold owned lists: walked, read, opened at a place, held against data. -/
namespace G
open PySem PySem.Spec PyProof.Rows L2
open Rp (rep)
class Deep (A : Type) [Part A] where
  put : A → List (Part.B A) → A
  vr : A → Addr → VR
  getp : ∀ x ys, Part.get (put x ys) = ys
  wip : ∀ x ys q, (Part.wi (put x ys) q : Part.Sh A) = Part.wi x q
  putg : ∀ x, put x (Part.get x) = x
  vrok : ∀ {F : Hp} {v : V} (x : A) (q : Addr), rep F v (Part.wi x q : Part.Sh A) → (vr x q).rel F v
instance {B : Type} [Rp B] : Deep (List B) := ⟨fun _ ys => ys, fun _ q => Ref q, fun _ _ => rfl, fun _ _ _ => rfl, fun _ => rfl, fun _ _ h => h⟩
instance {α β B : Type} [Rp α] [Rp β] [Rp B] : Deep (T3 α β (List B)) := ⟨fun x ys => ⟨x.a, x.b, ys⟩, fun x q => TupV [Dat x.a, Dat x.b, Ref q], fun _ _ => rfl, fun _ _ _ => rfl, fun _ => rfl, fun _ _ ⟨p, u, v, w, h1, h2, h3, h4, h5⟩ => ⟨p, [u, v, w], h1, h2, .cons h3 (.cons h4 (.cons h5 .nil))⟩⟩
instance {α B : Type} [Rp α] [Rp B] : Deep (T3 α (List B) Int) := ⟨fun x ys => ⟨x.a, ys, x.c⟩, fun x q => TupV [Dat x.a, Ref q, Dat x.c], fun _ _ => rfl, fun _ _ _ => rfl, fun _ => rfl, fun _ _ ⟨p, u, v, w, h1, h2, h3, h4, h5⟩ => ⟨p, [u, v, w], h1, h2, .cons h3 (.cons h4 (.cons h5 .nil))⟩⟩
section
variable {X : Cx} {W : WX} {Γ Γ' : Slots} {T T' T2 : Th} {rest sts body : List Stmt} {st : Stmt} {D D' : Po} {o i e tg iter elt : Expr} {pos pos' apos : Pos} {p q : Addr} {ρ α β : VR}
theorem je_entB (h1 : TEnt T T2) (h2 : TEnt T2 T) (h : JE X Γ T2 e ρ) : JE X Γ T e ρ := fun F σ L Lf H s t ow Q k => by
  obtain ⟨L', t', o'⟩ := h1.own t ow
  refine h F σ L' Lf H s t' o' Q fun F' M' H' v e' t2 o2 r => ?_
  obtain ⟨L2, t3, o3⟩ := h2.own t2 o2
  exact k F' L2 H' v e' t3 o3 r
theorem jt_entB {k : Bool} (h1 : TEnt T T2) (h2 : TEnt T2 T) (h : JT X Γ T2 e k) : JT X Γ T e k := fun F σ L Lf H s t ow Q kk => by
  obtain ⟨L', t', o'⟩ := h1.own t ow
  refine h F σ L' Lf H s t' o' Q fun F' M' H' e' t2 o2 => ?_
  obtain ⟨L2, t3, o3⟩ := h2.own t2 o2
  exact kk F' L2 H' e' t3 o3
theorem jg_as {put : Slots → Slots} {ws : List Nat} (h : JG X tg β put ws) (f : ∀ F v, α.rel F v → β.rel F v) : JG X tg α put ws := fun Γ T F σ L Lf H v s t o r Q k => h Γ T F σ L Lf H v s t o (f _ _ r) Q k
theorem atS_ent {P P' : Slots → Th → Prop} {F : Hp} {Lf : List Cell} {σ : L2.St} {H : Hp} (f : ∀ Γ T, P Γ T → ∃ T2, TEnt T T2 ∧ P' Γ T2) (h : atS P F Lf σ H) : atS P' F Lf σ H := by
  obtain ⟨Γ, T, F1, L, h1, h2, h3, h4, h5⟩ := h
  obtain ⟨T2, e, h6⟩ := f Γ T h1
  obtain ⟨L', t', o'⟩ := e.own h4 h5
  exact ⟨Γ, T2, F1, L', h6, h2, h3, t', o'⟩
/-- what is owned behind, seen in another way -/
structure Po.Ent (D D' : Po) : Prop where
  nx : ∀ Γ T, D.nx Γ T → ∃ T2, TEnt T T2 ∧ D'.nx Γ T2
  bk : ∀ Γ T, D.bk Γ T → ∃ T2, TEnt T T2 ∧ D'.bk Γ T2
  ct : ∀ Γ T, D.ct Γ T → ∃ T2, TEnt T T2 ∧ D'.ct Γ T2
  rt : ∀ ρ T, D.rt ρ T → D'.rt ρ T
  xr : ∀ c T, D.xr c T → D'.xr c T
theorem ends_ent (h : D.Ent D') {F : Hp} {Lf : List Cell} : EndsLe (D.ends F Lf) (D'.ends F Lf) := ⟨fun _ _ => atS_ent h.nx, fun _ _ => atV_le (Same.refl F) h.rt, fun _ _ => atS_ent h.bk, fun _ _ => atS_ent h.ct⟩
theorem js_post (h : JS X W Γ T st D) (l : D.Ent D') : JS X W Γ T st D' := fun F σ L Lf H s t o x => ws_le (ends_ent l) (h F σ L Lf H s t o (x.mono (Same.refl F) l.xr))
theorem jss_post (h : JSs X W Γ T sts D) (l : D.Ent D') : JSs X W Γ T sts D' := fun F σ L Lf H s t o x => wss_le (ends_ent l) (h F σ L Lf H s t o (x.mono (Same.refl F) l.xr))
theorem set_pick {α : Type} {l : List α} {n : Nat} (h : n < l.length) (y : α) : (l.set n y).Perm (y :: l.eraseIdx n) := by
  have := perm_pick (l := l.set n y) n (x := y) (List.getElem?_set_self h)
  rwa [List.eraseIdx_set_eq] at this
end
abbrev OH {Sh : Type} [Rp Sh] (S : List Sh) (B : Th) : OV := OTh (OL S) B
theorem rdm_oth {Sh : Type} [Rp Sh] {T : Th} {p : Addr} {S : List Sh} {B : Th} (k : Nat) (h : T[k]? = some (p, OH S B)) : Rdm T (Ref p) S := fun F L Lf H v t o r => by
  obtain ⟨Lk, Lr, ⟨L1, L2, ⟨vs, h1, h2⟩, _, h4⟩, o'⟩ := t.cell o h
  subst h2 h4
  exact ⟨p, vs, r, o'.cel (p, .lst vs) (List.mem_append_left _ (List.mem_append_left _ (List.mem_singleton.mpr rfl))), h1⟩
section
variable {A : Type} [Part A] [Deep A]
/-- the i-th item's list, at q, is taken out of what p holds -/
structure Hole (xs : List A) (i : Nat) (q : Addr) (S : List (Part.Sh A)) (B : Th) : Prop where
  ex : ∃ qs : List Addr, qs.length = xs.length ∧ qs[i]? = some q ∧ S = shs xs qs ∧ B = (blk xs qs).eraseIdx i
variable {X : Cx} {W : WX} {Γ Γ' : Slots} {T T' T2 : Th} {rest sts body : List Stmt} {st : Stmt} {D D' : Po} {o i e tg iter elt : Expr} {pos pos' apos : Pos} {p q : Addr} {ρ α β : VR} {xs ys : List A} {S : List (Part.Sh A)} {B : Th} {n : Nat}
theorem blk_len {xs : List A} {qs : List Addr} (h : qs.length = xs.length) : (blk xs qs).length = xs.length := by unfold blk; rw [List.length_zipWith, h, Nat.min_self]
theorem TEnt.holeO {qs : List Addr} {j : Nat} {x : A} (hx : xs[j]? = some x) (hq : qs[j]? = some q) : TEnt ((p, OH S (blk xs qs)) :: T) ((q, OL (Part.get x)) :: (p, OH S ((blk xs qs).eraseIdx j)) :: T) := by
  have h1 := blk_at hx hq
  refine (TEnt.othO).trans (TEnt.trans (T1 := (q, OL (Part.get x)) :: (p, OL S) :: ((blk xs qs).eraseIdx j ++ T)) (TEnt.perm ?_) ((TEnt.othC).cons _))
  exact ((List.Perm.append_right T (perm_pick j h1)).cons _).trans (List.Perm.swap _ _ _)
theorem TEnt.holeC {qs : List Addr} {j : Nat} {y : A} (hj : j < xs.length) (hq : qs[j]? = some q) (hl : qs.length = xs.length) : TEnt ((q, OL (Part.get y)) :: (p, OH S ((blk xs qs).eraseIdx j)) :: T) ((p, OH S (blk (xs.set j y) qs)) :: T) := by
  rw [blk_set hq]
  have h1 : (blk xs qs)[j]? = some ((blk xs qs)[j]'(by rw [blk_len hl]; exact hj)) := List.getElem?_eq_getElem _
  have h2 := perm_back (y := (q, OL (Part.get y))) j h1
  refine TEnt.trans (T1 := (p, OL S) :: ((blk xs qs).set j (q, OL (Part.get y)) ++ T)) ?_ (TEnt.othC)
  refine ((TEnt.othO).cons _).trans (TEnt.perm ?_)
  exact (List.Perm.swap _ _ _).trans ((List.Perm.append_right T h2).cons _)
theorem Hole.close {j : Nat} {x : A} {zs : List (Part.B A)} (h : Hole xs j q S B) (hx : xs[j]? = some x) : TEnt ((q, OL zs) :: (p, OH S B) :: T) ((p, OP (xs.set j (Deep.put x zs))) :: T) := by
  obtain ⟨qs, h1, h2, h3, h4⟩ := h.ex
  subst h3 h4
  have hj := (List.getElem?_eq_some_iff.mp hx).1
  have e : zs = Part.get (Deep.put x zs) := (Deep.getp x zs).symm
  have e2 : shs xs qs = shs (xs.set j (Deep.put x zs)) qs := (shs_set hx fun q => Deep.wip x zs q).symm
  have h5 := TEnt.holeC (p := p) (S := shs xs qs) (y := Deep.put x zs) (T := T) hj h2 h1
  rw [← e] at h5
  refine h5.trans ?_
  rw [e2]
  exact TEnt.opC (by rw [List.length_set]; exact h1)
theorem Hole.back {j : Nat} {x : A} (h : Hole xs j q S B) (hx : xs[j]? = some x) : TEnt ((q, OL (Part.get x)) :: (p, OH S B) :: T) ((p, OP xs) :: T) := by
  have := h.close (p := p) (T := T) (zs := Part.get x) hx
  rw [Deep.putg, List.set_eq_of_getElem? hx] at this
  exact this
where
  List.set_eq_of_getElem? {α : Type} {l : List α} {n : Nat} {x : α} (h : l[n]? = some x) : l.set n x = l := by
    obtain ⟨h1, h2⟩ := List.getElem?_eq_some_iff.mp h
    rw [← h2, List.set_getElem_self]
/-- opened where it stands -/
theorem js_openQ (n : Nat) (hk : T[n]? = some (p, OP xs)) (h : ∀ qs : List Addr, qs.length = xs.length → JSs X W Γ (T.set n (p, OH (shs xs qs) (blk xs qs))) sts D) : JSs X W Γ T sts D :=
  js_openP n hk fun qs hq => js_ent (TEnt.perm (set_pick (List.getElem?_eq_some_iff.mp hk).1 _).symm) (h qs hq)
theorem jq_open (n : Nat) (hk : T[n]? = some (p, OP xs)) {F : Hp} {L : List Cell} (t : TR F T L) : ∃ qs : List Addr, qs.length = xs.length ∧ ∃ L', L'.Perm L ∧ TR F (T.set n (p, OH (shs xs qs) (blk xs qs))) L' := by
  obtain ⟨L', pm, t'⟩ := t.perm (perm_pick n hk)
  cases t' with
  | cons a t2 =>
    obtain ⟨qs, hq, a⟩ := a
    obtain ⟨L2, pm2, t3⟩ := TR.perm (set_pick (List.getElem?_eq_some_iff.mp hk).1 (p, OH (shs xs qs) (blk xs qs))).symm (.cons a t2)
    exact ⟨qs, hq, L2, pm2.trans pm, t3⟩
theorem TEnt.opN (hn : n < T.length) {qs : List Addr} (h : qs.length = xs.length) : TEnt (T.set n (p, OH (shs xs qs) (blk xs qs))) (T.set n (p, OP xs)) :=
  (TEnt.perm (set_pick hn _)).trans ((TEnt.opC h).trans (TEnt.perm (set_pick hn _).symm))
theorem set_at {α : Type} {l : List α} {n : Nat} {x : α} (h : l[n]? = some x) : l.set n x = l := by
  obtain ⟨h1, h2⟩ := List.getElem?_eq_some_iff.mp h
  rw [← h2, List.set_getElem_self]
theorem je_openQ (n : Nat) (hk : T[n]? = some (p, OP xs)) (h : ∀ qs : List Addr, qs.length = xs.length → JE X Γ (T.set n (p, OH (shs xs qs) (blk xs qs))) e ρ) : JE X Γ T e ρ := fun F σ L Lf H s t ow Q k => by
  obtain ⟨qs, hq, L', pm, t'⟩ := jq_open n hk t
  refine h qs hq F σ L' Lf H s t' (ow.perm (pm.symm.append_right Lf)) Q fun F' M' H' v e' t2 o2 r => ?_
  have c := TEnt.opN (p := p) (List.getElem?_eq_some_iff.mp hk).1 hq
  rw [set_at hk] at c
  obtain ⟨L2, t3, o3⟩ := c.own t2 o2
  exact k F' L2 H' v e' t3 o3 r
theorem TEnt.holeOn (hn : n < T.length) {qs : List Addr} {j : Nat} {x : A} (hx : xs[j]? = some x) (hq : qs[j]? = some q) : TEnt (T.set n (p, OH S (blk xs qs))) ((q, OL (Part.get x)) :: T.set n (p, OH S ((blk xs qs).eraseIdx j))) :=
  (TEnt.perm (set_pick hn _)).trans ((TEnt.holeO hx hq).trans ((TEnt.perm (set_pick hn _).symm).cons _))
theorem TEnt.holeCn (hn : n < T.length) {qs : List Addr} {j : Nat} {y : A} {zs : List (Part.B A)} (hj : j < xs.length) (hq : qs[j]? = some q) (hl : qs.length = xs.length) (hy : Part.get y = zs) : TEnt ((q, OL zs) :: T.set n (p, OH S ((blk xs qs).eraseIdx j))) (T.set n (p, OH S (blk (xs.set j y) qs))) := by
  subst hy
  exact ((TEnt.perm (set_pick hn _)).cons _).trans ((TEnt.holeC hj hq hl).trans (TEnt.perm (set_pick hn _).symm))
/-- a walk, the items' lists opened one after another -/
theorem js_forPG {St : Type} (n : Nat) (hk : T[n]? = some (p, OP xs)) (hp : PassesOwn (model X.prog X.w) X.A X.env X.xe) (hc : X.calm = true) (hi : ∀ u, JE X Γ (T.set n (p, u)) iter (Ref p)) (Inv : Nat → St → List A → Prop) (Γs : St → Slots) (Ts : St → Th) (s0 : St)
    (h0 : Inv 0 s0 xs) (hΓ : Wk Γ (Γs s0)) (hT : T = Ts s0) (hz : ∀ s, n < (Ts s).length)
    (turn : ∀ i x s ys q Sh B, xs[i]? = some x → ys[i]? = some x → Inv i s ys → Hole ys i q Sh B → ∃ put ws, JG X tg (Deep.vr x q) put ws ∧ JSs X W (put (Γs s)) ((q, OL (Part.get x)) :: (Ts s).set n (p, OH Sh B)) body { D with
      nx := fun Γ' T' => ∃ s' zs, Inv (i + 1) s' (ys.set i (Deep.put x zs)) ∧ Wk Γ' (Γs s') ∧ T' = (q, OL zs) :: (Ts s').set n (p, OH Sh B)
      ct := fun Γ' T' => ∃ s' zs, Inv (i + 1) s' (ys.set i (Deep.put x zs)) ∧ Wk Γ' (Γs s') ∧ T' = (q, OL zs) :: (Ts s').set n (p, OH Sh B)
      bk := fun Γ' T' => ∃ s' zs, T' = (q, OL zs) :: (Ts s').set n (p, OH Sh B) ∧ D.nx Γ' ((Ts s').set n (p, OP (ys.set i (Deep.put x zs)))) })
    (fin : ∀ s ys, Inv xs.length s ys → D.nx (Γs s) ((Ts s).set n (p, OP ys))) (hs : ∀ x, foldedSetIterable iter X.env x = pure x := by exact folded_no rfl) : JS X W Γ T (.For tg iter body [] pos) D := fun F σ L Lf H sr t o w => by
  obtain ⟨qs, hq, L0, pm, t0⟩ := jq_open n hk t
  let D1 : Po := { D with nx := fun Γ' T' => ∃ (s : St) (ys : List A), ys.length = xs.length ∧ T' = (Ts s).set n (p, OH (shs ys qs) (blk ys qs)) ∧ D.nx Γ' ((Ts s).set n (p, OP ys)) }
  have key : JS X W Γ (T.set n (p, OH (shs xs qs) (blk xs qs))) (.For tg iter body [] pos) D1 := by
    refine js_for (D := D1) (ρs := (shs xs qs).map Dat) (S := St × List A) (ok := fun T' => ∃ B : Th, T'[n]? = some (p, OH (shs xs qs) B)) hp hc (ji_list _ (hi _) fun T' hT' => ?_) (fun i s => Inv i s.1 s.2 ∧ s.2.length = xs.length ∧ (∀ j, i ≤ j → s.2[j]? = xs[j]?) ∧ shs s.2 qs = shs xs qs) (fun s => Γs s.1) (fun s => (Ts s.1).set n (p, OH (shs xs qs) (blk s.2 qs))) (s0, xs) ⟨h0, rfl, fun _ _ => rfl, rfl⟩ hΓ (by rw [hT]) (fun i s _ => ⟨_, List.getElem?_set_self (hz s.1)⟩) (fun i ρ s hρ ⟨i1, i2, i3, i4⟩ => ?_) (fun s ⟨i1, i2, i3, i4⟩ => ?_) hs
    · obtain ⟨B', hB⟩ : ∃ B : Th, T'[n]? = some (p, OH (shs xs qs) B) := by
        rcases hT' with rfl | h
        · exact ⟨_, List.getElem?_set_self (List.getElem?_eq_some_iff.mp hk).1⟩
        · exact h
      exact (rdm_oth n hB).rd
    · obtain ⟨s, ys⟩ := s
      have i2 : ys.length = xs.length := i2
      have i4 : shs ys qs = shs xs qs := i4
      have hl : i < (shs xs qs).length := by
        have := (List.getElem?_eq_some_iff.mp hρ).1
        rwa [List.length_map] at this
      have hxl : i < xs.length := by unfold shs at hl; rw [List.length_zipWith] at hl; omega
      have hx : xs[i]? = some (xs[i]'hxl) := List.getElem?_eq_getElem hxl
      have hqa : qs[i]? = some (qs[i]'(by omega)) := List.getElem?_eq_getElem _
      generalize xs[i]'hxl = x at hx
      generalize qs[i]'(by omega) = q at hqa
      have hy : ys[i]? = some x := (i3 i (Nat.le_refl _)).trans hx
      rw [List.getElem?_map, shs_at hx hqa] at hρ
      cases hρ
      obtain ⟨put, ws, hg, hb⟩ := turn i x s ys q (shs xs qs) ((blk ys qs).eraseIdx i) hx hy i1 ⟨qs, by omega, hqa, i4.symm, rfl⟩
      refine ⟨put, ws, jg_as hg fun F v r => Deep.vrok x q r, ?_⟩
      refine js_ent (TEnt.holeOn (hz s) hy hqa) (jss_post hb ?_)
      have step : ∀ (s' : St) (zs : List (Part.B A)), Inv (i + 1) s' (ys.set i (Deep.put x zs)) → (Inv (i + 1) s' (ys.set i (Deep.put x zs)) ∧ (ys.set i (Deep.put x zs)).length = xs.length ∧ (∀ j, i + 1 ≤ j → (ys.set i (Deep.put x zs))[j]? = xs[j]?) ∧ shs (ys.set i (Deep.put x zs)) qs = shs xs qs) := fun s' zs h => by
        refine ⟨h, by rw [List.length_set]; exact i2, fun j hj => ?_, by rw [shs_set hy fun q => Deep.wip x zs q]; exact i4⟩
        rw [List.getElem?_set_ne (by omega)]
        exact i3 j (by omega)
      have en : ∀ (s' : St) (zs : List (Part.B A)), TEnt ((q, OL zs) :: (Ts s').set n (p, OH (shs xs qs) ((blk ys qs).eraseIdx i))) ((Ts s').set n (p, OH (shs xs qs) (blk (ys.set i (Deep.put x zs)) qs))) := fun s' zs => TEnt.holeCn (hz s') (by omega) hqa (by omega) (Deep.getp x zs)
      refine ⟨fun Γ' T' ⟨s', zs, h1, h2, h3⟩ => ⟨_, h3 ▸ en s' zs, (s', ys.set i (Deep.put x zs)), step s' zs h1, h2, rfl⟩, fun Γ' T' ⟨s', zs, h1, h2⟩ => ⟨_, h1 ▸ en s' zs, s', ys.set i (Deep.put x zs), by rw [List.length_set]; exact i2, by rw [shs_set hy fun q => Deep.wip x zs q, i4], h2⟩, fun Γ' T' ⟨s', zs, h1, h2, h3⟩ => ⟨_, h3 ▸ en s' zs, (s', ys.set i (Deep.put x zs)), step s' zs h1, h2, rfl⟩, fun _ _ h => h, fun _ _ h => h⟩
    · have hsl : ((shs xs qs).map (Dat : Part.Sh A → VR)).length = xs.length := by rw [List.length_map]; unfold shs; rw [List.length_zipWith, hq, Nat.min_self]
      rw [hsl] at i1
      exact ⟨s.1, s.2, i2, by rw [i4], fin s.1 s.2 i1⟩
  have full : JS X W Γ (T.set n (p, OH (shs xs qs) (blk xs qs))) (.For tg iter body [] pos) D := by
    refine js_post key ⟨fun Γ' T' ⟨s, ys, h1, h2, h3⟩ => ⟨_, ?_, h3⟩, fun _ T h => ⟨T, TEnt.refl T, h⟩, fun _ T h => ⟨T, TEnt.refl T, h⟩, fun _ _ h => h, fun _ _ h => h⟩
    rw [h2]
    exact TEnt.opN (hz s) (by omega)
  exact full F σ L0 Lf H sr t0 (o.perm (pm.symm.append_right Lf)) w
/-- .. and nothing changed of them -/
theorem js_forPO {St : Type} {f : St → A → Option St} {s0 sN : St} (n : Nat) (hk : T[n]? = some (p, OP xs)) (hm : foldO f s0 xs = some sN) (Γs : St → Slots) (Ts : St → Th) (hp : PassesOwn (model X.prog X.w) X.A X.env X.xe) (hc : X.calm = true) (hi : ∀ T', JE X Γ T' iter (Ref p)) (hΓ : Wk Γ (Γs s0)) (hT : T = Ts s0) (hz : ∀ s, (Ts s)[n]? = some (p, OP xs))
    (turn : ∀ q Sh B i x s s', xs[i]? = some x → Hole xs i q Sh B → f s x = some s' → ∃ put ws, JG X tg (Deep.vr x q) put ws ∧ JSs X W (put (Γs s)) ((q, OL (Part.get x)) :: (Ts s).set n (p, OH Sh B)) body { D with nx := fun Γ' T' => Wk Γ' (Γs s') ∧ T' = (q, OL (Part.get x)) :: (Ts s').set n (p, OH Sh B), ct := fun Γ' T' => Wk Γ' (Γs s') ∧ T' = (q, OL (Part.get x)) :: (Ts s').set n (p, OH Sh B), bk := fun _ _ => False })
    (fin : JSs X W (Γs sN) (Ts sN) rest D) (hs : ∀ x, foldedSetIterable iter X.env x = pure x := by exact folded_no rfl) : JSs X W Γ T (.For tg iter body [] pos :: rest) D := by
  refine js_cons (M := fun Γ' T' => Γ' = Γs sN ∧ T' = Ts sN) ?_ fun _ _ ⟨a, b⟩ => by subst a b; exact fin
  refine js_forPG n hk hp hc (fun u => hi _) (fun i s ys => ys = xs ∧ foldO f s (xs.drop i) = some sN) Γs Ts s0 ⟨rfl, by simpa using hm⟩ hΓ hT (fun s => (List.getElem?_eq_some_iff.mp (hz s)).1) (fun i x s ys q Sh B hx hy ⟨e, inv⟩ hh => ?_) (fun s ys ⟨e, inv⟩ => ?_) hs
  · subst e
    obtain ⟨hl, hx'⟩ := List.getElem?_eq_some_iff.mp hx
    rw [List.drop_eq_getElem_cons hl, hx'] at inv
    obtain ⟨s', h1, h2⟩ := obind inv
    obtain ⟨put, ws, hg, hb⟩ := turn q Sh B i x s s' hx hh h1
    have e : ys.set i (Deep.put x (Part.get x)) = ys := by rw [Deep.putg]; exact set_at hx
    exact ⟨put, ws, hg, jss_le hb ⟨fun _ _ ⟨a, b⟩ => ⟨s', _, ⟨e, h2⟩, a, b⟩, fun _ _ q => q, fun _ _ q => q.elim, fun _ _ ⟨a, b⟩ => ⟨s', _, ⟨e, h2⟩, a, b⟩, fun _ _ q => q⟩⟩
  · subst e
    rw [List.drop_length] at inv
    cases inv
    exact ⟨rfl, set_at (hz _)⟩
theorem js_forPC {St R : Type} {f : St → A → Option (Ctl St R)} {s0 : St} {r : Ctl St R} (n : Nat) (hk : T[n]? = some (p, OP xs)) (hm : foldC f s0 xs = some r) (Γs : St → Slots) (Ts : St → Th) (hp : PassesOwn (model X.prog X.w) X.A X.env X.xe) (hc : X.calm = true) (hi : ∀ T', JE X Γ T' iter (Ref p)) (hΓ : Wk Γ (Γs s0)) (hT : T = Ts s0) (hz : ∀ s, (Ts s)[n]? = some (p, OP xs))
    (turn : ∀ q Sh B i x s r', xs[i]? = some x → Hole xs i q Sh B → f s x = some r' → (∀ q, r' = .ret q → r = .ret q) → ∃ put ws, JG X tg (Deep.vr x q) put ws ∧ JSs X W (put (Γs s)) ((q, OL (Part.get x)) :: (Ts s).set n (p, OH Sh B)) body { D with nx := fun Γ' T' => ∃ s', r' = .go s' ∧ Wk Γ' (Γs s') ∧ T' = (q, OL (Part.get x)) :: (Ts s').set n (p, OH Sh B), ct := fun Γ' T' => ∃ s', r' = .go s' ∧ Wk Γ' (Γs s') ∧ T' = (q, OL (Part.get x)) :: (Ts s').set n (p, OH Sh B), bk := fun Γ' T' => ∃ s', r' = .brk s' ∧ Wk Γ' (Γs s') ∧ T' = (q, OL (Part.get x)) :: (Ts s').set n (p, OH Sh B) })
    (fin : ∀ s, r = .go s → JSs X W (Γs s) (Ts s) rest D) (hs : ∀ x, foldedSetIterable iter X.env x = pure x := by exact folded_no rfl) : JSs X W Γ T (.For tg iter body [] pos :: rest) D := by
  refine js_cons (M := fun Γ' T' => ∃ s, r = .go s ∧ Wk Γ' (Γs s) ∧ T' = Ts s) ?_ fun _ _ ⟨s, h, a, b⟩ => by subst b; exact js_wk a (fin s h)
  refine js_forPG n hk hp hc (fun u => hi _) (fun i s ys => ys = xs ∧ foldC f s (xs.drop i) = some r) Γs Ts s0 ⟨rfl, by simpa using hm⟩ hΓ hT (fun s => (List.getElem?_eq_some_iff.mp (hz s)).1) (fun i x s ys q Sh B hx hy ⟨e, inv⟩ hh => ?_) (fun s ys ⟨e, inv⟩ => ?_) hs
  · subst e
    obtain ⟨hl, hx'⟩ := List.getElem?_eq_some_iff.mp hx
    rw [List.drop_eq_getElem_cons hl, hx'] at inv
    obtain ⟨r', h1, h2⟩ := obind inv
    obtain ⟨put, ws, hg, hb⟩ := turn q Sh B i x s r' hx hh h1 (fun q e => by subst e; cases h2; rfl)
    have e : ys.set i (Deep.put x (Part.get x)) = ys := by rw [Deep.putg]; exact set_at hx
    refine ⟨put, ws, hg, jss_le hb ⟨fun _ _ ⟨s', e', a, b⟩ => ⟨s', _, ⟨e, by subst e'; exact h2⟩, a, b⟩, fun _ _ q => q, fun Γ' T' ⟨s', e', a, b⟩ => ⟨s', _, b, ?_⟩, fun _ _ ⟨s', e', a, b⟩ => ⟨s', _, ⟨e, by subst e'; exact h2⟩, a, b⟩, fun _ _ q => q⟩⟩
    subst e'
    cases h2
    exact ⟨s', rfl, a, by rw [e, set_at (hz s')]⟩
  · subst e
    rw [List.drop_length] at inv
    cases inv
    exact ⟨s, rfl, Wk.refl _, set_at (hz s)⟩
theorem set_mid {α : Type} {as bs : List α} {x y : α} {k : Nat} (h : as.length = k) : (as ++ x :: bs).set k y = (as ++ [y]) ++ bs := by
  subst h
  rw [List.set_append_right _ _ (Nat.le_refl _), Nat.sub_self, List.set_cons_zero, List.append_assoc]
  rfl
/-- .. their lists changed -/
theorem js_forPX {St : Type} {f : St → A → Option St} {s0 sN : St} (acc : St → List A) (n : Nat) (hk : T[n]? = some (p, OP xs)) (hm : foldO f s0 xs = some sN) (Γs : St → Slots) (Ts : St → Th) (hp : PassesOwn (model X.prog X.w) X.A X.env X.xe) (hc : X.calm = true) (hi : ∀ T', JE X Γ T' iter (Ref p)) (hΓ : Wk Γ (Γs s0)) (hT : T = Ts s0) (h0 : acc s0 = []) (hz : ∀ s, n < (Ts s).length)
    (turn : ∀ q Sh B i x s s', (∃ ys : List A, Hole ys i q Sh B ∧ ys[i]? = some x) → f s x = some s' → ∃ put ws, JG X tg (Deep.vr x q) put ws ∧ JSs X W (put (Γs s)) ((q, OL (Part.get x)) :: (Ts s).set n (p, OH Sh B)) body { D with nx := fun Γ' T' => Wk Γ' (Γs s') ∧ ∃ zs, acc s' = acc s ++ [Deep.put x zs] ∧ T' = (q, OL zs) :: (Ts s').set n (p, OH Sh B), ct := fun Γ' T' => Wk Γ' (Γs s') ∧ ∃ zs, acc s' = acc s ++ [Deep.put x zs] ∧ T' = (q, OL zs) :: (Ts s').set n (p, OH Sh B), bk := fun _ _ => False })
    (fin : JSs X W (Γs sN) ((Ts sN).set n (p, OP (acc sN))) rest D) (hs : ∀ x, foldedSetIterable iter X.env x = pure x := by exact folded_no rfl) : JSs X W Γ T (.For tg iter body [] pos :: rest) D := by
  refine js_cons (M := fun Γ' T' => Γ' = Γs sN ∧ T' = (Ts sN).set n (p, OP (acc sN))) ?_ fun _ _ ⟨a, b⟩ => by subst a b; exact fin
  refine js_forPG n hk hp hc (fun u => hi _) (fun i s ys => ys = acc s ++ xs.drop i ∧ (acc s).length = i ∧ foldO f s (xs.drop i) = some sN) Γs Ts s0 ⟨by rw [h0]; rfl, by rw [h0]; rfl, by simpa using hm⟩ hΓ hT hz (fun i x s ys q Sh B hx hy ⟨e, el, inv⟩ hh => ?_) (fun s ys ⟨e, el, inv⟩ => ?_) hs
  · obtain ⟨hl, hx'⟩ := List.getElem?_eq_some_iff.mp hx
    rw [List.drop_eq_getElem_cons hl, hx'] at inv
    obtain ⟨s', h1, h2⟩ := obind inv
    obtain ⟨put, ws, hg, hb⟩ := turn q Sh B i x s s' ⟨ys, hh, hy⟩ h1
    have nx : ∀ zs, acc s' = acc s ++ [Deep.put x zs] → (ys.set i (Deep.put x zs) = acc s' ++ xs.drop (i + 1) ∧ (acc s').length = i + 1 ∧ foldO f s' (xs.drop (i + 1)) = some sN) := fun zs ha => by
      refine ⟨?_, by rw [ha, List.length_append, el]; rfl, h2⟩
      rw [e, List.drop_eq_getElem_cons hl, set_mid el, ha]
    exact ⟨put, ws, hg, jss_le hb ⟨fun _ _ ⟨a, zs, b, c⟩ => ⟨s', zs, nx zs b, a, c⟩, fun _ _ q => q, fun _ _ q => q.elim, fun _ _ ⟨a, zs, b, c⟩ => ⟨s', zs, nx zs b, a, c⟩, fun _ _ q => q⟩⟩
  · rw [List.drop_length] at inv e
    cases inv
    rw [e, List.append_nil]
    exact ⟨rfl, rfl⟩
theorem js_forPXC {St R : Type} {f : St → A → Option (Ctl St R)} {s0 : St} {r : Ctl St R} (acc : St → List A) (n : Nat) (hk : T[n]? = some (p, OP xs)) (hm : foldC f s0 xs = some r) (Γs : St → Slots) (Ts : St → Th) (hp : PassesOwn (model X.prog X.w) X.A X.env X.xe) (hc : X.calm = true) (hi : ∀ T', JE X Γ T' iter (Ref p)) (hΓ : Wk Γ (Γs s0)) (hT : T = Ts s0) (h0 : acc s0 = []) (hz : ∀ s, n < (Ts s).length)
    (turn : ∀ q Sh B i x s r', (∃ ys : List A, Hole ys i q Sh B ∧ ys[i]? = some x) → f s x = some r' → (∀ q, r' = .ret q → r = .ret q) → ∃ put ws, JG X tg (Deep.vr x q) put ws ∧ JSs X W (put (Γs s)) ((q, OL (Part.get x)) :: (Ts s).set n (p, OH Sh B)) body { D with nx := fun Γ' T' => ∃ s', r' = .go s' ∧ Wk Γ' (Γs s') ∧ ∃ zs, acc s' = acc s ++ [Deep.put x zs] ∧ T' = (q, OL zs) :: (Ts s').set n (p, OH Sh B), ct := fun Γ' T' => ∃ s', r' = .go s' ∧ Wk Γ' (Γs s') ∧ ∃ zs, acc s' = acc s ++ [Deep.put x zs] ∧ T' = (q, OL zs) :: (Ts s').set n (p, OH Sh B), bk := fun _ _ => False })
    (fin : ∀ s, r = .go s → JSs X W (Γs s) ((Ts s).set n (p, OP (acc s))) rest D) (hs : ∀ x, foldedSetIterable iter X.env x = pure x := by exact folded_no rfl) : JSs X W Γ T (.For tg iter body [] pos :: rest) D := by
  refine js_cons (M := fun Γ' T' => ∃ s, r = .go s ∧ Wk Γ' (Γs s) ∧ T' = (Ts s).set n (p, OP (acc s))) ?_ fun _ _ ⟨s, h, a, b⟩ => by subst b; exact js_wk a (fin s h)
  refine js_forPG n hk hp hc (fun u => hi _) (fun i s ys => ys = acc s ++ xs.drop i ∧ (acc s).length = i ∧ foldC f s (xs.drop i) = some r) Γs Ts s0 ⟨by rw [h0]; rfl, by rw [h0]; rfl, by simpa using hm⟩ hΓ hT hz (fun i x s ys q Sh B hx hy ⟨e, el, inv⟩ hh => ?_) (fun s ys ⟨e, el, inv⟩ => ?_) hs
  · obtain ⟨hl, hx'⟩ := List.getElem?_eq_some_iff.mp hx
    rw [List.drop_eq_getElem_cons hl, hx'] at inv
    obtain ⟨r', h1, h2⟩ := obind inv
    obtain ⟨put, ws, hg, hb⟩ := turn q Sh B i x s r' ⟨ys, hh, hy⟩ h1 (fun q e => by subst e; cases h2; rfl)
    have nx : ∀ s' zs, r' = .go s' → acc s' = acc s ++ [Deep.put x zs] → (ys.set i (Deep.put x zs) = acc s' ++ xs.drop (i + 1) ∧ (acc s').length = i + 1 ∧ foldC f s' (xs.drop (i + 1)) = some r) := fun s' zs e' ha => by
      refine ⟨?_, by rw [ha, List.length_append, el]; rfl, by subst e'; exact h2⟩
      rw [e, List.drop_eq_getElem_cons hl, set_mid el, ha]
    exact ⟨put, ws, hg, jss_le hb ⟨fun _ _ ⟨s', e', a, zs, b, c⟩ => ⟨s', zs, nx s' zs e' b, a, c⟩, fun _ _ q => q, fun _ _ q => q.elim, fun _ _ ⟨s', e', a, zs, b, c⟩ => ⟨s', zs, nx s' zs e' b, a, c⟩, fun _ _ q => q⟩⟩
  · rw [List.drop_length] at inv e
    cases inv
    rw [e, List.append_nil]
    exact ⟨s, rfl, Wk.refl _, rfl⟩
/-- opened at a place -/
theorem js_openI (n : Nat) (hk : T[n]? = some (p, OP xs)) {j : Int} {x : A} (hx : atI xs j = some x) (h : ∀ q S B m, Hole xs m q S B → ixN xs.length j = some m → xs[m]? = some x → JSs X W Γ ((q, OL (Part.get x)) :: T.set n (p, OH S B)) sts D) : JSs X W Γ T sts D :=
  js_openQ n hk fun qs hq => by
    unfold atI at hx
    obtain ⟨m, h1, h2⟩ := obind hx
    have hm := (List.getElem?_eq_some_iff.mp h2).1
    have hqa : qs[m]? = some (qs[m]'(by omega)) := List.getElem?_eq_getElem _
    exact js_ent (TEnt.holeOn (List.getElem?_eq_some_iff.mp hk).1 h2 hqa) (h _ _ _ m ⟨qs, hq, hqa, rfl, rfl⟩ h1 h2)
theorem je_openI (n : Nat) (hk : T[n]? = some (p, OP xs)) {j : Int} {x : A} (hx : atI xs j = some x) (h : ∀ q S B m, Hole xs m q S B → ixN xs.length j = some m → xs[m]? = some x → JE X Γ ((q, OL (Part.get x)) :: T.set n (p, OH S B)) e ρ) : JE X Γ T e ρ :=
  je_openQ n hk fun qs hq => by
    unfold atI at hx
    obtain ⟨m, h1, h2⟩ := obind hx
    have hn := (List.getElem?_eq_some_iff.mp hk).1
    have hm := (List.getElem?_eq_some_iff.mp h2).1
    have hqa : qs[m]? = some (qs[m]'(by omega)) := List.getElem?_eq_getElem _
    have c := TEnt.holeCn (p := p) (S := shs xs qs) (y := x) hn hm hqa hq rfl
    rw [set_at h2] at c
    exact je_entB (TEnt.holeOn hn h2 hqa) c (h _ _ _ m ⟨qs, hq, hqa, rfl, rfl⟩ h1 h2)
/-- the item itself, opened -/
theorem je_ixH (k : Nat) {j : Int} {m : Nat} {x : A} (hh : Hole xs m q S B) (hj : ixN xs.length j = some m) (hx : xs[m]? = some x) (hk : T[k]? = some (p, OH S B)) (ho : JE X Γ T o (Ref p)) (hi : JE X Γ T i (Dat j)) (hs : PlainIx i := by exact fun _ _ => rfl) : JE X Γ T (.Subscript o i pos) (Deep.vr x q) := by
  obtain ⟨qs, h1, h2, h3, h4⟩ := hh.ex
  have hS : S.length = xs.length := by rw [h3]; unfold shs; rw [List.length_zipWith, h1, Nat.min_self]
  have e : atI S j = some (Part.wi x q) := by
    unfold atI
    rw [hS, hj, h3]
    exact shs_at hx h2
  exact je_as (je_ixL ho (rdm_oth k hk).rd hi e hs) fun F v r => Deep.vrok x q r
theorem je_lenP {pp : Pos} (k : Nat) (hg : Gl X "len") (hm : X.mg "len" = none) (hk : T[k]? = some (p, OP xs)) (ha : ∀ T', JE X Γ T' e (Ref p)) (hs : starEach [e] X.env = (false, eval e X.env) :: starEach [] X.env := by exact star1 rfl) : JE X Γ T (.Call (.Name "len" pp) [e] [] pos) (Dat (xs.length : Int)) :=
  je_openQ k hk fun qs hq => je_eq (je_lenL hg hm (ha _) (rdm_oth k (List.getElem?_set_self (List.getElem?_eq_some_iff.mp hk).1)).rd hs) (by unfold shs; rw [List.length_zipWith, hq, Nat.min_self])
theorem je_isiP {pp q2 : Pos} {ty : String} {bb : Bool} {f : Str} (k : Nat) (hg : Gl X "isinstance") (hm : X.mg "isinstance" = none) (hk : T[k]? = some (p, OP xs)) (ha : ∀ T', JE X Γ T' e (Ref p)) (hc : PE X (.Name f q2) (tC (.ty ty))) (hb : kitB "list" ty = some bb)
    (hs : starEach [e, .Name f q2] X.env = (false, eval e X.env) :: starEach [.Name f q2] X.env := by exact star1 rfl) (hs' : starEach [.Name f q2] X.env = (false, eval (.Name f q2) X.env) :: starEach [] X.env := by exact star1 rfl) : JE X Γ T (.Call (.Name "isinstance" pp) [e, .Name f q2] [] pos) (Dat bb) :=
  je_openQ k hk fun qs hq => je_isi hg hm (ha _) hc hb (ty_lst (rdm_oth k (List.getElem?_set_self (List.getElem?_eq_some_iff.mp hk).1))) hs hs'
/-- (o[i])[j] -/
theorem je_ixP2 {B : Type} [Rp B] {xss : List (List B)} {j l : Int} {x : List B} {y : B} {b : Expr} (k : Nat) (hk : T[k]? = some (p, OP xss)) (hx : atI xss j = some x) (hy : atI x l = some y) (ho : ∀ T', JE X Γ T' o (Ref p)) (hi : ∀ T', JE X Γ T' i (Dat j)) (hb : ∀ T', JE X Γ T' b (Dat l)) (hs : PlainIx i := by exact fun _ _ => rfl) (hs2 : PlainIx b := by exact fun _ _ => rfl) : JE X Γ T (.Subscript (.Subscript o i pos) b pos') (Dat y) :=
  je_openI k hk hx fun q S B m hh hj hxm => je_ixL (ρ := Ref q) (xs := x) (je_ixH (k + 1) hh hj hxm (by rw [List.getElem?_cons_succ]; exact List.getElem?_set_self (List.getElem?_eq_some_iff.mp hk).1) (ho _) (hi _) hs) (rdl_own 0 rfl) (hb _) hy hs2
/-- let go of what is held: a list, to be made empty -/
theorem js_clrP {Z : Type} [Rp Z] (n : Nat) (hk : T[n]? = some (p, OP xs)) (ho : ∀ T', JE X Γ T' o (Ref p)) (k : JSs X W Γ (T.set n (p, OL ([] : List Z))) rest D) (hp : ∀ {to : TE}, PE X o to → PE X (.Call (.Attribute o "clear" apos) [] [] pos) (tBM0 X.K "list" rClear to) := by exact fun h => pe_bm0 PySem.F.plainAttrs_list PySem.F.slot_list_clear PySem.F.type_list_clear mt_clear h)
    {pos2 : Pos} (hs2 : swapsWith (.Call (.Attribute o "clear" apos) [] [] pos) none pos2.line X.env = pure false := by exact swaps_no rfl) : JSs X W Γ T (.Expr (.Call (.Attribute o "clear" apos) [] [] pos) pos2 :: rest) D :=
  js_openQ n hk fun qs hq => by
    have hn := (List.getElem?_eq_some_iff.mp hk).1
    have en : TEnt (T.set n (p, OH (shs xs qs) (blk xs qs))) (T.set n (p, OL (shs xs qs))) := by
      refine (TEnt.perm (set_pick hn _)).trans ((TEnt.othO).trans (TEnt.trans (T1 := (p, OL (shs xs qs)) :: T.eraseIdx n) (TEnt.cons _ ?_) (TEnt.perm (set_pick hn _).symm)))
      have : ∀ B : Th, TEnt (B ++ T.eraseIdx n) (T.eraseIdx n) := fun B => by
        induction B with
        | nil => exact TEnt.refl _
        | cons x B ih => exact TEnt.drop x ih
      exact this _
    refine js_ent en (js_clr (B := Part.Sh A) (xs := shs xs qs) n (List.getElem?_set_self hn) (ho _) ?_ hp hs2)
    rw [List.set_set]
    have em : TEnt ((p, OL ([] : List (Part.Sh A))) :: T.eraseIdx n) ((p, OL ([] : List Z)) :: T.eraseIdx n) := fun F L t => by
      cases t with
      | cons a t =>
        obtain ⟨vs, h1, h2⟩ := a
        cases h1
        exact ⟨_, [], by rw [List.append_nil], .cons ⟨[], .nil, h2⟩ t⟩
    exact js_ent ((TEnt.perm (set_pick hn _)).trans (em.trans (TEnt.perm (set_pick hn _).symm))) k
/-- a new item put at the end -/
theorem js_appN {y : A} {zs : List A} (n : Nat) (hk : T[n]? = some (p, OP xs)) (hz : appO xs y = some zs) (ho : ∀ T', JE X Γ T' o (Ref p)) (he : ∀ T', JFp X W Γ T' e y) (k : JSs X W Γ (T.set n (p, OP zs)) rest D)
    (hs : starEach [e] X.env = (false, eval e X.env) :: starEach [] X.env := by exact star1 rfl)
    (hp : ∀ {to : TE} {t : TA}, PE X o to → PA X [e] t → PE X (.Call (.Attribute o "append" apos) [e] [] pos) (tBM X.K "list" rAppend to t) := by exact fun h h' => pe_bm PySem.F.plainAttrs_list PySem.F.slot_list_append PySem.F.type_list_append mt_append h h')
    {pos2 : Pos} (hs2 : swapsWith (.Call (.Attribute o "append" apos) [e] [] pos) none pos2.line X.env = pure false := by exact swaps_no rfl) : JSs X W Γ T (.Expr (.Call (.Attribute o "append" apos) [e] [] pos) pos2 :: rest) D :=
  js_openP n hk fun qs hq => by
    obtain ⟨hl, rfl⟩ := of_when hz
    have hsl : (shs xs qs).length = xs.length := by unfold shs; rw [List.length_zipWith, hq, Nat.min_self]
    refine js_ent TEnt.othO (js_appX (B := Part.Sh A) (xs := shs xs qs) 0 rfl (ho _) (jax_cons (jx_le (he _) fun ρ T' ⟨q, h1, h2⟩ => ?_) hs) hp hs2)
    subst h1 h2
    refine jax_nil ⟨1, Part.wi y q, shs xs qs, _, rfl, rfl, when_ok (by rw [hsl]; exact hl), ?_⟩
    refine js_ent ?_ k
    have e1 : shs xs qs ++ [Part.wi y q] = shs (xs ++ [y]) (qs ++ [q]) := by rw [shs_app hq.symm]; rfl
    have e2 : blk xs qs ++ [(q, OL (Part.get y))] = blk (xs ++ [y]) (qs ++ [q]) := by rw [blk_app hq.symm]; rfl
    show TEnt ((q, OL (Part.get y)) :: (p, OL (shs xs qs ++ [Part.wi y q])) :: (blk xs qs ++ T.eraseIdx n)) _
    rw [e1]
    refine TEnt.trans (T1 := (p, OL (shs (xs ++ [y]) (qs ++ [q]))) :: (blk (xs ++ [y]) (qs ++ [q]) ++ T.eraseIdx n)) (TEnt.perm ?_) ((TEnt.othC).trans ((TEnt.opC (by simp [hq])).trans (TEnt.perm (perm_back n hk))))
    rw [← e2, List.append_assoc]
    exact (List.Perm.swap _ _ _).trans (List.Perm.cons _ List.perm_middle.symm)
end
/-! a comprehension over such a list -/
section
variable {A : Type} [Part A] [Deep A] {X : Cx} {W : WX} {Γ : Slots} {T : Th} {tg iter elt : Expr} {pos : Pos} {p : Addr} {xs : List A}
theorem je_lcQ {Z : Type} [Rp Z] {ys : List Z} {m : A → Option Z} {scope : Scope} (own : List (Str × Nat)) (n : Nat) (hk : T[n]? = some (p, OP xs)) (hm : mapB m xs = some ys) (hc : X.calm = true) (hN : X.N.Nodup) (bo : BlkOk X.N X.env.scope scope own) (hi : ∀ T', JE X Γ T' iter (Ref p))
    (turn : ∀ q S B i x y, xs[i]? = some x → Hole xs i q S B → m x = some y → ∃ put ws, (∀ w ∈ ws, w ∈ own.map (·.2)) ∧ Blk X scope (fun Y => JG Y tg (Deep.vr x q) put ws) ∧ Blk X scope fun Y => JE Y (put ((own.map (·.2)).foldr (fun v g => g.set v none) Γ)) ((q, OL (Part.get x)) :: T.set n (p, OH S B)) elt (Dat y)) (hs : ∀ x, foldedSetIterable iter X.env x = pure x := by exact folded_no rfl) :
    JE X Γ T (.ListComp elt [⟨tg, iter, [], 0⟩] scope pos) (Dat ys) :=
  je_openQ n hk fun qs hq => by
    have hn := (List.getElem?_eq_some_iff.mp hk).1
    have hset : (T.set n (p, OH (shs xs qs) (blk xs qs)))[n]? = some (p, OH (shs xs qs) (blk xs qs)) := List.getElem?_set_self hn
    have ez : shs xs qs = (xs.zip qs).map fun z => Part.wi z.1 z.2 := by
      unfold shs
      rw [List.zip, List.map_zipWith]
    have em : mapB (fun z : A × Addr => m z.1) (xs.zip qs) = some ys := by
      have e1 : (xs.zip qs).map (·.1) = xs := List.map_fst_zip (by omega)
      have gen : ∀ zs : List (A × Addr), mapO (fun z : A × Addr => m z.1) zs = mapO m (zs.map (·.1)) := fun zs => by
        induction zs with
        | nil => rfl
        | cons z zs ih =>
          show (m z.1).bind _ = (m z.1).bind _
          rw [ih]
      unfold mapB at hm ⊢
      rw [gen, e1, List.length_zip, hq, Nat.min_self]
      exact hm
    refine je_lcM (it := fun z : A × Addr => Dat (Part.wi z.1 z.2 : Part.Sh A)) own em (fun T' => T'[n]? = some (p, OH (shs xs qs) (blk xs qs))) hc hN bo ?_ hset (fun z y hz hy => ?_) hs
    · have := ji_list (X := X) (Γ := Γ) (T := T.set n (p, OH (shs xs qs) (blk xs qs))) (tg := tg) (iter := iter) (ρ := Ref p) (xs := shs xs qs) (fun T' => T'[n]? = some (p, OH (shs xs qs) (blk xs qs))) (hi _) fun T' hT' => (rdm_oth n (by rcases hT' with rfl | h; exact hset; exact h)).rd
      have e2 : ((xs.zip qs).map fun z => (Dat (Part.wi z.1 z.2 : Part.Sh A))) = (shs xs qs).map Dat := by rw [ez, List.map_map]; rfl
      rw [e2]
      exact this
    · obtain ⟨i, hi'⟩ := List.mem_iff_getElem?.mp hz
      obtain ⟨x, q⟩ := z
      have hx : xs[i]? = some x ∧ qs[i]? = some q := by
        rw [List.getElem?_zip_eq_some] at hi'
        exact hi'
      obtain ⟨put, ws, a1, a2, a3⟩ := turn q (shs xs qs) ((blk xs qs).eraseIdx i) i x y hx.1 ⟨qs, hq, hx.2, rfl, rfl⟩ hy
      refine ⟨put, ws, a1, fun s H C cl fp => jg_as (a2 s H C cl fp) fun F v r => Deep.vrok x q r, fun s H C cl fp => ?_⟩
      have c := TEnt.holeCn (p := p) (S := shs xs qs) (y := x) hn (List.getElem?_eq_some_iff.mp hx.1).1 hx.2 hq rfl
      rw [set_at hx.1] at c
      exact je_entB (TEnt.holeOn hn hx.1 hx.2) c (a3 s H C cl fp)
end
/-! held against data -/
class DeepD (A : Type) [Rp A] [Dpv A] [Part A] where
  dpd : ∀ {K : PySem.W.Frag} {F H : Hp} {v : V} {x : A} {q : Addr} {vs : List V}, Same F H → rep F v (Part.wi x q : Part.Sh A) → H q = some (.lst vs) → Paired (rep F) vs (Part.get x) → Dp K H v (Dpv.toD x)
instance {B : Type} [Rp B] [Dpv B] : DeepD (List B) := ⟨fun e h hq pr => by
  cases h
  exact .lst (SqL.of hq) (dpAll e pr)⟩
instance {α β B : Type} [Rp α] [Rp β] [Rp B] [Dpv α] [Dpv β] [Dpv B] : DeepD (T3 α β (List B)) := ⟨fun e ⟨p, u, v, w, h1, h2, h3, h4, h5⟩ hq pr => by
  subst h1
  cases h5
  exact .tup (SqT.of (e _ _ h2)) (.cons (Dpv.dp e h3) (.cons (Dpv.dp e h4) (.cons (.lst (SqL.of hq) (dpAll e pr)) .nil)))⟩
instance {α B : Type} [Rp α] [Rp B] [Dpv α] [Dpv B] : DeepD (T3 α (List B) Int) := ⟨fun e ⟨p, u, v, w, h1, h2, h3, h4, h5⟩ hq pr => by
  subst h1
  cases h4
  exact .tup (SqT.of (e _ _ h2)) (.cons (Dpv.dp e h3) (.cons (.lst (SqL.of hq) (dpAll e pr)) (.cons (Dpv.dp e h5) .nil)))⟩
section
variable {A : Type} [Rp A] [Dpv A] [Part A] [Deep A] [DeepD A] {T : Th} {p : Addr}
theorem deepAll {K : PySem.W.Frag} {F H : Hp} (e : Same F H) : ∀ {xs : List A} {qs : List Addr} {vs : List V} {L : List Cell}, qs.length = xs.length → Paired (rep F) vs (shs xs qs) → TR F (blk xs qs) L → (∀ c ∈ L, H c.1 = some c.2) → DpAll K H vs (xs.map Dpv.toD)
  | [], [], vs, L, _, pr, _, _ => by cases pr; exact .nil
  | x :: xs, q :: qs, vs, L, hl, pr, t, hc => by
    cases pr with
    | @cons v _ vs _ h pr =>
      cases (show TR F ((q, OL (Part.get x)) :: blk xs qs) L from t) with
      | @cons _ _ _ La Lb a t2 =>
        obtain ⟨ws, hw, rfl⟩ := a
        exact .cons (DeepD.dpd e h (hc (q, .lst ws) (by simp)) hw) (deepAll e (by simpa using hl) pr t2 fun c hc' => hc c (List.mem_append_right _ hc'))
theorem dpv_deep {K : PySem.W.Frag} {xs : List A} (k : Nat) (h : T[k]? = some (p, OP xs)) : RdD K T (Ref p) xs := fun F L Lf H v t o r => by
  obtain ⟨Lk, Lr, ⟨qs, hq, L1, L2, ⟨vs, p1, rfl⟩, b1, rfl⟩, o'⟩ := t.cell o h
  obtain rfl : v = .ref p := r
  exact .lst (SqL.of (o'.cel (p, .lst vs) (by simp))) (deepAll o.sub hq p1 b1 fun c hc => o'.cel c (by simp [hc]))
end
/-! a new list of such, given a name -/
section
variable {A : Type} [Part A] {X : Cx} {W : WX} {Γ : Slots} {T : Th} {stmts : List Stmt} {D : Po} {tg iter elt : Expr} {pos : Pos}
theorem js_newP {ys : List A} {A' : Type} {xs : List A'} {m : A' → Option A} {it : A' → VR} {scope : Scope} (i : Nat) {y : Str} {py spos : Pos} (own : List (Str × Nat)) (hm : mapB m xs = some ys) (ok : Th → Prop) (hc : X.calm = true) (hN : X.N.Nodup) (bo : BlkOk X.N X.env.scope scope own) (hI : JI X Γ T tg iter ok (xs.map it)) (hok : ok T)
    (turn : ∀ x y, x ∈ xs → m x = some y → ∃ put ws, (∀ w ∈ ws, w ∈ own.map (·.2)) ∧ Blk X scope (fun Y => JG Y tg (it x) put ws) ∧ Blk X scope fun Y => JFp Y W0 (put ((own.map (·.2)).foldr (fun v g => g.set v none) Γ)) T elt y) (hk : ∀ p, JSs X W (Γ.set i (some (Ref p))) ((p, OP ys) :: T) stmts D)
    (hsw : swapsWith (.ListComp elt [⟨tg, iter, [], 0⟩] scope pos) (some (.Name y py)) spos.line X.env = pure true) (hy : X.N[i]? = some y := by rfl) (hyl : X.env.scope.names.lookup y = some .local := by rfl) (hs : ∀ x, foldedSetIterable iter X.env x = pure x := by exact folded_no rfl) :
    JSs X W Γ T (.Assign [.Name y py] (.ListComp elt [⟨tg, iter, [], 0⟩] scope pos) spos :: stmts) D := by
  unfold mapB at hm
  split at hm
  · obtain ⟨h1, h2⟩ := mapO_os hm
    refine js_cons (M := fun Γ' T' => JSs X W Γ' T' stmts D) ?_ fun _ _ h => h
    intro F σ L Lf H s t o w
    have key : tLc (WI X tg iter) (gLc X scope tg) (ttLc X scope []) (teLc X scope elt) (own.map (·.2)) σ H (fun v H' => (({ D with nx := fun Γ' T' => JSs X W Γ' T' stmts D } : Po).ends F Lf).nx (σ.set i (some v)) H') := lcP_read hI hok (by simp [h1]) (by simpa [← h1] using ‹xs.length ≤ 1000000›) (fun i ρ y hρ hy => by
      rw [List.getElem?_map] at hρ
      cases hx : xs[i]? with
      | none => rw [hx] at hρ; cases hρ
      | some x =>
        rw [hx] at hρ
        cases hρ
        exact turn x y (List.mem_of_getElem? hx) (h2 i x y hx hy)) s t o fun F' M' H' p e t' o' => ⟨_, _, F', M', hk p, e, (s.mono e).set (s := some (Ref p)) (o := some (V.ref p)) ⟨_, rfl, rfl⟩ i, t', o'⟩
    exact ws_of (ps_setLc hc hN hy hyl hsw wi_pi bo (fun s H C cl fp => ⟨fun pins s' σ H' v u Q I r h => (h s H C cl fp).elim fun t ⟨h1, h2⟩ => h1.run pins s' σ H' v u Q I r h2⟩) (fun s H C cl fp => ⟨fun pins s' σ H' Q I h => wts_pts.run pins s' σ H' Q I (h s H C cl fp)⟩) (fun s H C cl fp => ⟨fun pins s' σ H' Q I h => (h s H C cl fp).run pins s' I⟩) hs) key
  · cases hm
end
/-! lists of lists' addresses -/
section
variable {X : Cx} {W : WX} {Γ : Slots} {T T1 T2 T3 : Th} {a i tg iter : Expr} {body rest : List Stmt} {D : Po} {pos : Pos} {ps : List RefA} {q q1 q2 q3 : Addr} {j : Int}
theorem je_ixR (ha : JE X Γ T a (Dat ps)) (h : atI ps j = some ⟨q⟩) (hb : JE X Γ T i (Dat j)) (hs : PlainIx i := by exact fun _ _ => rfl) : JE X Γ T (.Subscript a i pos) (Ref q) := je_as (je_ixL ha rdl_dat hb h hs) fun _ _ r => r
theorem jx_listR {es : List Expr} {R : VR → Th → Prop} (n : Nat) (hl : n ≤ sizeLine) (h : JAX X W Γ T es (fun ρs T' => ∃ xs : List RefA, ρs = xs.map Dat ∧ xs.length = n ∧ R (Dat xs) T')) : JX X W Γ T (.List es pos) R nox := fun F σ L Lf H s t o Q q _ =>
  we_of (pe_lst wa_pa) (h F σ L Lf H s t o _ fun vs H1 ⟨ρs, T1, F1, L1, ⟨xs, h1, h0, h2⟩, e1, rs, t1, o1⟩ => by
    subst h1
    have pr := vrs_dats rs
    refine ⟨by rw [pr.length, h0]; exact hl, fun p hp => ?_⟩
    obtain ⟨e2, o2, e3⟩ := own_ice (o := .lst vs) o1 hp
    exact q _ _ ⟨_, T1, _, L1, h2, e1.trans e2, ⟨p, vs, rfl, e3, Paired.mono (fun _ _ => Rp.mono e2) pr⟩, t1.mono e2, o2⟩)
/-- a walk over three -/
theorem js_forR3 (hp : PassesOwn (model X.prog X.w) X.A X.env X.xe) (hc : X.calm = true) (hi : ∀ T', JE X Γ T' iter (Dat [RefA.mk q1, RefA.mk q2, RefA.mk q3])) (Γs : Slots) (hΓ : Wk Γ Γs) {put1 put2 put3 : Slots → Slots} {w1 w2 w3 : List Nat}
    (g1 : JG X tg (Ref q1) put1 w1) (g2 : JG X tg (Ref q2) put2 w2) (g3 : JG X tg (Ref q3) put3 w3)
    (h1 : JSs X W (put1 Γs) T body { nx := fun Γ' T' => Wk Γ' Γs ∧ T' = T1, rt := fun _ _ => False }) (h2 : JSs X W (put2 Γs) T1 body { nx := fun Γ' T' => Wk Γ' Γs ∧ T' = T2, rt := fun _ _ => False }) (h3 : JSs X W (put3 Γs) T2 body { nx := fun Γ' T' => Wk Γ' Γs ∧ T' = T3, rt := fun _ _ => False })
    (fin : JSs X W Γs T3 rest D) (hs : ∀ x, foldedSetIterable iter X.env x = pure x := by exact folded_no rfl) : JSs X W Γ T (.For tg iter body [] pos :: rest) D := by
  refine js_cons (M := fun Γ' T' => Γ' = Γs ∧ T' = T3) ?_ fun _ _ ⟨a, b⟩ => by subst a b; exact fin
  refine js_for (S := Nat) hp hc (ji_list (fun _ => True) (hi _) fun T' _ => rdl_dat) (fun i s => s = i ∧ i ≤ 3) (fun _ => Γs) (fun s => match s with | 0 => T | 1 => T1 | 2 => T2 | _ => T3) 0 ⟨rfl, by decide⟩ hΓ rfl (fun _ _ _ => trivial) (fun i ρ s hρ ⟨e, hi⟩ => ?_) (fun s ⟨e, _⟩ => by
    cases e
    exact ⟨rfl, rfl⟩) hs
  subst e
  match s, hρ with
  | 0, hρ => cases hρ; exact ⟨put1, w1, jg_as g1 fun _ _ r => r, jss_le h1 ⟨fun _ _ ⟨a, b⟩ => ⟨1, ⟨rfl, by decide⟩, a, b⟩, fun _ _ q => q.elim, fun _ _ q => q.elim, fun _ _ q => q.elim, fun _ _ q => q.elim⟩⟩
  | 1, hρ => cases hρ; exact ⟨put2, w2, jg_as g2 fun _ _ r => r, jss_le h2 ⟨fun _ _ ⟨a, b⟩ => ⟨2, ⟨rfl, by decide⟩, a, b⟩, fun _ _ q => q.elim, fun _ _ q => q.elim, fun _ _ q => q.elim, fun _ _ q => q.elim⟩⟩
  | 2, hρ => cases hρ; exact ⟨put3, w3, jg_as g3 fun _ _ r => r, jss_le h3 ⟨fun _ _ ⟨a, b⟩ => ⟨3, ⟨rfl, by decide⟩, a, b⟩, fun _ _ q => q.elim, fun _ _ q => q.elim, fun _ _ q => q.elim, fun _ _ q => q.elim⟩⟩
  | s + 3, hρ => simp at hρ
end
/-! ### list(f(..).keys()), the list frozen -/
section
variable {X : Cx} {W : WX} {Γ : Slots} {T : Th} {a : Expr} {pos apos cpos pp : Pos} {R : VR → Th → Prop}
theorem jx_listKX {κ A : Type} [Sca κ] [SKey κ] [DecidableEq κ] [Rp A] (hcalm : X.calm = true) (hg : Gl X "list") (hm : X.mg "list" = none) (h : JX X W Γ T a (fun ρ T' => ∃ (p : Addr) (d : List (κ × A)) (n : Nat), ρ = Ref p ∧ T'[n]? = some (p, OD d) ∧ R (Dat (d.map (·.1))) T') nox)
    (hs : starEach [.Call (.Attribute a "keys" apos) [] [] cpos] X.env = (false, eval (.Call (.Attribute a "keys" apos) [] [] cpos) X.env) :: starEach [] X.env := by exact star1 rfl)
    (hp : ∀ {to : TE} {r : V → List V → Hp → VK → Prop}, MtR X "dict.keys" r → PE X a to → PE X (.Call (.Attribute a "keys" apos) [] [] cpos) (tBM0 X.K "dict" r to) := by exact fun hm h => pe_bm0 PySem.F.plainAttrs_dict PySem.F.slot_dict_keys PySem.F.type_dict_keys hm h) :
    JX X W Γ T (.Call (.Name "list" pp) [.Call (.Attribute a "keys" apos) [] [] cpos] [] pos) R nox := fun F σ L Lf H s t ow Q q _ => by
  refine we_of (pe_callTy (call_listKs hcalm) hg hm (by decide +kernel) (pa_cons (hp mt_keys we_pe) pa_nil hs) (by decide) (by decide) hs (by rfl)) ?_
  refine h F σ L Lf H s t ow _ (fun u H1 ⟨ρ, T1, F1, L1, ⟨p, d, n, h1, hn, hR⟩, e1, r1, t1, o1⟩ => ?_) fun _ _ _ _ _ z => z.elim
  subst h1
  obtain rfl : u = .ref p := r1
  obtain ⟨Lk, Lr, ⟨ws, g1, rfl⟩, o'⟩ := t1.cell o1 hn
  have hd : H1 p = some (.dK (ws.map fun w => (SKey.key w.1, w.2))) := o'.cel _ (List.mem_cons_self ..)
  refine ⟨.inr (.inr (.inl ⟨rfl, .inl ⟨_, hd⟩⟩)), p, _, rfl, rfl, .inl hd, fun v hv => ?_⟩
  obtain ⟨e2, o2, e3⟩ := own_ice (o := KeysO v p) o1 hv
  refine ⟨v, p, _, rfl, upd_same, .inl ((upd_ne fun e => by subst e; rw [hv] at hd; cases hd).trans hd), fun l hl => ?_⟩
  obtain ⟨e4, o4, e5⟩ := own_ice (o := .lst ((ws.map fun w => (SKey.key w.1, w.2)).map fun kv => kV kv.1)) o2 hl
  refine q _ _ ⟨Dat (d.map (·.1)), T1, _, L1, hR, (e1.trans e2).trans e4, ?_, (t1.mono e2).mono e4, o4⟩
  exact ⟨l, _, rfl, e5, Paired.mono (fun _ _ => Rp.mono (e2.trans e4)) (keys_one g1)⟩
end
/-! ### frozen, with all that it holds -/
class IceD (A : Type) [Rp A] [Part A] where
  ice : ∀ {F : Hp} {v : V} {x : A} {q : Addr} {vs : List V}, rep F v (Part.wi x q : Part.Sh A) → F q = some (.lst vs) → Paired (rep F) vs (Part.get x) → rep F v x
instance {B : Type} [Rp B] : IceD (List B) := ⟨fun h hq pr => ⟨_, _, h, hq, pr⟩⟩
instance {α β B : Type} [Rp α] [Rp β] [Rp B] : IceD (T3 α β (List B)) := ⟨fun ⟨p, u, v, w, h1, h2, h3, h4, h5⟩ hq pr => ⟨p, u, v, w, h1, h2, h3, h4, _, _, h5, hq, pr⟩⟩
instance {α B : Type} [Rp α] [Rp B] : IceD (T3 α (List B) Int) := ⟨fun ⟨p, u, v, w, h1, h2, h3, h4, h5⟩ hq pr => ⟨p, u, v, w, h1, h2, h3, ⟨_, _, h4, hq, pr⟩, h5⟩⟩
section
variable {A : Type} [Rp A] [Part A] [IceD A] {X : Cx} {W : WX} {Γ : Slots} {T : Th} {e : Expr} {R : VR → Th → Prop} {xs : List A}
theorem iceAll {H : Hp} : ∀ {xs : List A} {qs : List Addr} {F : Hp} {Lq L : List Cell}, qs.length = xs.length → TR F (blk xs qs) Lq → Own F (Lq ++ L) H → ∀ {vs : List V}, Paired (rep F) vs (shs xs qs) → ∃ F', Same F F' ∧ Own F' L H ∧ Paired (rep F') vs xs
  | [], [], F, Lq, L, _, t, o, vs, pr => by
    cases t
    cases pr
    exact ⟨F, Same.refl _, o, .nil⟩
  | x :: xs, q :: qs, F, Lq, L, hl, t, o, vs, pr => by
    cases pr with
    | @cons v _ vs _ h pr =>
      cases (show TR F ((q, OL (Part.get x)) :: blk xs qs) Lq from t) with
      | @cons _ _ _ La Lb a t2 =>
        obtain ⟨ws, hw, rfl⟩ := a
        have o' : Own F ((q, .lst ws) :: (Lb ++ L)) H := o
        obtain ⟨o2, e2⟩ := o'.freeze
        obtain ⟨F', e3, o3, pr3⟩ := iceAll (by simpa using hl) (t2.mono e2) o2 (Paired.mono (fun _ _ => Rp.mono e2) pr)
        exact ⟨F', e2.trans e3, o3, .cons (IceD.ice (Rp.mono (e2.trans e3) h) (e3 _ _ upd_same) (Paired.mono (fun _ _ => Rp.mono (e2.trans e3)) hw)) pr3⟩
theorem je_iceOf (h : JX X W Γ T e R nox) (hR : ∀ ρ T', R ρ T' → ∃ p, ρ = Ref p ∧ TEnt T' ((p, OP xs) :: T)) : JE X Γ T e (Dat xs) := fun F σ L Lf H s t o Q k =>
  h F σ L Lf H s t o Q (fun v H' ⟨ρ, T1, F1, L1, h1, e1, r1, t1, o1⟩ => by
    obtain ⟨p, rfl, en⟩ := hR ρ T1 h1
    obtain ⟨L2, t2, o2⟩ := en.own t1 o1
    obtain rfl : v = .ref p := r1
    cases t2 with
    | @cons _ _ _ La Lb a t2 =>
      obtain ⟨qs, hq, M1, M2, ⟨vs, p1, rfl⟩, b1, rfl⟩ := a
      have o3 : Own F1 (M2 ++ ((p, .lst vs) :: (Lb ++ Lf))) H' := o2.perm (by
        show ((p, HO.lst vs) :: ((M2 ++ Lb) ++ Lf)).Perm _
        rw [List.append_assoc]
        exact List.perm_middle.symm)
      obtain ⟨F', e', o', pr⟩ := iceAll hq b1 o3 p1
      obtain ⟨o5, e5⟩ := o'.freeze
      exact k _ Lb H' _ ((e1.trans e').trans e5) ((t2.mono e').mono e5) o5 ⟨p, vs, rfl, upd_same, Paired.mono (fun _ _ => Rp.mono e5) pr⟩) fun _ _ _ _ _ z => z.elim
end
end G

/-! HB: numbers as texts and back. -/
namespace G
open PySem PySem.Spec PyProof.Rows L2
open Rp (rep)
def strO (i : Int) : Option Str := when (i.natAbs.log2 < 1920) (Str.ofString (toString i))
def intO (x : Str) : Option Int := if x.length ≤ 640 then PySem.intText? x else none
section
variable {X : Cx} {Γ : Slots} {T : Th} {a : Expr} {pos pp : Pos}
theorem je_strI {i : Int} {z : Str} (h : strO i = some z) (hg : Gl X "str") (hm : X.mg "str" = none) (ha : JE X Γ T a (Dat i)) (hs : starEach [a] X.env = (false, eval a X.env) :: starEach [] X.env := by exact star1 rfl) : JE X Γ T (.Call (.Name "str" pp) [a] [] pos) (Dat z) :=
  je_ca (pe_callTy call_str_int hg hm (by decide +kernel) wa_pa (by decide) (by decide) hs (by rfl)) (ja_cons ha ja_nil hs) fun F L Lf H vs Q t o rs k => by
    obtain ⟨x, rfl, rx⟩ := vrs1 rs
    obtain ⟨h1, rfl⟩ := of_when h
    exact ⟨i, by rw [show x = .int i from rx], h1, k F L H _ (Same.refl F) t o rfl⟩
theorem je_intS {x : Str} {n : Int} (h : intO x = some n) (hg : Gl X "int") (hm : X.mg "int" = none) (ha : JE X Γ T a (Dat x)) (hs : starEach [a] X.env = (false, eval a X.env) :: starEach [] X.env := by exact star1 rfl) : JE X Γ T (.Call (.Name "int" pp) [a] [] pos) (Dat n) :=
  je_ca (pe_callTy call_int_str hg hm (by decide +kernel) wa_pa (by decide) (by decide) hs (by rfl)) (ja_cons ha ja_nil hs) fun F L Lf H vs Q t o rs k => by
    obtain ⟨y, rfl, rx⟩ := vrs1 rs
    unfold intO at h
    split at h
    · rename_i hl
      exact ⟨x, n, by rw [show y = .str x from rx], h, hl, k F L H _ (Same.refl F) t o rfl⟩
    · cases h
end
/-! ### enumerate(text) -/
theorem draws_text {prog : Program} {w : World} {A : Around} (hh : A.handled = none) (it : Addr) (x : Str) (t : Tok) :
    Draws prog w A it [it] x.cps.size (fun i v => ∃ c u, x.cps[i]? = some c ∧ v = .str ⟨#[c]⟩ u) (fun i h => h.IsStrIter it (strIterType x) x t i) := by
  cases ha : x.cps.all (· < 128)
  · simp only [strIterType, ha, Bool.false_eq_true, if_false]
    exact .strWide hh it x t
  · simp only [strIterType, ha, if_true]
    exact .strAscii hh it x t
theorem draws_done {prog : Program} {w : World} {A : Around} (hh : A.handled = none) (it : Addr) (x : Str) (t : Tok) (k : Nat) (hk : x.cps[k]? = none) :
    Draws prog w A it [it] k (fun _ _ => True) (fun i h => i = k ∧ h.IsStrIter it (strIterType x) x t k) where
  live := fun _ _ st => let ⟨o, ho, _⟩ := st.2; ⟨o, ho⟩
  frame := fun _ _ _ st hk => let ⟨o, ho, r⟩ := st.2; ⟨st.1, o, hk it (by simp) o ho, r⟩
  item := fun i s Q E hi st hQ => absurd st.1 (Nat.ne_of_lt hi)
  done := fun s Q E st hE => by
    obtain ⟨_, st⟩ := st
    cases ha : x.cps.all (· < 128)
    · rw [show strIterType x = "str_iterator" by simp [strIterType, ha]] at st
      exact wpAny_nextOf_wide_end hh st hk hE
    · rw [show strIterType x = "str_ascii_iterator" by simp [strIterType, ha]] at st
      exact wpAny_nextOf_ascii_end hh st hk hE
/-- the signs of x, each in a new pair with its place -/
def Itu (x : Str) : It :=
  ⟨fun i _ => i < x.cps.size, fun i H v H' => ∃ T c, v = .ref T ∧ H T = none ∧ H' = upd H T (.tup [.int (i : Nat), .str ⟨#[c]⟩]) ∧ x.cps[i]? = some c, fun i _ => x.cps.size ≤ i⟩
theorem turn_enumS {P : Program} {w : World} {K : PySem.W.Frag} {elts : List Expr} {kk : Nat} {tpos : Pos} (x : Str) (tk : Tok) (e it : Addr) :
    Turn P w K (.Tuple elts kk tpos) (Itu x) [e, it] e (fun i h => (∃ old, IsEnum h e it ((i : Nat) : Int) old) ∧ h.IsStrIter it (strIterType x) x tk i ∧ e ≠ it) where
  mem := by simp
  obj := fun i h st b hb => by
    obtain ⟨⟨old, he⟩, ⟨o, ho, hc, hd⟩, _⟩ := st
    have e' : b = e ∨ b = it := by simpa using hb
    rcases e' with z | z
    · rw [z]; exact ⟨_, he, fun v q => nomatch q⟩
    · rw [z]; exact ⟨o, ho, fun v q => by rw [hd] at q; cases q⟩
  keep := fun i h h' st k => let ⟨⟨old, he⟩, ⟨o, ho, r⟩, hne⟩ := st; ⟨⟨old, k e (by simp) _ he⟩, ⟨o, k it (by simp) o ho, r⟩, hne⟩
  item := by
    intro X hP hw hK hc i pins s σ H E I hf st hg
    subst hP hw hK
    obtain ⟨⟨old, he⟩, hit, hne⟩ := st
    have hel : e < s.heap.objs.size := Heap.lt_size he
    have hil : it < s.heap.objs.size := by obtain ⟨_, q, _⟩ := hit; exact Heap.lt_size q
    refine wpAny_pyNext_enum_itemD (draws_text (A := X.A.in1) (I.ok.hd hc) it x tk) he hit hg hne (by simp [hne]) fun v h' tk' hv ho hit' hT hsz hk => ?_
    obtain ⟨c, u, hcx, rfl⟩ := hv
    refine ⟨_, rfl, wpAny_letOwnedTupleGo_enum (s := { s with heap := h', toks := tk' + 1 }) ho fun h'' he' sb => ?_⟩
    have hT2 : h''.get? s.heap.objs.size = some { cls := .type "tuple", data := .seq #[.int i tk', .str ⟨#[c]⟩ u] } := (sb.2 _ (Nat.ne_of_gt hel)).trans hT
    have new : ObjOk X.prog X.w (upd H s.heap.objs.size (.tup [.int (i : Nat), .str ⟨#[c]⟩])) h'' s.heap.objs.size (.tup [.int (i : Nat), .str ⟨#[c]⟩]) :=
      ⟨by show 2 ≤ sizeLine; decide, [.int i tk', .str ⟨#[c]⟩ u], .cons ⟨_, rfl⟩ (.cons ⟨_, rfl⟩ .nil), ⟨_, hT2, rfl, _, rfl⟩⟩
    have I1 : Inv X pins σ (upd H s.heap.objs.size (.tup [.int (i : Nat), .str ⟨#[c]⟩])) { s with heap := h'', toks := tk' + 1 } :=
      I.turnedNew (ch := [e, it]) (fun b ob hb q => (sb.2 b (fun z => hb (by simp [z]))).trans (hk b ob (fun z => hb (by simp [z])) (fun z => hb (by simp [z])) q)) hf (Nat.le_refl _) new
    refine ⟨.ref s.heap.objs.size, _, I1, rfl, ⟨_, c, rfl, I.hok.fresh (Nat.le_refl _), rfl, hcx⟩, ⟨⟨.str ⟨#[c]⟩ u, ?_⟩, ?_, hne⟩, fun b hb => ?_⟩
    · have e1 : ((i + 1 : Nat) : Int) = (i : Int) + 1 := by omega
      rw [e1]; exact he'
    · obtain ⟨o, q, r⟩ := hit'
      exact ⟨o, (sb.2 it (Ne.symm hne)).trans q, r⟩
    · have hb' : b < s.heap.objs.size := by
        have e' : b = e ∨ b = it := by simpa using hb
        rcases e' with z | z
        · rw [z]; exact hel
        · rw [z]; exact hil
      rw [upd_ne (Nat.ne_of_lt hb')]
      exact (hf b hb).1
  done := by
    intro X hP hw hK hc i pins s σ H E I hf st hg
    subst hP hw hK
    obtain ⟨⟨old, he⟩, hit, hne⟩ := st
    obtain ⟨f0, f1, f2, f3, f4, f5⟩ := hf it (by simp)
    exact wpAny_pyNext_enum_endD (draws_done (A := X.A.in1) (I.ok.hd hc) it x tk i (Array.getElem?_eq_none hg)) he ⟨rfl, hit⟩ fun h' eb => ⟨rfl, I.turned (t' := s.toks) (fun b o hb q => eb b o hb q) f0 f1 f3 f4 f5⟩
  self := fun A i s Q E st h => let ⟨⟨_, he⟩, _⟩ := st; wpAny_pyIter_enum he h
def iEnumS (ta : TA) : TI := fun σ H R => ta σ H fun vs H1 => ∃ x, vs = [.str x] ∧ R (Itu x) H1
theorem pi_enumS {X : Cx} {e : Expr} {ta : TA} {p pos tpos : Pos} {elts : List Expr} {kk : Nat} (hg : Gl X "enumerate") (hm : X.mg "enumerate" = none) (ha : PA X [e] ta) (hs : starEach [e] X.env = [(false, eval e X.env)] := by rfl) :
    PI X (.Tuple elts kk tpos) (.Call (.Name "enumerate" p) [e] [] pos) (iEnumS ta) := by
  refine ⟨fun pins s σ H R I h => ?_⟩
  refine Call_ (ld_blt I hg hm boot_enumerate (PyProof.Rows.callWith_type1 (thn (ha.run pos pins s σ H _ I h) fun us s1 ⟨vs, H1, I1, r1, q1⟩ => ?_) hs rfl))
  obtain ⟨x, ex, q⟩ := q1
  subst ex
  cases r1 with
  | cons r rr =>
    cases rr
    obtain ⟨tk, rfl⟩ := r
    refine call_enumerate_str fun h' he hit hsz hk => wpAny_pyIter_enum he ?_
    have I2 : Inv X pins σ H1 { s1 with heap := h' } := I1.kept (t' := s1.toks) hk
    refine ⟨s1.heap.objs.size + 1, [s1.heap.objs.size + 1, s1.heap.objs.size], _, _, H1, rfl, I2, turn_enumS x tk (s1.heap.objs.size + 1) s1.heap.objs.size, ⟨⟨.none, he⟩, hit, Nat.succ_ne_self _⟩, fun b hb => ?_, q⟩
    have e' : b = s1.heap.objs.size + 1 ∨ b = s1.heap.objs.size := by simpa using hb
    have hle : s1.heap.objs.size ≤ b := by
      rcases e' with z | z
      · rw [z]; exact Nat.le_add_right _ _
      · rw [z]; exact Nat.le_refl _
    exact I1.fpOk hle (I1.hok.fresh hle)
section
variable {X : Cx} {Γ : Slots} {T : Th} {iter : Expr} {elts : List Expr} {pos p tpos : Pos} {x : Str}
theorem ji_enumS {kk : Nat} (hg : Gl X "enumerate") (hm : X.mg "enumerate" = none) (h : JE X Γ T iter (Dat x)) (hs : starEach [iter] X.env = [(false, eval iter X.env)] := by exact star1n rfl) (hs' : starEach [iter] X.env = (false, eval iter X.env) :: starEach [] X.env := by exact star1 rfl) :
    JI X Γ T (.Tuple elts kk tpos) (.Call (.Name "enumerate" p) [iter] [] pos) (fun _ => True) ((enumI (sgns x)).map Dat) := fun F σ L Lf H s t o R k =>
  ⟨_, pi_enumS hg hm wa_pa hs, ja_cons h ja_nil hs' F σ L Lf H s t o _ fun F1 M1 H1 vs e1 t1 o1 rs => by
    obtain ⟨v, rfl, r⟩ := vrs1 rs
    obtain rfl : v = .str x := r
    refine ⟨x, rfl, k _ F1 M1 H1 e1 t1 o1 fun T' hT' F2 L2 Lf2 H2 i e2 t2 o2 => ?_⟩
    have hl : ((enumI (sgns x)).map (Dat : Int × Str → VR)).length = x.cps.size := by simp [enumI, sgns]
    refine ⟨fun hle => by rw [hl] at hle; exact hle, fun ρ' hρ => ?_⟩
    have hi : i < x.cps.size := by
      have := (List.getElem?_eq_some_iff.mp hρ).1
      rwa [hl] at this
    have hx : (sgns x)[i]? = some ⟨#[x.cps[i]]⟩ := by
      unfold sgns
      rw [List.getElem?_map, Array.getElem?_toList, Array.getElem?_eq_getElem hi]
      rfl
    rw [List.getElem?_map, show (enumI (sgns x))[i]? = some ((i : Int), ⟨#[x.cps[i]]⟩) by simp only [enumI, List.getElem?_map, List.getElem?_zipIdx, hx]; simp] at hρ
    cases hρ
    refine ⟨hi, fun y H' ⟨tq, c, a1, a2, a3, a4⟩ => ?_⟩
    subst a1 a3
    obtain ⟨e3, o3, e4⟩ := own_ice (o := .tup [.int (i : Nat), .str ⟨#[c]⟩]) o2 a2
    rw [Array.getElem?_eq_getElem hi] at a4
    cases a4
    exact ⟨_, e3, o3, tq, _, _, rfl, e4, rfl, rfl⟩⟩
end
/-! ### a list of things that are all there; xs.insert(i, y) -/
def allS {A : Type} : List (Option A) → Option (List A)
  | [] => some []
  | none :: _ => none
  | some a :: l => (allS l).map (a :: ·)
theorem allS_eq {A : Type} : ∀ {xs : List (Option A)} {ys : List A}, allS xs = some ys → xs = ys.map some
  | [], ys, h => by cases h; rfl
  | none :: _, _, h => nomatch h
  | some a :: l, ys, h => by
    unfold allS at h
    cases hl : allS l with
    | none => rw [hl] at h; cases h
    | some zs =>
      rw [hl] at h
      cases h
      rw [allS_eq hl]
      rfl
theorem allS_map {A : Type} (ys : List A) : allS (ys.map some) = some ys := by
  induction ys with
  | nil => rfl
  | cons y ys ih =>
    show (allS (ys.map some)).map (y :: ·) = _
    rw [ih]
    rfl
theorem paired_un {A : Type} [Rp A] {F : Hp} : ∀ {vs : List V} {ys : List A}, Paired (rep F) vs (ys.map some) → Paired (rep F) vs ys
  | [], [], .nil => .nil
  | v :: vs, y :: ys, .cons h r => .cons h (paired_un r)
section
variable {X : Cx} {W : WX} {Γ : Slots} {T : Th} {a o j e : Expr} {pos apos : Pos} {A B : Type} [Rp A] [Rp B] {p : Addr} {rest : List Stmt} {D : Po}
theorem je_unL {xs : List (Option A)} {ys : List A} (h : allS xs = some ys) (ha : JE X Γ T a (Dat xs)) : JE X Γ T a (Dat ys) := fun F σ L Lf H s t o Q q =>
  ha F σ L Lf H s t o Q fun F1 M1 H1 v e1 t1 o1 r => q F1 M1 H1 v e1 t1 o1 (by
    obtain ⟨p, vs, h1, h2, h3⟩ := r
    have e := allS_eq h
    subst e
    exact ⟨p, vs, h1, h2, paired_un h3⟩)
def insO (xs : List B) (i : Int) (y : B) : Option (List B) := when (xs.length < sizeLine ∧ 0 ≤ i ∧ i < 2 ^ 63) (xs.take i.toNat ++ [y] ++ xs.drop i.toNat)
def rIns : V → List V → Hp → VK → Prop := fun x vs H Q => ∃ (l : Addr) (xs : List V) (i : Int) (y : V), x = .ref l ∧ vs = [.int i, y] ∧ H l = some (.lst xs) ∧ xs.length < sizeLine ∧ 0 ≤ i ∧ i < 2 ^ 63 ∧
    Q .non (upd H l (.lst (xs.take i.toNat ++ [y] ++ xs.drop i.toNat)))
theorem js_ins (n : Nat) {i : Int} {y : B} {xs ys : List B} (hi : T[n]? = some (p, OL xs)) (ho : JE X Γ T o (Ref p)) (hj : JE X Γ T j (Dat i)) (he : JE X Γ T e (Dat y)) (h : insO xs i y = some ys) (k : JSs X W Γ (T.set n (p, OL ys)) rest D)
    (hs : starEach [j, e] X.env = (false, eval j X.env) :: starEach [e] X.env := by exact star1 rfl) (hs' : starEach [e] X.env = (false, eval e X.env) :: starEach [] X.env := by exact star1 rfl)
    (hp : ∀ {to : TE} {t : TA}, PE X o to → PA X [j, e] t → PE X (.Call (.Attribute o "insert" apos) [j, e] [] pos) (tBM X.K "list" rIns to t) := by exact fun h h' => pe_bm PySem.F.plainAttrs_list PySem.F.slot_list_insert PySem.F.type_list_insert mt_insert h h')
    {pos2 : Pos} (hs2 : swapsWith (.Call (.Attribute o "insert" apos) [j, e] [] pos) none pos2.line X.env = pure false := by exact swaps_no rfl) : JSs X W Γ T (.Expr (.Call (.Attribute o "insert" apos) [j, e] [] pos) pos2 :: rest) D := by
  obtain ⟨⟨h1, h2, h3⟩, rfl⟩ := of_when h
  have hx : JX X W Γ T (.Call (.Attribute o "insert" apos) [j, e] [] pos) (fun ρ T' => ρ = Dat () ∧ T' = T.set n (p, OL (xs.take i.toNat ++ [y] ++ xs.drop i.toNat))) nox :=
    jx_lmeth (a := o) (name := "insert") (id := "") n (hp we_pe wa_pa) ho (ja_cons hj (ja_cons he ja_nil hs') hs) hi fun F H us vs Q a1 a2 rs k => by
      obtain ⟨v1, v2, rfl, r1, r2⟩ := vrs2 rs
      exact ⟨p, us, i, v2, rfl, by rw [show v1 = .int i from r1], a1, by rw [a2.length]; exact h1, h2, h3, k _ (Paired.append (Paired.append (Paired.take _ a2) (.cons r2 .nil)) (Paired.drop _ a2))⟩
  exact js_cons (M := fun Γ1 T1 => Γ1 = Γ ∧ T1 = T.set n (p, OL (xs.take i.toNat ++ [y] ++ xs.drop i.toNat))) (js_exprX hx (fun ρ T' ⟨_, h2⟩ => ⟨rfl, h2⟩) (fun _ _ z => z.elim) hs2) fun _ _ ⟨h1, h2⟩ => by subst h1 h2; exact k
end
end G

/-! HC: a fresh dict that is walked at once. -/
namespace G
open PySem PySem.Spec PyProof.Rows L2
open Rp (rep)
/-- behind e its thing is locked for good -/
def tKeep (t : TE) : TE := fun σ H Q => t σ H fun v H' => ∃ d u, v = .ref d ∧ H' d = some u ∧ Mut (some u) ∧ ∀ od, Q v (upd H' d (.frz od u))
theorem pe_keep {X : Cx} {e : Expr} {t : TE} (h : PE X e t) : PE X e (tKeep t) := by
  refine ⟨fun pins s σ H Q I hw => ?_⟩
  refine thn (h.run pins s σ _ _ I hw) fun v s1 ⟨x, H1, I2, r, d, u, ex, hd, mu, q⟩ => ?_
  obtain ⟨od, I3⟩ := I2.lock hd mu
  exact ⟨x, _, I3, r, q od⟩
/-- a dict that stands for good -/
def FzD {κ A : Type} [Rp κ] [DecidableEq κ] [DKey κ] [Rp A] (d : List (κ × A)) : VR :=
  ⟨fun F v => ∃ (p : Addr) (od : Obj) (ws : List (κ × V)), v = .ref p ∧ F p = some (.frz od (DKey.ho ws)) ∧ Paired (DR F) ws d, fun e ⟨p, od, ws, h1, h2, h3⟩ => ⟨p, od, ws, h1, e _ _ h2, Paired.mono (fun _ _ z => ⟨z.1, Rp.mono e z.2⟩) h3⟩⟩
section
variable {X : Cx} {W : WX} {Γ : Slots} {T : Th} {e iter tg : Expr} {R : VR → Th → Prop} {κ A : Type} [Rp κ] [DecidableEq κ] [DKey κ] [Rp A] {d : List (κ × A)}
theorem je_frzD (h : JX X W Γ T e R nox) (hR : ∀ ρ T', R ρ T' → ∃ p, ρ = Ref p ∧ TEnt T' ((p, OD d) :: T)) : JE X Γ T e (FzD d) := fun F σ L Lf H s t o Q k =>
  we_of (pe_keep we_pe) (h F σ L Lf H s t o _ (fun v H' ⟨ρ, T1, F1, L1, h1, e1, r1, t1, o1⟩ => by
    obtain ⟨p, rfl, en⟩ := hR ρ T1 h1
    obtain ⟨L2, t2, o2⟩ := en.own t1 o1
    obtain rfl : v = .ref p := r1
    cases t2 with
    | @cons _ _ _ La Lb a t2 =>
      obtain ⟨ws, pr, rfl⟩ := a
      have o3 : Own F1 ((p, DKey.ho ws) :: (Lb ++ Lf)) H' := o2
      refine ⟨p, DKey.ho ws, rfl, o3.cel _ (List.mem_cons_self ..), DKey.mu ws, fun od => ?_⟩
      have o4 : Own F1 ((p, HO.frz od (DKey.ho ws)) :: (Lb ++ Lf)) (upd H' p (.frz od (DKey.ho ws))) := o3.put
      obtain ⟨o5, e5⟩ := o4.freeze
      exact k _ Lb _ _ (e1.trans e5) (t2.mono e5) o5 ⟨p, od, ws, rfl, upd_same, Paired.mono (fun _ _ z => ⟨z.1, Rp.mono e5 z.2⟩) pr⟩) fun _ _ _ _ _ z => z.elim)
theorem ji_dictF (h : JE X Γ T iter (FzD d)) : JI X Γ T tg iter (fun _ => True) ((d.map (·.1)).map Dat) := fun F σ L Lf H s t o R k =>
  ⟨_, pi_keys we_pe, h F σ L Lf H s t o _ fun F1 M1 H1 v e1 t1 o1 r => by
    obtain ⟨p, od, ws, rfl, hF, pr⟩ := r
    refine ⟨p, od, rfl, DKey.pick (o1.sub _ _ hF) (k (DKey.it p od ws) F1 M1 H1 e1 t1 o1 fun T' hT' F2 L2 Lf2 H2 i e2 t2 o3 => ?_)⟩
    have hF2 := e2 _ _ hF
    have hlen : ((d.map (·.1)).map (Dat : κ → VR)).length = ws.length := by rw [List.length_map, List.length_map, pr.length]
    refine ⟨fun hl => DKey.stop (o3.sub _ _ hF2) (by omega), fun ρ' hρ => ?_⟩
    have hi : i < ws.length := by rw [← hlen]; exact (List.getElem?_eq_some_iff.mp hρ).1
    refine ⟨DKey.go (o3.sub _ _ hF2) hi, fun y H' hy => ?_⟩
    obtain ⟨F3, w, h5, e5, o5, h6⟩ := DKey.yld hy o3
    obtain ⟨kv, h7, h8⟩ := Paired.get' pr h5
    rw [List.getElem?_map, List.getElem?_map, h7] at hρ
    cases hρ
    refine ⟨F3, e5, o5, ?_⟩
    show rep F3 y kv.1
    rw [← h8.1]
    exact h6⟩
end
end G
/-! ### the head's run in parts (each a run of its own: less memory at a time) -/
namespace He
open PySem
theorem all_split {α : Type} (p : α → Bool) (l : List α) (n : Nat) : l.all p = ((l.take n).all p && (l.drop n).all p) := by
  rw [← List.all_append, List.take_append_drop]
theorem glue {S A B C : Type} {o : Option S} {f1 : S → A} {f2 : S → B} {f3 : S → C} {a : A} {b : B} {c : C} (h1 : o.map f1 = some a) (h2 : o.map f2 = some b) (h3 : o.map f3 = some c) : o.map (fun s => (f1 s, f2 s, f3 s)) = some (a, b, c) := by
  cases o with
  | none => cases h1
  | some s =>
    injection h1 with h1
    injection h2 with h2
    injection h3 with h3
    show some (f1 s, f2 s, f3 s) = _
    rw [h1, h2, h3]
theorem glueOb {S : Type} {o : Option S} {K : S → PySem.W.Frag} {fa : List Fa} {fn : List DefD} {ex : PySem.W.Frag → Bool} (n m : Nat)
    (h1 : o.map (fun s => (fa.take n).all fun f => f.ok (K s)) = some true) (h2 : o.map (fun s => (fa.drop n).all fun f => f.ok (K s)) = some true)
    (h3 : o.map (fun s => (fn.take m).all fun d => d.ok (K s)) = some true) (h4 : o.map (fun s => (fn.drop m).all fun d => d.ok (K s)) = some true)
    (h5 : o.map (fun s => (fn.take m).map fun d => fnW (K s) d.at_) = some ((fn.take m).map DefD.val)) (h6 : o.map (fun s => (fn.drop m).map fun d => fnW (K s) d.at_) = some ((fn.drop m).map DefD.val))
    (h7 : o.map (fun s => ex (K s)) = some true) : o.map (fun s => obsX fa fn ex (K s)) = some (valX fn) := by
  cases o with
  | none => cases h1
  | some s =>
    have h1 : ((fa.take n).all fun f => f.ok (K s)) = true := Option.some.inj h1
    have h2 : ((fa.drop n).all fun f => f.ok (K s)) = true := Option.some.inj h2
    have h3 : ((fn.take m).all fun d => d.ok (K s)) = true := Option.some.inj h3
    have h4 : ((fn.drop m).all fun d => d.ok (K s)) = true := Option.some.inj h4
    have h5 : ((fn.take m).map fun d => fnW (K s) d.at_) = (fn.take m).map DefD.val := Option.some.inj h5
    have h6 : ((fn.drop m).map fun d => fnW (K s) d.at_) = (fn.drop m).map DefD.val := Option.some.inj h6
    have h7 : ex (K s) = true := Option.some.inj h7
    refine congrArg some ?_
    show (((fa.all fun f => f.ok (K s)) && fn.all fun d => d.ok (K s), fn.map fun d => fnW (K s) d.at_), ex (K s)) = ((true, fn.map DefD.val), true)
    have e5 : (fn.map fun d => fnW (K s) d.at_) = fn.map DefD.val := by
      rw [← List.take_append_drop m fn, List.map_append, List.map_append, h5, h6]
    rw [all_split _ fa n, all_split _ fn m, h1, h2, h3, h4, e5, h7]
    rfl
end He


/-! GT: the set of a list of ints; sorted of it. -/
namespace G
open PySem PySem.Spec PyProof.Rows L2
open Rp (rep)
section
variable {P : Program} {w : World} {A : Around} {E : Value → Shared → Prop} {s : Shared}
abbrev set0 (w : World) : Obj := { cls := .type "set", dict := none, data := .set #[] 0 (.fresh 0 0 (!w.params.followText "set-order")) }
theorem ints_get {us : List Value} {ks : List Int} (h : IntsAre us ks) : ∀ (i : Nat) (v : Value), us[i]? = some v → ∃ z t, ks[i]? = some z ∧ v = .int z t := by
  induction h with
  | nil => intro i v h; simp at h
  | cons n t _ ih =>
    intro i v h
    cases i with
    | zero => cases h; exact ⟨n, t, rfl, rfl⟩
    | succ i => exact ih i v (by simpa using h)
set_option maxHeartbeats 3200000 in
theorem call_set_ints {l : Addr} {items : Array Value} (ns : List Int) {Q : Value → Shared → Prop} (hh : A.handled = none) (hl : s.heap.IsList l items) (hit : IntsAre items.toList ns) (hb : ns.length + 1 < scanBound)
    (h : ∀ (h' : Heap) (tk c : Nat), SetR w h' s.heap.objs.size (fun j => decide (j ∈ ns)) c → c ≤ ns.length → (∀ b o, s.heap.get? b = some o → h'.get? b = some o) → Q (.ref s.heap.objs.size) { s with heap := h', toks := tk }) :
    wpAny (model P w) A (call (.type "set") [.ref l]) Q E s := by
  have hsz : items.size = ns.length := by
    have q := IntsAre.length hit
    rwa [Array.length_toList] at q
  have hS := Heap.get?_push_size s.heap (o := set0 w) rfl
  have lt : l < s.heap.objs.size := by obtain ⟨o, ho, _⟩ := hl; exact Heap.lt_size ho
  have hT : Shared.TypeIs { s with heap := s.heap.push (set0 w) } (.ref s.heap.objs.size) "set" := ⟨_, hS, rfl⟩
  -- the type is called: first __new__, then __init__
  obtain ⟨c, tl, hmro⟩ := PySem.F.called_set.mro
  have hmade := PySem.F.called_set.made
  have hsub := PySem.F.called_set.sub
  refine wpAny_call (codeAny_of_tree ?_)
  show wpAny _ _ (callAny (.type "set") _) _ _ _
  refine wpAny_pure ⟨Code.quiet_builtin _ (by decide +kernel), codeAny_builtin PySem.F.entry_type_call ?_⟩
  rw [Around.under_plain (weight_type_call_type "set" [.ref l] []) rfl]
  have h1 := PySem.F.called_set.notType
  have h2 := PySem.F.called_set.canCreate
  have hct := PySem.F.typeCall_set_1 (.ref l)
  repeat (any_goals (first | assumption | wp_step))
  refine codeAny_mono (code_set_led1 (.ref l) (E := E) (Q₁ := fun obj s₁ => obj = .ref s.heap.objs.size ∧ s₁ = { s with heap := s.heap.push (set0 w) }) ⟨rfl, rfl⟩) fun r s₁ hr => ?_
  match r, hr with
  | .error e, hr => exact hr
  | .ok .next, hr | .ok .brk, hr | .ok .cont, hr => exact hr.elim
  | .ok (.ret obj), hr =>
  obtain ⟨rfl, rfl⟩ := hr
  have hli := PySem.F.called_set.init.lookup
  have hbi := PySem.F.called_set.init.bind (.ref s.heap.objs.size)
  repeat (any_goals (first | assumption | wp_step))
  refine codeAny_mono (codeAny_call_builtin (R := wants (fun r s₂ => r = .none ∧ Q (.ref s.heap.objs.size) s₂) E) PySem.F.called_set.init.plain PySem.F.entry_set_init (check_set_init_1 hT ?_)) fun r₂ s₂ hr₂ => ?_
  · have hl1 : (s.heap.push (set0 w)).IsList l items := hl.push _
    obtain ⟨ol, hol, hcl, nl, hdl⟩ := hl1
    obtain ⟨ocls, odict, odata, oslots⟩ := ol
    simp only at hcl hdl
    subst hcl hdl
    have n1 := PySem.F.sub_list_set
    have n2 := PySem.F.sub_list_frozenset
    have n3 : (Value.type "list" == Value.type "dict") = false := by decide
    unfold Builtin.«set.__init__» noKeywords Builtin.Frozenset.updateFrom
    generalize hPI : pyIter = PI
    wp_walk
    subst hPI
    refine wpAny_pyIter_list (hl.push _) (wpAny_bind (wpAny_runValue ?_))
    have sz1 : (s.heap.push (set0 w)).objs.size = s.heap.objs.size + 1 := Heap.size_push ..
    refine set_update_ints ((Walks.list (by simp [hh]) _ l (by rw [sz1]; exact Nat.ne_of_lt (Nat.lt_succ_of_lt lt)) items).toS) s.heap.objs.size (by rw [sz1]; simp only [List.mem_cons, List.mem_singleton, List.not_mem_nil, or_false, not_or]; exact ⟨Nat.ne_of_lt (Nat.lt_succ_self _), Nat.ne_of_gt lt⟩) ns hsz hb (fun i v hv => ?_) (items.size - 0) 0 _ (by omega) (Nat.zero_le _)
      ⟨⟨_, Heap.get?_push_size _ rfl, rfl, rfl⟩, (hl.push _).push _⟩ ⟨0, Nat.le_refl 0, setR_new_at (Heap.get?_push_of_some _ hS)⟩ fun s' c' hm hc' hS' => ?_
    · obtain ⟨z, t, e1, e2⟩ := ints_get hit i v (by rw [Array.getElem?_toList]; exact hv)
      exact ⟨z, t, e1, e2⟩
    · obtain ⟨h', g2, d', tk', os'⟩ := s'
      obtain rfl : g2 = s.gens := hm.gens
      obtain rfl : d' = s.drawn := hm.drawn
      obtain rfl : os' = s.os := hm.os
      refine wpAny_pure ?_
      show wpAny _ _ (ret Value.none) _ _ _
      refine wpAny_pure ⟨rfl, h h' tk' c' hS' (hsz ▸ hc') fun b o e => hm.heap b o ?_ (Heap.get?_push_of_some _ (Heap.get?_push_of_some _ e))⟩
      have lt' := Heap.lt_size e
      rw [sz1]
      simp only [List.mem_cons, List.mem_singleton, List.not_mem_nil, or_false, not_or]
      exact ⟨Nat.ne_of_lt lt', Nat.ne_of_lt (Nat.lt_succ_of_lt lt')⟩
  · match r₂, hr₂ with
    | .error e, hr => exact hr
    | .ok .next, hr | .ok .brk, hr | .ok .cont, hr => exact hr.elim
    | .ok (.ret r), hr =>
      obtain ⟨rfl, hq⟩ := hr
      repeat (any_goals (first | assumption | wp_step))
end
section
variable {X : Cx} {W : WX} {Γ : Slots} {T : Th} {a : Expr} {p pp pos pos' : Pos} {ρ : VR}
/-- set(ints) -/
theorem cr_setI (hc : X.calm = true) : CallR X (.type "set") (fun xs H Q => ∃ (l : Addr) (ns : List Int), xs = [.ref l] ∧ SqL X.K H l (ns.map V.int) ∧ ns.length + 1 < scanBound ∧ ∀ (c : Nat) (q : Addr), c ≤ ns.length → H q = none → Q (.ref q) (upd H q (SetO X.w q (fun j => decide (j ∈ ns)) c))) := by
  intro pins s σ H xs us Q I r ⟨l, ns, h1, hs, hb, q⟩
  subst h1
  obtain ⟨its, rv, hl, hz⟩ := I.list hs
  rw [Vals.ref1 r]
  exact call_set_ints ns (I.ok.hd hc) hl.isList (by simpa using rv.ints) hb fun h' tk c hS hc' hk => ⟨.ref s.heap.objs.size, _, I.laid (t' := tk) hk (Nat.le_refl _) (setO_new hS), rfl, q c _ hc' (I.hok.fresh (Nat.le_refl _))⟩
def uniq : List Int → List Int
  | [] => []
  | x :: xs => if x ∈ xs then uniq xs else x :: uniq xs
theorem mem_uniq {x : Int} : ∀ {xs : List Int}, x ∈ uniq xs ↔ x ∈ xs
  | [] => Iff.rfl
  | y :: ys => by
    unfold uniq
    split
    · rename_i h
      rw [mem_uniq, List.mem_cons]
      exact ⟨.inr, fun z => z.elim (fun e => e ▸ h) id⟩
    · rw [List.mem_cons, List.mem_cons, mem_uniq]
theorem nodup_uniq : ∀ xs : List Int, (uniq xs).Nodup
  | [] => .nil
  | y :: ys => by
    unfold uniq
    split
    · exact nodup_uniq ys
    · rename_i h
      exact List.nodup_cons.mpr ⟨fun z => h (mem_uniq.mp z), nodup_uniq ys⟩
/-- the distinct items, rising -/
def setI (ns : List Int) : Option (List Int) := when (ns.length < 63) (sortI (uniq ns))
/-- sorted(set(..)) -/
theorem jf_sortedSet {ns r : List Int} (h : setI ns = some r) (hc : X.calm = true) (hg : Gl X "sorted") (hm : X.mg "sorted" = none) (hg2 : Gl X "set") (hm2 : X.mg "set" = none) (ha : JE X Γ T a ρ) (hr : Rdl X.K T ρ ns) (hs : starEach [a] X.env = (false, eval a X.env) :: starEach [] X.env := by exact star1 rfl)
    (hs3 : starEach [.Call (.Name "set" pp) [a] [] pos'] X.env = (false, eval (.Call (.Name "set" pp) [a] [] pos') X.env) :: starEach [] X.env := by exact star1 rfl) : JF X W Γ T (.Call (.Name "sorted" p) [.Call (.Name "set" pp) [a] [] pos'] [] pos) r := fun F σ L Lf H s t o Q q _ => by
  obtain ⟨hl, rfl⟩ := of_when h
  refine we_of (pe_callB (cr_sortedSet hc) hg hm (by decide +kernel) (pa_cons (pe_callTy (cr_setI hc) hg2 hm2 (by decide +kernel) (pa_cons we_pe pa_nil hs) (by decide) (by decide) hs (by rfl)) pa_nil hs3) (by decide) (by decide) hs3 (by rfl)) ?_
  refine ha F σ L Lf H s t o _ fun F1 M1 H1 u e1 t1 o1 r1 => ?_
  obtain ⟨l, ws, rfl, h2, h3⟩ := hr F1 M1 Lf H1 u t1 o1 r1
  have hw := ints_eq h3
  refine ⟨l, ns, rfl, hw ▸ h2, by unfold scanBound; omega, fun c q' hc' hq => ?_⟩
  obtain ⟨e2, o2, e3⟩ := own_ice (o := SetO X.w q' (fun j => decide (j ∈ ns)) c) o1 hq
  refine ⟨q', _, c, rfl, upd_same, by omega, fun ns' p' g1 g2 g3 g4 => ?_⟩
  have : ns' = sortI (uniq ns) := by
    refine sorted_one ?_ (g1.imp fun h => Int.le_of_lt h) (sortI_le _)
    refine List.Perm.trans ((List.perm_ext_iff_of_nodup (g1.imp fun h => Int.ne_of_lt h) (nodup_uniq ns)).mpr fun x => ?_) (sortI_perm _).symm
    rw [g2, mem_uniq]
    exact decide_eq_true_iff
  subst this
  exact jf_new q (e1.trans e2) (t1.mono e2) o2 (paired_ints _) p' g4
end
end G

/-! HG: values of several kinds in lists and tuples; a list of two lists of one's own held against data. -/
namespace G
open PySem PySem.Spec PyProof.Rows L2 C8
open Rp (rep)
section
variable {X : Cx} {Γ : Slots} {T : Th} {e : Expr} {es : List Expr} {pos : Pos} {ρ ρ' : VR}
theorem je_imp (h : ∀ F v, ρ.rel F v → ρ'.rel F v) (he : JE X Γ T e ρ) : JE X Γ T e ρ' := fun F σ L Lf H s t o Q q =>
  he F σ L Lf H s t o Q fun F1 M1 H1 v e1 t1 o1 r => q F1 M1 H1 v e1 t1 o1 (h _ _ r)
/-- the same value, told as one of several kinds -/
class Emb (A B : Type) [Rp A] [Rp B] where
  f : A → B
  ok : ∀ {F : Hp} {v : V} {a : A}, rep F v a → rep F v (f a)
instance : Emb Int Anyv := ⟨Anyv.i, fun h => h⟩
instance : Emb Anyv Anyv := ⟨id, fun h => h⟩
theorem paired_emb {A B : Type} [Rp A] [Rp B] [Emb A B] {F : Hp} : ∀ {vs : List V} {xs : List A}, Paired (rep F) vs xs → Paired (rep F) vs (xs.map (Emb.f : A → B))
  | _, _, .nil => .nil
  | _, _, .cons h t => .cons (Emb.ok h) (paired_emb t)
instance {A B : Type} [Rp A] [Rp B] [Emb A B] : Emb (List A) (List B) := ⟨List.map Emb.f, fun ⟨p, vs, h1, h2, h3⟩ => ⟨p, vs, h1, h2, paired_emb h3⟩⟩
instance {A B C A' B' C' : Type} [Rp A] [Rp B] [Rp C] [Rp A'] [Rp B'] [Rp C'] [Emb A A'] [Emb B B'] [Emb C C'] : Emb (T3 A B C) (T3 A' B' C') :=
  ⟨fun x => ⟨Emb.f x.a, Emb.f x.b, Emb.f x.c⟩, fun ⟨p, x, y, z, h1, h2, h3, h4, h5⟩ => ⟨p, x, y, z, h1, h2, Emb.ok h3, Emb.ok h4, Emb.ok h5⟩⟩
def emb {A B : Type} [Rp A] [Rp B] [Emb A B] (x : A) : B := Emb.f x
theorem je_emb {A B : Type} [Rp A] [Rp B] [Emb A B] {x : A} (he : JE X Γ T e (Dat x)) : JE X Γ T e (Dat (emb x : B)) := je_imp (fun _ _ h => Emb.ok h) he
/-- a list of ints all -/
def allI : List Anyv → Option (List Int)
  | [] => some []
  | .i a :: l => (allI l).map (a :: ·)
  | _ :: _ => none
theorem allI_map (ys : List Int) : allI (ys.map Anyv.i) = some ys := by
  induction ys with
  | nil => rfl
  | cons y ys ih =>
    show (allI (ys.map Anyv.i)).map (y :: ·) = _
    rw [ih]
    rfl
theorem allI_eq : ∀ {xs : List Anyv} {ys : List Int}, allI xs = some ys → xs = ys.map Anyv.i
  | [], ys, h => by cases h; rfl
  | .i a :: l, ys, h => by
    unfold allI at h
    cases hl : allI l with
    | none => rw [hl] at h; cases h
    | some zs =>
      rw [hl] at h
      cases h
      rw [allI_eq hl]
      rfl
  | .b _ :: _, _, h => nomatch h
  | .s _ :: _, _, h => nomatch h
  | .n :: _, _, h => nomatch h
  | .t :: _, _, h => nomatch h
  | .l :: _, _, h => nomatch h
theorem paired_anyI {F : Hp} : ∀ {vs : List V} {ys : List Int}, Paired (rep F) vs (ys.map Anyv.i) → Paired (rep F) vs ys
  | [], [], .nil => .nil
  | _ :: _, _ :: _, .cons h r => .cons h (paired_anyI r)
theorem je_unAL {xs : List Anyv} {ys : List Int} (h : allI xs = some ys) (ha : JE X Γ T e (Dat xs)) : JE X Γ T e (Dat ys) := je_imp (fun F v r => by
  obtain ⟨p, vs, h1, h2, h3⟩ := r
  have e := allI_eq h
  subst e
  exact ⟨p, vs, h1, h2, paired_anyI h3⟩) ha
theorem je_any1 {a : Expr} {n : Nat} (ha : JE X Γ T a (Dat (1 : Int))) (hs : starEach [a] X.env = (false, eval a X.env) :: starEach [] X.env := by exact star1 rfl) : JE X Γ T (.Tuple [a] n pos) (Dat Anyv.t) := fun F σ L Lf H s t o Q k =>
  we_of (pe_tup wa_pa) (ja_cons ha ja_nil hs F σ L Lf H s t o _ fun F1 M1 H1 vs e1 t1 o1 rs => by
    obtain ⟨_, rfl, r1⟩ := vrs1 rs
    refine ⟨by show 1 ≤ sizeLine; decide, fun p hp => ?_⟩
    obtain ⟨e2, o2, e3⟩ := own_ice (o := .tup [_]) o1 hp
    exact k _ M1 _ _ (e1.trans e2) (t1.mono e2) o2 ⟨p, rfl, by rw [e3, show _ = V.int 1 from r1]⟩)
theorem je_any1l' {a : Expr} (ha : JE X Γ T a (Dat (1 : Int))) (hs : starEach [a] X.env = (false, eval a X.env) :: starEach [] X.env := by exact star1 rfl) : JE X Γ T (.List [a] pos) (Dat Anyv.l) := je_imp (fun F v r => by
  obtain ⟨p, vs, h1, h2, h3⟩ := r
  cases h3 with
  | cons h t =>
    cases t
    exact ⟨p, h1, by rw [h2, show _ = V.int 1 from h]⟩) (je_listF (xs := [(1 : Int)]) (ja_cons ha ja_nil hs) (by show 1 ≤ sizeLine; decide))
/-- a list of two lists of one's own, held against data -/
theorem dpv_refl2 {A B : Type} [Rp A] [Rp B] [Dpv A] [Dpv B] {K : PySem.W.Frag} {p q : Addr} {xs : A} {ys : B} (h1 : RdD K T (Ref p) xs) (h2 : RdD K T (Ref q) ys) : RdD K T (Dat ([RefA.mk p, RefA.mk q] : List RefA)) (Two.mk xs ys) := fun F L Lf H v t o r => by
  obtain ⟨a, vs, rfl, hf, pr⟩ := r
  cases pr with
  | cons r1 pr =>
    cases pr with
    | cons r2 pr =>
      cases pr
      exact .lst (SqL.of (o.sub _ _ hf)) (.cons (h1 F L Lf H _ t o r1) (.cons (h2 F L Lf H _ t o r2) .nil))
end
end G

/-! GP: plain laws about bits, dicts, lists. -/
namespace G
open PySem PySem.Spec PyProof.Rows L2
/-! ### bits -/
theorem and_nat (a b : Nat) : Builtin.bitAnd (a : Int) (b : Int) = ((a &&& b : Nat) : Int) := by
  unfold Builtin.bitAnd
  rw [decide_eq_true (Int.natCast_nonneg a), decide_eq_true (Int.natCast_nonneg b)]
  rfl
theorem xor_add_nat : ∀ a b : Nat, (a ^^^ b) + 2 * (a &&& b) = a + b := by
  intro a
  induction a using Nat.strongRecOn with
  | ind a ih =>
    intro b
    by_cases h : a = 0
    · subst h; simp
    · have h1 := ih (a / 2) (by omega) (b / 2)
      rw [← Nat.xor_div_two, ← Nat.and_div_two] at h1
      have y1 := @Nat.xor_mod_two_eq_one a b
      have y2 := @Nat.and_mod_two_eq_one a b
      omega
theorem or_add_nat (a b : Nat) : (a ||| b) + (a &&& b) = a + b := by
  have h := xor_add_nat a b
  have h2 : a ||| b = (a ^^^ b) + (a &&& b) := by
    have h3 : (a ^^^ b) &&& (a &&& b) = 0 := by
      apply Nat.eq_of_testBit_eq; intro i
      simp only [Nat.testBit_and, Nat.testBit_xor, Nat.zero_testBit]
      cases a.testBit i <;> cases b.testBit i <;> rfl
    have h4 : (a ^^^ b) ^^^ (a &&& b) = a ||| b := by
      apply Nat.eq_of_testBit_eq; intro i
      simp only [Nat.testBit_and, Nat.testBit_xor, Nat.testBit_or]
      cases a.testBit i <;> cases b.testBit i <;> rfl
    have h5 := xor_add_nat (a ^^^ b) (a &&& b)
    omega
  omega
theorem not_not (x : Int) : Builtin.bitNot (Builtin.bitNot x) = x := by unfold Builtin.bitNot; omega
theorem xor_nat (a b : Nat) : Builtin.bitXor (a : Int) (b : Int) = ((a ^^^ b : Nat) : Int) := by
  rw [bitXor_and, and_nat]
  have := xor_add_nat a b
  omega
theorem or_nat (a b : Nat) : Builtin.bitOr (a : Int) (b : Int) = ((a ||| b : Nat) : Int) := by
  have h : Builtin.bitXor (a : Int) b = Builtin.bitOr a b - Builtin.bitAnd a b := rfl
  rw [xor_nat, and_nat] at h
  have h1 := xor_add_nat a b
  have h2 := or_add_nat a b
  omega
theorem xor_one (t : Int) : Builtin.bitXor t 1 = t + 1 - 2 * (t % 2) := by rw [bitXor_and, bitAnd_m1]
theorem xor_eq_one {a b : Int} (ha : 0 ≤ a) (hb : 0 ≤ b) : Builtin.bitXor a b = 1 ↔ a / 2 = b / 2 ∧ a ≠ b := by
  obtain ⟨m, rfl⟩ := Int.eq_ofNat_of_zero_le ha
  obtain ⟨n, rfl⟩ := Int.eq_ofNat_of_zero_le hb
  rw [xor_nat]
  constructor
  · intro h
    have h1 : m ^^^ n = 1 := by omega
    have h2 : n = m ^^^ 1 := by rw [← h1, ← Nat.xor_assoc, Nat.xor_self, Nat.zero_xor]
    have h3 := xor_nat m 1
    have h4 := xor_one m
    rw [show ((1 : Nat) : Int) = 1 from rfl] at h3
    rw [h3, ← h2] at h4
    omega
  · rintro ⟨h1, h2⟩
    have h3 := xor_nat m 1
    have h4 := xor_one m
    rw [show ((1 : Nat) : Int) = 1 from rfl] at h3
    rw [h3] at h4
    have h5 : n = m ^^^ 1 := by omega
    rw [h5, ← Nat.xor_assoc, Nat.xor_self, Nat.zero_xor]
    rfl
/-! ### dicts -/
section
variable {κ A : Type} [DecidableEq κ]
theorem any_dget {k : κ} : ∀ d : List (κ × A), (d.any fun kv => decide (kv.1 = k)) = (dget d k).isSome
  | [] => rfl
  | kv :: d => by
    rw [List.any_cons, any_dget d]
    unfold dget
    rw [List.find?_cons]
    cases decide (kv.1 = k) <;> rfl
theorem dput_new {d : List (κ × A)} {k : κ} {a : A} (h : dget d k = none) : dput d k a = d ++ [(k, a)] := by
  unfold dput
  rw [any_dget, h]
  rfl
theorem dputO_new {d : List (κ × A)} {k : κ} {a : A} (h : dget d k = none) (hl : d.length < 16777216) : dputO d k a = some (d ++ [(k, a)]) := by
  unfold dputO
  rw [when_ok (by rw [sizeLine_eq]; exact hl), dput_new h]
theorem dget_append (d d' : List (κ × A)) (k : κ) : dget (d ++ d') k = (dget d k).or (dget d' k) := by
  unfold dget
  rw [List.find?_append]
  cases d.find? fun kv => decide (kv.1 = k) <;> rfl
theorem dget_one (k k' : κ) (a : A) : dget [(k, a)] k' = if k = k' then some a else none := by
  unfold dget
  by_cases h : k = k' <;> simp [h]
theorem dget_put (d : List (κ × A)) (k k' : κ) (a : A) : dget (dput d k a) k' = if k = k' then some a else dget d k' := by
  unfold dput
  split
  · rename_i h
    have aux : ∀ d : List (κ × A), (d.any fun kv => decide (kv.1 = k)) = true ∨ k ≠ k' → dget (d.map fun kv => if kv.1 = k then (kv.1, a) else kv) k' = if k = k' then some a else dget d k' := by
      intro d
      induction d with
      | nil => intro h; rcases h with h | h; · cases h
               · rw [if_neg h]; rfl
      | cons kv d ih =>
        intro h
        unfold dget at ih ⊢
        rw [List.map_cons, List.find?_cons, List.find?_cons]
        by_cases q : kv.1 = k
        · rw [if_pos q]
          by_cases r : k = k'
          · simp [q, r]
          · have : ¬ kv.1 = k' := fun z => r (q.symm.trans z)
            simp only [decide_eq_false this, if_neg r]
            have := ih (.inr r)
            rw [if_neg r] at this
            exact this
        · rw [if_neg q]
          by_cases r : kv.1 = k'
          · have : ¬ k = k' := fun z => q (r.trans z.symm)
            simp [r, this]
          · simp only [decide_eq_false r]
            refine ih ?_
            rcases h with h | h
            · rw [List.any_cons, decide_eq_false q, Bool.false_or] at h
              exact .inl h
            · exact .inr h
    exact aux d (.inl h)
  · rename_i h
    rw [any_dget] at h
    have h' : dget d k = none := by cases z : dget d k with | none => rfl | some _ => rw [z] at h; exact absurd rfl h
    rw [dget_append, dget_one]
    by_cases r : k = k'
    · subst r; rw [h', if_pos rfl]; rfl
    · rw [if_neg r, if_neg r]; cases dget d k' <;> rfl
theorem dput_len (d : List (κ × A)) (k : κ) (a : A) : (dput d k a).length ≤ d.length + 1 := by
  unfold dput
  split
  · rw [List.length_map]; omega
  · rw [List.length_append]; exact Nat.le_refl _
theorem dputO_eq {d : List (κ × A)} {k : κ} {a : A} (hl : d.length < 16777216) : dputO d k a = some (dput d k a) := when_ok (by rw [sizeLine_eq]; exact hl)
end
end G
namespace G
open PySem PySem.Spec PyProof.Rows L2
theorem emod_rng (a : Int) {b : Int} (h : 0 < b) : 0 ≤ a % b ∧ a % b < b := ⟨Int.emod_nonneg _ (by omega), Int.emod_lt_of_pos _ h⟩
theorem log2_small {j : Int} (h : j.natAbs < 2 ^ 200) : j.natAbs.log2 < 9000 := by
  by_cases hz : j.natAbs = 0
  · rw [hz]; decide
  · have : j.natAbs.log2 < 200 := (Nat.log2_lt hz).mpr h
    omega
theorem divO_small {i j : Int} (h0 : 0 < j) (h : j < 2 ^ 200) : divO i j = some (i / j) := divO_eq h0 (log2_small (by omega))
end G

/-! ### a mirror gives a value such that -/
namespace G
open PySem PySem.Spec PyProof.Rows L2
def Ok {α : Type} (x : Option α) (P : α → Prop) : Prop := ∃ a, x = some a ∧ P a
section
variable {α β S R : Type} {x y : Option α} {P P' : α → Prop} {f : α → Option β} {Q : β → Prop}
theorem ok_some {a : α} (h : P a) : Ok (some a) P := ⟨a, rfl, h⟩
theorem ok_bind (h : Ok x P) (k : ∀ a, P a → Ok (f a) Q) : Ok (x.bind f) Q := by
  obtain ⟨a, rfl, h⟩ := h
  exact k a h
theorem ok_bs {a : α} (k : Ok (f a) Q) : Ok ((some a).bind f) Q := k
theorem ok_at {a : α} (e : x = some a) (k : Ok (f a) Q) : Ok (x.bind f) Q := by subst e; exact k
theorem ok_if {c : Bool} (h : c = true → Ok x P) (k : c = false → Ok y P) : Ok (if c = true then x else y) P := by
  cases c with
  | true => exact h rfl
  | false => exact k rfl
theorem ok_le (h : Ok x P) (k : ∀ a, P a → P' a) : Ok x P' := by
  obtain ⟨a, e, h⟩ := h
  exact ⟨a, e, k a h⟩
theorem ok_fold {f : S → α → Option S} {xs : List α} {s : S} (Inv : Nat → S → Prop) (h0 : Inv 0 s) (hs : ∀ i x s, xs[i]? = some x → Inv i s → Ok (f s x) (Inv (i + 1))) : Ok (foldO f s xs) (Inv xs.length) := foldO_inv Inv h0 hs
theorem ok_foldC {f : S → α → Option (Ctl S R)} {xs : List α} {s : S} {g : Ctl S R → Option β} (Inv : Nat → S → Prop) (h0 : Inv 0 s) (hs : ∀ i x s, xs[i]? = some x → Inv i s → Ok (f s x) fun c => ∃ s', c = .go s' ∧ Inv (i + 1) s')
    (k : ∀ s, Inv xs.length s → Ok (g (.go s)) Q) : Ok ((foldC f s xs).bind g) Q := by
  obtain ⟨s', h1, h2⟩ := foldC_inv (f := f) Inv h0 fun i x s hx hi => by
    obtain ⟨c, e, s', rfl, h⟩ := hs i x s hx hi
    exact ⟨s', e, h⟩
  rw [h1]
  exact k s' h2
/-- a test's outcome -/
theorem ok_T {c : Bool} (e : c = true) (h : Ok x P) : Ok (if c = true then x else y) P := by subst e; exact h
theorem ok_F {c : Bool} (e : c = false) (h : Ok y P) : Ok (if c = true then x else y) P := by subst e; exact h
theorem ok_mem {α : Type} {xs : List α} {i : Int} {P : α → Prop} (h0 : 0 ≤ i) (h1 : i < xs.length) (h : ∀ x ∈ xs, P x) : Ok (atI xs i) P := ⟨_, atI_lt h0 h1, h _ (List.getElem_mem _)⟩
end
theorem ok_mod {i j : Int} {P : Int → Prop} (h : 0 < j) (k : ∀ r, 0 ≤ r → r < j → P r) : Ok (modO i j) P := ⟨_, modO_eq h, k _ (emod_rng i h).1 (emod_rng i h).2⟩
end G

namespace G
open PySem PySem.Spec PyProof.Rows L2
/-- the first k of a list -/
theorem cut_to {α : Type} (xs : List α) {k : Int} (h : 0 ≤ k) (h2 : k ≤ xs.length) : cutL xs none (some k) = xs.take k.toNat := by
  unfold cutL
  have h1 : HT.sIx xs.length 0 none = 0 := rfl
  have h3 : HT.sIx xs.length xs.length (some k) = k.toNat := by
    unfold HT.sIx
    simp
    split <;> omega
  rw [h1, h3]
  simp
section
variable {κ A B : Type} [DecidableEq κ]
theorem dget_map (f : A → B) (k : κ) : ∀ d : List (κ × A), dget (d.map fun q => (q.1, f q.2)) k = (dget d k).map f
  | [] => rfl
  | kv :: d => by
    have ih := dget_map f k d
    unfold dget at ih ⊢
    rw [List.map_cons, List.find?_cons, List.find?_cons]
    cases decide (kv.1 = k) with
    | true => rfl
    | false => exact ih
theorem dget_none {d : List (κ × A)} {k : κ} (h : ∀ kv ∈ d, kv.1 ≠ k) : dget d k = none := by
  unfold dget
  rw [List.find?_eq_none.mpr fun kv hk => by simpa using h kv hk]
  rfl
end
/-- a list grown in a loop by what its turn adds -/
theorem ok_fold' {α S : Type} {f : S → α → Option S} {xs : List α} {s : S} {Q : S → Prop} (Inv : Nat → S → Prop) (h0 : Inv 0 s) (hs : ∀ i x s, xs[i]? = some x → Inv i s → Ok (f s x) (Inv (i + 1))) (k : ∀ s, Inv xs.length s → Q s) : Ok (foldO f s xs) Q := ok_le (ok_fold Inv h0 hs) k
theorem intsFrom_succ (a : Int) (n : Nat) : intsFrom a (n + 1) = intsFrom a n ++ [a + n] := by
  unfold intsFrom
  rw [List.range_succ, List.map_append]
  rfl
theorem mapB_ok {A B : Type} [Inhabited B] {f : A → Option B} {P : A → B → Prop} {xs : List A} (hl : xs.length ≤ 1000000) (h : ∀ x ∈ xs, Ok (f x) (P x)) : ∃ g : A → B, mapB f xs = some (xs.map g) ∧ ∀ x ∈ xs, P x (g x) := by
  refine ⟨fun x => (f x).getD default, mapB_eq hl fun x hx => ?_, fun x hx => ?_⟩
  · obtain ⟨b, e, _⟩ := h x hx
    rw [e]; rfl
  · obtain ⟨b, e, hb⟩ := h x hx
    show P x ((f x).getD default)
    rw [e]; exact hb
theorem lputO_in {A : Type} {xs : List A} {i : Int} {y : A} (h0 : 0 ≤ i) (h : i < xs.length) : lputO xs i y = some (xs.set i.toNat y) := by
  unfold lputO ixN
  rw [if_pos h0, if_pos (by omega)]
  rfl
theorem ok_el {S R β : Type} {s : S} {k : S → Option β} {f : R → Option β} {Q : β → Prop} (h : Ok (k s) Q) : Ok ((Ctl.go s : Ctl S R).el k f) Q := h
section
variable {A : Type} [Rp A] [d : DpvT A] [DecidableEq A]
theorem inO_T (x : A) (ys : List A) : Ok (inO x ys) fun b => (b = true ↔ x ∈ ys) := ⟨_, when_ok ⟨DpvT.all x, List.all_eq_true.mpr fun y _ => DpvT.all y⟩, decide_eq_true_iff⟩
theorem ixOf_is [BEq A] [LawfulBEq A] (ps : List A) (q : A) : ixOf ps q = ps.idxOf q := by
  unfold ixOf List.idxOf
  congr 1
  funext y
  exact Bool.eq_iff_iff.mpr (by simp)
theorem indexO_K {A : Type} [Rp A] [Dpv A] [DecidableEq A] [BEq A] [LawfulBEq A] {x : A} {ys : List A} (h : x ∈ ys) (hl : ∀ y ∈ ys, Dpv.lok y = true) : indexO ys x = some (ys.idxOf x : Int) := by
  have e : ixOf ys x = ys.idxOf x := by
    unfold ixOf List.idxOf
    congr 1
    funext y
    exact Bool.eq_iff_iff.mpr (by simp)
  rw [← e]
  unfold indexO when
  exact if_pos ⟨hl x h, List.all_eq_true.mpr hl, h⟩
theorem indexO_T [BEq A] [LawfulBEq A] {x : A} {ys : List A} (h : x ∈ ys) : indexO ys x = some (ys.idxOf x : Int) := by
  rw [← ixOf_is]
  unfold indexO when
  exact if_pos ⟨DpvT.all x, List.all_eq_true.mpr fun y _ => DpvT.all y, h⟩
end
theorem xor_zero {a : Int} (h : 0 ≤ a) : Builtin.bitXor a 0 = a := by
  obtain ⟨n, rfl⟩ := Int.eq_ofNat_of_zero_le h
  have := xor_nat n 0
  rw [Nat.xor_zero] at this
  exact this
theorem while_ok {S : Type} {t : S → Option Bool} {w : S → Option S} (Inv : S → Prop) (μ : S → Nat) {Q : S → Prop}
    (step : ∀ s, Inv s → Ok (t s) fun b => if b = true then Ok (w s) fun s' => Inv s' ∧ μ s' < μ s else Q s) : ∀ (n : Nat) (s : S), Inv s → μ s < n → Ok (whileO t w n s) Q
  | 0, _, _, h => absurd h (by omega)
  | n + 1, s, hi, h => by
    unfold whileO
    obtain ⟨b, e, hb⟩ := step s hi
    rw [e]
    cases b with
    | false => exact ok_some hb
    | true =>
      have hb : Ok (w s) fun s' => Inv s' ∧ μ s' < μ s := hb
      exact ok_bs (ok_T rfl (ok_bind hb fun s' ⟨h1, h2⟩ => while_ok Inv μ step n s' h1 (by omega)))
end G

namespace W
set_option maxHeartbeats 4000000
open PySem PySem.Spec PyProof.Rows L2 C8 G
open Rp (rep)
def top (i : Nat) : Stmt := PySem.Challenge.pw_gatefold_k34_board_made.main.body.getD i (.Pass ⟨0, 0, 0, 0⟩)
inductive Xc where
  | NoLine
  | NoName
  | NoTie
  | NoKnot
  | NoCut
  | NoGoal
  | NoSize
  | NoBoard
  | NoText
  | NoMatch
  deriving DecidableEq
def Xc.nm : Xc → Str
  | .NoLine => "NoLine"
  | .NoName => "NoName"
  | .NoTie => "NoTie"
  | .NoKnot => "NoKnot"
  | .NoCut => "NoCut"
  | .NoGoal => "NoGoal"
  | .NoSize => "NoSize"
  | .NoBoard => "NoBoard"
  | .NoText => "NoText"
  | .NoMatch => "NoMatch"
def Xc.all : List Xc := [.NoLine, .NoName, .NoTie, .NoKnot, .NoCut, .NoGoal, .NoSize, .NoBoard, .NoText, .NoMatch]
theorem Xc.all_ok {p : Xc → Prop} [DecidablePred p] (h : (Xc.all.all fun x => decide (p x)) = true) : ∀ x, p x := fun x => of_decide_eq_true (List.all_eq_true.mp h x (by cases x <;> decide))
structure S_Board where
  many : Int
  rows : (List (T3 Int (List Int) Int))
  ends : (List Int)
  deriving DecidableEq
abbrev O_Board (K : PySem.W.Frag) (s : S_Board) : OV := OObj (He.ga K "Board") [("many", .v (Dat s.many)), ("rows", .o (OL s.rows)), ("ends", .o (OL s.ends))]
abbrev s_l_cut : Stmt := top 24
def m_l_cut (cell : Int) (there : (List Int)) : Option (List Int) :=
  ((some ((1 : Int) + (cell % (6 : Int)))).bind fun count => ((some ((1 : Int) + ((cell / (6 : Int)) % (5 : Int)))).bind fun step => ((rngO (0 : Int) count).bind fun rg => (mapB (fun (x : Int) => ((mulO step x).bind fun pr => (modO ((cell / (30 : Int)) + pr) (there.length : Int)).bind fun re => (atI there (((there.length : Int) - (1 : Int)) - re)).bind fun it_ => some it_)) rg).bind fun found => ((setI found).bind fun su => some su))))
abbrev N_l_cut : List Str := ["_law_cell", "_law_there", "_law_count", "_law_step", "_law_found", "_law_k"]
theorem sc_l_cut : FnScope N_l_cut ["_law_cell", "_law_there"] (defScope s_l_cut) := ⟨rfl, rfl, rfl, by decide +kernel, rfl, by decide +kernel, by decide +kernel⟩
abbrev sp_l_cut (K : PySem.W.Frag) : Sp := (mSpec (fun a : (Int × Addr × (List Int)) => [Dat a.1, Ref a.2.1]) (fun a => [(a.2.1, (OL (a.2.2 : (List Int))))]) (fun a => m_l_cut a.1 a.2.2) (fun a r ρ T => ρ = Dat r ∧ T = [(a.2.1, (OL (a.2.2 : (List Int))))])).sp
theorem ok_l_cut {P : Program} {w : World} {K : PySem.W.Frag} {mg : Str → Option Value} {base : Heap} {f : Addr} {fd : FuncData} (F : FnD K "_law_cut" "_law_cut" s_l_cut f fd) (t_len : mg "len" = none) (t_range : mg "range" = none) (t_set : mg "set" = none) (t_sorted : mg "sorted" = none) : FnOk P w K mg base (L2N.CX P w) 1 f fd ["_law_cell", "_law_there"] (sp_l_cut K) := by
  have nd := sc_l_cut.nd
  refine fnM (N := N_l_cut) _ _ _ _ F sc_l_cut (fun _ => rfl) fun cdv Ar outer s H E hr a r hm => ?_
  obtain ⟨cell, p_there, there⟩ := a
  replace hm : m_l_cut cell there = some r := hm
  unfold m_l_cut at hm
  show JSs _ _ [some (Dat cell), some (Ref p_there), none, none, none, none] [(p_there, (OL (there : (List Int))))] _ _
  obtain ⟨count, e_count, hm⟩ := obind hm
  refine js_set 2 nd (je_eq (je_add je_int (je_mod (je_var 0 rfl) je_int (by decide +kernel))) (Option.some.inj e_count)) ?_
  obtain ⟨step, e_step, hm⟩ := obind hm
  refine js_set 3 nd (je_eq (je_add je_int (je_mod (je_div (je_var 0 rfl) je_int (by decide +kernel)) je_int (by decide +kernel))) (Option.some.inj e_step)) ?_
  obtain ⟨rg, h_rg, hm⟩ := obind hm
  obtain ⟨found, h_found, hm⟩ := obind hm
  refine js_setM 4 [("_law_k", 5)] h_found (fun _ => True) rfl nd (blkOk_by (own := [("_law_k", 5)]) (N := N_l_cut) (sc := defScope s_l_cut) (by decide +kernel)) (ji_rng1 h_rg rfl t_range (je_var 2 rfl)) trivial (fun x _ _ hx => by obtain ⟨pr, h_pr, hx⟩ := obind hx; obtain ⟨re, h_re, hx⟩ := obind hx; obtain ⟨it_, h_it_, hx⟩ := obind hx; cases hx; exact ⟨_, _, (by decide), fun _ _ _ _ _ => (jg_name 5 nd), fun _ _ _ _ _ => (je_ixL (je_var 1 rfl) (rdl_own 0 rfl) (je_sub (je_sub (je_lenL rfl t_len (je_var 1 rfl) (rdl_own 0 rfl)) je_int) (je_mod' h_re (je_add (je_div (je_var 0 rfl) je_int (by decide +kernel)) (je_mul' h_pr (je_var 3 rfl) (je_var 5 rfl))) (je_lenL rfl t_len (je_var 1 rfl) (rdl_own 0 rfl)))) h_it_)⟩) ?_ (sw_true rfl rfl rfl (by decide +kernel))
  obtain ⟨su, h_su, hm⟩ := obind hm
  cases hm
  exact js_last (js_retE (je_jf (by exact jf_sortedSet h_su rfl rfl t_sorted rfl t_set (je_var 4 rfl) rdl_dat)) (TEnt.refl _) ⟨rfl, rfl⟩)
abbrev s_l_piece : Stmt := top 25
def m_l_piece_b1 (there : (List Int)) (st : (Int × (List Int))) (x : Int) : Option (Int × (List Int)) :=
  ((modO st.1 (there.length : Int)).bind fun re => (atI there re).bind fun it__1 => (appO st.2 it__1).bind fun found_1 => ((divO st.1 (there.length : Int)).bind fun qu => some (qu, found_1)))
def m_l_piece (cell : Int) (there : (List Int)) : Option (T3 Int (List Int) Int) :=
  ((atI there (-(1 : Int))).bind fun it_ => (some ((it_ + (1 : Int)) + (cell % (20 : Int)))).bind fun knot => ((some (cell / (20 : Int))).bind fun cell_1 => ((some ((1 : Int) + (cell_1 % (6 : Int)))).bind fun count => ((some (cell_1 / (6 : Int))).bind fun cell_2 => ((rngO (0 : Int) count).bind fun rg => ((foldO (m_l_piece_b1 there) (cell_2, []) rg).bind fun sn => ((setI sn.2).bind fun su => ((shlO (1 : Int) (su.length : Int)).bind fun sh => (shlO (1 : Int) sh).bind fun sh_1 => (modO sn.1 sh_1).bind fun re_1 => some (T3.mk knot su re_1)))))))))
abbrev N_l_piece : List Str := ["_law_cell", "_law_there", "_law_knot", "_law_count", "_law_found", "_law_k", "_law_cut_here"]
theorem sc_l_piece : FnScope N_l_piece ["_law_cell", "_law_there"] (defScope s_l_piece) := ⟨rfl, rfl, rfl, by decide +kernel, rfl, by decide +kernel, by decide +kernel⟩
abbrev sp_l_piece (K : PySem.W.Frag) : Sp := (mSpec (fun a : (Int × Addr × (List Int)) => [Dat a.1, Ref a.2.1]) (fun a => [(a.2.1, (OL (a.2.2 : (List Int))))]) (fun a => m_l_piece a.1 a.2.2) (fun a r ρ T => ρ = Dat r ∧ T = [(a.2.1, (OL (a.2.2 : (List Int))))])).sp
theorem ok_l_piece {P : Program} {w : World} {K : PySem.W.Frag} {mg : Str → Option Value} {base : Heap} {f : Addr} {fd : FuncData} (F : FnD K "_law_piece" "_law_piece" s_l_piece f fd) (t_len : mg "len" = none) (t_range : mg "range" = none) (t_set : mg "set" = none) (t_sorted : mg "sorted" = none) : FnOk P w K mg base (L2N.CX P w) 1 f fd ["_law_cell", "_law_there"] (sp_l_piece K) := by
  have nd := sc_l_piece.nd
  refine fnM (N := N_l_piece) _ _ _ _ F sc_l_piece (fun _ => rfl) fun cdv Ar outer s H E hr a r hm => ?_
  obtain ⟨cell, p_there, there⟩ := a
  replace hm : m_l_piece cell there = some r := hm
  unfold m_l_piece at hm
  show JSs _ _ [some (Dat cell), some (Ref p_there), none, none, none, none, none] [(p_there, (OL (there : (List Int))))] _ _
  obtain ⟨it_, h_it_, hm⟩ := obind hm
  obtain ⟨knot, e_knot, hm⟩ := obind hm
  refine js_set 2 nd (je_eq (je_add (je_add (je_ixL (je_var 1 rfl) (rdl_own 0 rfl) (je_neg je_int) h_it_) je_int) (je_mod (je_var 0 rfl) je_int (by decide +kernel))) (Option.some.inj e_knot)) ?_
  obtain ⟨cell_1, e_cell_1, hm⟩ := obind hm
  refine js_set 0 nd (je_eq (je_div (je_var 0 rfl) je_int (by decide +kernel)) (Option.some.inj e_cell_1)) ?_
  obtain ⟨count, e_count, hm⟩ := obind hm
  refine js_set 3 nd (je_eq (je_add je_int (je_mod (je_var 0 rfl) je_int (by decide +kernel))) (Option.some.inj e_count)) ?_
  obtain ⟨cell_2, e_cell_2, hm⟩ := obind hm
  refine js_set 0 nd (je_eq (je_div (je_var 0 rfl) je_int (by decide +kernel)) (Option.some.inj e_cell_2)) ?_
  refine js_newL 4 nd (xs := ([] : (List Int))) ja_nil (by show 0 ≤ sizeLine; decide) fun p_found => ?_
  obtain ⟨rg, h_rg, hm⟩ := obind hm
  obtain ⟨sn, hl, hm⟩ := obind hm
  refine js_forO Dat (fun _ => True) hl (fun (st : (Int × (List Int))) => [some (Dat st.1), some (Ref p_there), some (Dat knot), some (Dat count), some (Ref p_found), none, none]) (fun (st : (Int × (List Int))) => [(p_found, (OL (st.2 : (List Int)))), (p_there, (OL (there : (List Int))))]) (passOwn rfl) rfl (ji_rng1 h_rg rfl t_range (je_var 3 rfl)) (.keep (.keep (.keep (.keep (.keep (.drop (.drop Wk.nil))))))) rfl (fun _ => trivial) (fun x st rr hx hf => ⟨_, _, (jg_name 5 nd), ?_⟩) ?_
  · replace hf : (m_l_piece_b1 there) st x = some rr := hf
    unfold m_l_piece_b1 at hf
    obtain ⟨re, h_re, hf⟩ := obind hf
    obtain ⟨it__1, h_it__1, hf⟩ := obind hf
    obtain ⟨found_1, h_found_1, hf⟩ := obind hf
    refine js_app (B := Int) 0 rfl (je_var 4 rfl) ?_ h_found_1 ?_
    · exact (je_ixL (je_var 1 rfl) (rdl_own 1 rfl) (je_mod' h_re (je_var 0 rfl) (je_lenL rfl t_len (je_var 1 rfl) (rdl_own 1 rfl))) h_it__1)
    obtain ⟨qu, h_qu, hf⟩ := obind hf
    refine js_set 0 nd (je_div' h_qu (je_var 0 rfl) (je_lenL rfl t_len (je_var 1 rfl) (rdl_own 1 rfl))) ?_
    cases hf
    exact js_nilE (TEnt.refl _) ⟨(.keep (.keep (.keep (.keep (.keep (.drop (.drop Wk.nil))))))), rfl⟩
  show JSs _ _ [some (Dat sn.1), some (Ref p_there), some (Dat knot), some (Dat count), some (Ref p_found), none, none] [(p_found, (OL (sn.2 : (List Int)))), (p_there, (OL (there : (List Int))))] _ _
  obtain ⟨su, h_su, hm⟩ := obind hm
  refine js_set 6 nd (je_jf (by exact jf_sortedSet h_su rfl rfl t_sorted rfl t_set (je_var 4 rfl) (rdl_own 0 rfl))) ?_
  obtain ⟨sh, h_sh, hm⟩ := obind hm
  obtain ⟨sh_1, h_sh_1, hm⟩ := obind hm
  obtain ⟨re_1, h_re_1, hm⟩ := obind hm
  cases hm
  exact js_last (js_retE (je_tup3 (je_var 2 rfl) (je_var 6 rfl) (je_mod' h_re_1 (je_var 0 rfl) (je_shl' h_sh_1 je_int (je_shl' h_sh je_int (je_lenL rfl t_len (je_var 6 rfl) rdl_dat))))) (TEnt.pick 1 rfl (TEnt.nil _)) ⟨rfl, rfl⟩)
abbrev s_l_pieces : Stmt := top 26
def m_l_pieces_b1  (st : ((List (T3 Int (List Int) Int)) × (List Int))) (x_1 : Int) : Option ((List (T3 Int (List Int) Int)) × (List Int)) :=
  if (decide ((x_1 % (2 : Int)) = (1 : Int))) = true then (((m_l_piece (x_1 / (2 : Int)) st.2).bind fun r_piece => (appO st.1 r_piece).bind fun made_1 => ((atI made_1 (-(1 : Int))).bind fun it_ => (appO st.2 it_.a).bind fun there_1 => some (made_1, there_1)))) else ((some (x_1 / (2 : Int))).bind fun cell => ((atI st.2 (-(1 : Int))).bind fun it__1 => (mulO ((cell % (3 : Int)) / (2 : Int)) ((cell / (3 : Int)) % (20 : Int))).bind fun pr => (some ((it__1 + (1 : Int)) + pr)).bind fun knot => ((m_l_cut (cell / (60 : Int)) st.2).bind fun r_cut => ((mulO (1000000000000000000000 : Int) knot).bind fun pr_1 => (mulO cell ((48271 : Int) + pr_1)).bind fun pr_2 => (mulO knot knot).bind fun pr_3 => (mulO (pr_3 * (69621 : Int)) (100000000000 : Int)).bind fun pr_4 => (some (pr_2 + pr_4)).bind fun bits => ((shlO (1 : Int) (r_cut.length : Int)).bind fun sh => (shlO (1 : Int) sh).bind fun sh_1 => (modO (bits / (7 : Int)) sh_1).bind fun re => (appO st.1 (T3.mk knot r_cut re)).bind fun made_2 => ((appO st.2 knot).bind fun there_2 => some (made_2, there_2)))))))
def m_l_pieces (cells : (List Int)) (many : Int) : Option (List (T3 Int (List Int) Int)) :=
  ((rngO (0 : Int) many).bind fun rg => (mapB (fun (x : Int) => some (x + (1 : Int))) rg).bind fun lc => ((foldO m_l_pieces_b1 ([], lc) cells).bind fun sn => some sn.1))
abbrev N_l_pieces : List Str := ["_law_cells", "_law_many", "_law_there", "_law_k", "_law_made", "_law_cell", "_law_knot", "_law_cut_here", "_law_bits"]
theorem sc_l_pieces : FnScope N_l_pieces ["_law_cells", "_law_many"] (defScope s_l_pieces) := ⟨rfl, rfl, rfl, by decide +kernel, rfl, by decide +kernel, by decide +kernel⟩
abbrev sp_l_pieces (K : PySem.W.Frag) : Sp := (mSpec (fun a : ((List Int) × Int) => [Dat a.1, Dat a.2]) (fun a => []) (fun a => m_l_pieces a.1 a.2) (fun a r ρ T => ρ = Dat r ∧ T = [])).sp
theorem ok_l_pieces {P : Program} {w : World} {K : PySem.W.Frag} {mg : Str → Option Value} {base : Heap} {f : Addr} {fd : FuncData} (F : FnD K "_law_pieces" "_law_pieces" s_l_pieces f fd) (t_len : mg "len" = none) (t_range : mg "range" = none) (c_l_piece : Cal P w K mg base 1 "_law_piece" ["_law_cell", "_law_there"] (sp_l_piece K)) (c_l_cut : Cal P w K mg base 1 "_law_cut" ["_law_cell", "_law_there"] (sp_l_cut K)) : FnOk P w K mg base (L2N.CX P w) 2 f fd ["_law_cells", "_law_many"] (sp_l_pieces K) := by
  have nd := sc_l_pieces.nd
  refine fnM (N := N_l_pieces) _ _ _ _ F sc_l_pieces (fun _ => rfl) fun cdv Ar outer s H E hr a r hm => ?_
  obtain ⟨cells, many⟩ := a
  replace hm : m_l_pieces cells many = some r := hm
  unfold m_l_pieces at hm
  show JSs _ _ [some (Dat cells), some (Dat many), none, none, none, none, none, none, none] [] _ _
  obtain ⟨rg, h_rg, hm⟩ := obind hm
  obtain ⟨lc, h_lc, hm⟩ := obind hm
  refine js_newM 2 [("_law_k", 3)] h_lc (fun _ => True) rfl nd (blkOk_by (own := [("_law_k", 3)]) (N := N_l_pieces) (sc := defScope s_l_pieces) (by decide +kernel)) (ji_rng1 h_rg rfl t_range (je_var 1 rfl)) trivial (fun x _ _ hx => by cases hx; exact ⟨_, _, (by decide), fun _ _ _ _ _ => (jg_name 3 nd), fun _ _ _ _ _ => (je_add (je_var 3 rfl) je_int)⟩) (fun p_there => ?_) (sw_true rfl rfl rfl (by decide +kernel))
  show JSs _ _ [some (Dat cells), some (Dat many), some (Ref p_there), none, none, none, none, none, none] [(p_there, (OL (lc : (List Int))))] _ _
  refine js_newL 4 nd (xs := ([] : (List (T3 Int (List Int) Int)))) ja_nil (by show 0 ≤ sizeLine; decide) fun p_made => ?_
  obtain ⟨sn, hl, hm⟩ := obind hm
  refine js_forO Dat (fun _ => True) hl (fun (st : ((List (T3 Int (List Int) Int)) × (List Int))) => [some (Dat cells), some (Dat many), some (Ref p_there), none, some (Ref p_made), none, none, none, none]) (fun (st : ((List (T3 Int (List Int) Int)) × (List Int))) => [(p_made, (OL (st.1 : (List (T3 Int (List Int) Int))))), (p_there, (OL (st.2 : (List Int))))]) (passOwn rfl) rfl (ji_list _ (je_var 0 rfl) fun _ _ => rdl_dat) (.keep (.keep (.keep (.drop (.keep (.drop (.drop (.drop (.drop Wk.nil))))))))) rfl (fun _ => trivial) (fun x_1 st rr hx_1 hf => ⟨_, _, (jg_name 5 nd), ?_⟩) ?_
  · replace hf : m_l_pieces_b1 st x_1 = some rr := hf
    unfold m_l_pieces_b1 at hf
    refine js_ifr (jt_c (jc_eqS (je_mod (je_var 5 rfl) je_int (by decide +kernel)) je_int)) (fun hc => ?_) (fun hc => ?_)
    · replace hf := oT hc hf
      obtain ⟨r_piece, h_r_piece, hf⟩ := obind hf
      obtain ⟨made_1, h_made_1, hf⟩ := obind hf
      refine js_app (B := (T3 Int (List Int) Int)) 0 rfl (je_var 4 rfl) ?_ h_made_1 ?_
      · exact (je_callM ((x_1 / (2 : Int)), p_there, st.2) (by exact h_r_piece) c_l_piece (hr.mono (by decide)) rfl (ja_cons (je_div (je_var 5 rfl) je_int (by decide +kernel)) (ja_cons (je_var 2 rfl) ja_nil)) (perm1 1 rfl) (fun _ _ h => h))
      obtain ⟨it_, h_it_, hf⟩ := obind hf
      obtain ⟨there_1, h_there_1, hf⟩ := obind hf
      refine js_app (B := Int) 1 rfl (je_var 2 rfl) ?_ h_there_1 ?_
      · exact (je_ix3a (je_ixL (je_var 4 rfl) (rdl_own 0 rfl) (je_neg je_int) h_it_) je_int)
      cases hf
      exact js_ent (TEnt.refl _) (js_last (js_cont ⟨(.keep (.keep (.keep (.drop (.keep (.drop (.drop (.drop (.drop Wk.nil))))))))), rfl⟩))
    replace hf := oF hc hf
    obtain ⟨cell, e_cell, hf⟩ := obind hf
    refine js_set 5 nd (je_eq (je_div (je_var 5 rfl) je_int (by decide +kernel)) (Option.some.inj e_cell)) ?_
    obtain ⟨it__1, h_it__1, hf⟩ := obind hf
    obtain ⟨pr, h_pr, hf⟩ := obind hf
    obtain ⟨knot, e_knot, hf⟩ := obind hf
    refine js_set 6 nd (je_eq (je_add (je_add (je_ixL (je_var 2 rfl) (rdl_own 1 rfl) (je_neg je_int) h_it__1) je_int) (je_mul' h_pr (je_div (je_mod (je_var 5 rfl) je_int (by decide +kernel)) je_int (by decide +kernel)) (je_mod (je_div (je_var 5 rfl) je_int (by decide +kernel)) je_int (by decide +kernel)))) (Option.some.inj e_knot)) ?_
    obtain ⟨r_cut, h_r_cut, hf⟩ := obind hf
    refine js_set 7 nd (je_callM ((cell / (60 : Int)), p_there, st.2) (by exact h_r_cut) c_l_cut (hr.mono (by decide)) rfl (ja_cons (je_div (je_var 5 rfl) je_int (by decide +kernel)) (ja_cons (je_var 2 rfl) ja_nil)) (perm1 1 rfl) (fun _ _ h => h)) ?_
    obtain ⟨pr_1, h_pr_1, hf⟩ := obind hf
    obtain ⟨pr_2, h_pr_2, hf⟩ := obind hf
    obtain ⟨pr_3, h_pr_3, hf⟩ := obind hf
    obtain ⟨pr_4, h_pr_4, hf⟩ := obind hf
    obtain ⟨bits, e_bits, hf⟩ := obind hf
    refine js_set 8 nd (je_eq (je_add (je_mul' h_pr_2 (je_var 5 rfl) (je_add je_int (je_mul' h_pr_1 (je_eq (je_pow je_int je_int (by decide)) (by decide +kernel)) (je_var 6 rfl)))) (je_mul' h_pr_4 (je_mulL (je_mul' h_pr_3 (je_var 6 rfl) (je_var 6 rfl)) je_int (.inr (by decide))) (je_eq (je_pow je_int je_int (by decide)) (by decide +kernel)))) (Option.some.inj e_bits)) ?_
    obtain ⟨sh, h_sh, hf⟩ := obind hf
    obtain ⟨sh_1, h_sh_1, hf⟩ := obind hf
    obtain ⟨re, h_re, hf⟩ := obind hf
    obtain ⟨made_2, h_made_2, hf⟩ := obind hf
    refine js_app (B := (T3 Int (List Int) Int)) 0 rfl (je_var 4 rfl) ?_ h_made_2 ?_
    · exact (je_tup3 (je_var 6 rfl) (je_var 7 rfl) (je_mod' h_re (je_div (je_var 8 rfl) je_int (by decide +kernel)) (je_shl' h_sh_1 je_int (je_shl' h_sh je_int (je_lenL rfl t_len (je_var 7 rfl) rdl_dat)))))
    obtain ⟨there_2, h_there_2, hf⟩ := obind hf
    refine js_app (B := Int) 1 rfl (je_var 2 rfl) ?_ h_there_2 ?_
    · exact (je_var 6 rfl)
    cases hf
    exact js_nilE (TEnt.refl _) ⟨(.keep (.keep (.keep (.drop (.keep (.drop (.drop (.drop (.drop Wk.nil))))))))), rfl⟩
  show JSs _ _ [some (Dat cells), some (Dat many), some (Ref p_there), none, some (Ref p_made), none, none, none, none] [(p_made, (OL (sn.1 : (List (T3 Int (List Int) Int))))), (p_there, (OL (sn.2 : (List Int))))] _ _
  refine js_freezeAt 0 4 rfl rfl ?_
  cases hm
  exact js_last (js_retE (je_var 4 rfl) (TEnt.nil _) ⟨rfl, rfl⟩)
abbrev s_l_ties : Stmt := top 27
def m_l_ties_b1 (cell : Int) (ct : (List Int)) (st : (List Int)) (x_2 : Int) : Option (List Int) :=
  ((modO ((cell / (16 : Int)) + ((7 : Int) * x_2)) (ct.length : Int)).bind fun re => ((if (decide ((0 : Int) < (((cell / (32 : Int)) + x_2) % (3 : Int)))) = true then (((modO ((cell / (16 : Int)) + x_2) (min (ct.length : Int) (5 : Int))).bind fun re_1 => (some (((ct.length : Int) - (1 : Int)) - re_1)).bind fun at__1 => some at__1)) else (some re)).bind fun z => ((atI ct z).bind fun it_ => (appO st (((2 : Int) * it_) + (((cell / (5 : Int)) + x_2) % (2 : Int)))).bind fun made_1 => some made_1)))
def m_l_ties (cell : Int) (many : Int) (pieces_here : (List (T3 Int (List Int) Int))) : Option (List Int) :=
  ((rngO (0 : Int) (many + (1 : Int))).bind fun rg => (mapB (fun (x : Int) => some x) rg).bind fun lc => (mapB (fun (x_1 : (T3 Int (List Int) Int)) => some x_1.a) pieces_here).bind fun lc_1 => (extO lc lc_1).bind fun ct => ((rngO (0 : Int) ((1 : Int) + (cell % (16 : Int)))).bind fun rg_1 => ((foldO (m_l_ties_b1 cell ct) [] rg_1).bind fun sn => some sn)))
abbrev N_l_ties : List Str := ["_law_cell", "_law_many", "_law_pieces_here", "_law_there", "_law_k", "_law_piece_here", "_law_made", "_law_at"]
theorem sc_l_ties : FnScope N_l_ties ["_law_cell", "_law_many", "_law_pieces_here"] (defScope s_l_ties) := ⟨rfl, rfl, rfl, by decide +kernel, rfl, by decide +kernel, by decide +kernel⟩
abbrev sp_l_ties (K : PySem.W.Frag) : Sp := (mSpec (fun a : (Int × Int × (List (T3 Int (List Int) Int))) => [Dat a.1, Dat a.2.1, Dat a.2.2]) (fun a => []) (fun a => m_l_ties a.1 a.2.1 a.2.2) (fun a r ρ T => ρ = Dat r ∧ T = [])).sp
theorem ok_l_ties {P : Program} {w : World} {K : PySem.W.Frag} {mg : Str → Option Value} {base : Heap} {f : Addr} {fd : FuncData} (F : FnD K "_law_ties" "_law_ties" s_l_ties f fd) (t_len : mg "len" = none) (t_min : mg "min" = none) (t_range : mg "range" = none) : FnOk P w K mg base (L2N.CX P w) 1 f fd ["_law_cell", "_law_many", "_law_pieces_here"] (sp_l_ties K) := by
  have nd := sc_l_ties.nd
  refine fnM (N := N_l_ties) _ _ _ _ F sc_l_ties (fun _ => rfl) fun cdv Ar outer s H E hr a r hm => ?_
  obtain ⟨cell, many, pieces_here⟩ := a
  replace hm : m_l_ties cell many pieces_here = some r := hm
  unfold m_l_ties at hm
  show JSs _ _ [some (Dat cell), some (Dat many), some (Dat pieces_here), none, none, none, none, none] [] _ _
  obtain ⟨rg, h_rg, hm⟩ := obind hm
  obtain ⟨lc, h_lc, hm⟩ := obind hm
  obtain ⟨lc_1, h_lc_1, hm⟩ := obind hm
  obtain ⟨ct, h_ct, hm⟩ := obind hm
  refine js_set 3 nd (je_jf (jf_cat h_ct (je_lcM [("_law_k", 4)] h_lc (fun _ => True) rfl nd (blkOk_by (own := [("_law_k", 4)]) (N := N_l_ties) (sc := defScope s_l_ties) (by decide +kernel)) (ji_rng1 h_rg rfl t_range (je_add (je_var 1 rfl) je_int)) trivial (fun x _ _ hx => by cases hx; exact ⟨_, _, (by decide), fun _ _ _ _ _ => (jg_name 4 nd), fun _ _ _ _ _ => (je_var 4 rfl)⟩)) rdm_dat (je_lcM [("_law_piece_here", 5)] h_lc_1 (fun _ => True) rfl nd (blkOk_by (own := [("_law_piece_here", 5)]) (N := N_l_ties) (sc := defScope s_l_ties) (by decide +kernel)) (ji_list _ (je_var 2 rfl) fun _ _ => rdl_dat) trivial (fun x_1 _ _ hx_1 => by cases hx_1; exact ⟨_, _, (by decide), fun _ _ _ _ _ => (jg_name 5 nd), fun _ _ _ _ _ => (je_ix3a (je_var 5 rfl) je_int)⟩)) rdm_dat)) ?_
  refine js_newL 6 nd (xs := ([] : (List Int))) ja_nil (by show 0 ≤ sizeLine; decide) fun p_made => ?_
  obtain ⟨rg_1, h_rg_1, hm⟩ := obind hm
  obtain ⟨sn, hl, hm⟩ := obind hm
  refine js_forO Dat (fun _ => True) hl (fun (st : (List Int)) => [some (Dat cell), some (Dat many), some (Dat pieces_here), some (Dat ct), none, none, some (Ref p_made), none]) (fun (st : (List Int)) => [(p_made, (OL (st : (List Int))))]) (passOwn rfl) rfl (ji_rng1 h_rg_1 rfl t_range (je_add je_int (je_mod (je_var 0 rfl) je_int (by decide +kernel)))) (.keep (.keep (.keep (.keep (.drop (.drop (.keep (.drop Wk.nil)))))))) rfl (fun _ => trivial) (fun x_2 st rr hx_2 hf => ⟨_, _, (jg_name 4 nd), ?_⟩) ?_
  · replace hf : (m_l_ties_b1 cell ct) st x_2 = some rr := hf
    unfold m_l_ties_b1 at hf
    obtain ⟨re, h_re, hf⟩ := obind hf
    refine js_set 7 nd (je_mod' h_re (je_add (je_div (je_var 0 rfl) je_int (by decide +kernel)) (je_mulL je_int (je_var 4 rfl) (.inl (by decide)))) (je_lenL rfl t_len (je_var 3 rfl) rdl_dat)) ?_
    obtain ⟨z, hj, hf⟩ := obind hf
    refine js_ifj (Γ' := [some (Dat cell), some (Dat many), some (Dat pieces_here), some (Dat ct), some (Dat x_2), none, some (Ref p_made), some (Dat z)]) (T' := [(p_made, (OL (st : (List Int))))]) (jt_c (jc_gt (je_mod (je_add (je_div (je_var 0 rfl) je_int (by decide +kernel)) (je_var 4 rfl)) je_int (by decide +kernel)) je_int)) (fun hc => ?_) (fun hc => ?_) ?_
    · replace hj := oT hc hj
      obtain ⟨re_1, h_re_1, hj⟩ := obind hj
      obtain ⟨at__1, e_at__1, hj⟩ := obind hj
      refine js_set 7 nd (je_eq (je_sub (je_sub (je_lenL rfl t_len (je_var 3 rfl) rdl_dat) je_int) (je_mod' h_re_1 (je_add (je_div (je_var 0 rfl) je_int (by decide +kernel)) (je_var 4 rfl)) (je_min2 rfl t_min rfl (je_lenL rfl t_len (je_var 3 rfl) rdl_dat) je_int))) (Option.some.inj e_at__1)) ?_
      cases hj
      exact js_nilE (TEnt.refl _) ⟨(.keep (.keep (.keep (.keep (.keep (.drop (.keep (.keep Wk.nil)))))))), rfl⟩
    · replace hj := oF hc hj
      cases hj
      exact js_nilE (TEnt.refl _) ⟨(.keep (.keep (.keep (.keep (.keep (.drop (.keep (.keep Wk.nil)))))))), rfl⟩
    obtain ⟨it_, h_it_, hf⟩ := obind hf
    obtain ⟨made_1, h_made_1, hf⟩ := obind hf
    refine js_app (B := Int) 0 rfl (je_var 6 rfl) ?_ h_made_1 ?_
    · exact (je_add (je_mulL je_int (je_ixL (je_var 3 rfl) rdl_dat (je_var 7 rfl) h_it_) (.inl (by decide))) (je_mod (je_add (je_div (je_var 0 rfl) je_int (by decide +kernel)) (je_var 4 rfl)) je_int (by decide +kernel)))
    cases hf
    exact js_nilE (TEnt.refl _) ⟨(.keep (.keep (.keep (.keep (.drop (.drop (.keep (.drop Wk.nil)))))))), rfl⟩
  show JSs _ _ [some (Dat cell), some (Dat many), some (Dat pieces_here), some (Dat ct), none, none, some (Ref p_made), none] [(p_made, (OL (sn : (List Int))))] _ _
  refine js_freezeAt 0 6 rfl rfl ?_
  cases hm
  exact js_last (js_retE (je_var 6 rfl) (TEnt.refl _) ⟨rfl, rfl⟩)
abbrev s_is_whole : Stmt := top 19
def m_is_whole (thing : Int) : Option Bool :=
  some (true && (!false))
abbrev N_is_whole : List Str := ["thing"]
theorem sc_is_whole : FnScope N_is_whole ["thing"] (defScope s_is_whole) := ⟨rfl, rfl, rfl, by decide +kernel, rfl, by decide +kernel, by decide +kernel⟩
abbrev sp_is_whole (K : PySem.W.Frag) : Sp := (mSpec (fun a : Int => [Dat a]) (fun a => []) (fun a => m_is_whole a) (fun a r ρ T => ρ = Dat r ∧ T = [])).sp
theorem ok_is_whole {P : Program} {w : World} {K : PySem.W.Frag} {mg : Str → Option Value} {base : Heap} {f : Addr} {fd : FuncData} (F : FnD K "is_whole" "is_whole" s_is_whole f fd) (t_bool : mg "bool" = none) (t_int : mg "int" = none) (t_isinstance : mg "isinstance" = none) : FnOk P w K mg base (L2N.CX P w) 1 f fd ["thing"] (sp_is_whole K) := by
  have nd := sc_is_whole.nd
  refine fnM (N := N_is_whole) _ _ _ _ F sc_is_whole (fun _ => rfl) fun cdv Ar outer s H E hr a r hm => ?_
  revert hm; revert a; intro thing hm
  replace hm : m_is_whole thing = some r := hm
  unfold m_is_whole at hm
  show JSs _ _ [some (Dat thing)] [] _ _
  cases hm
  exact js_last (js_retE (je_andV (je_isi (bb := true) rfl t_isinstance (je_var 0 rfl) (pe_ty (ty := "int") rfl t_int (by decide +kernel)) (by decide +kernel) ty_int) fun _ => (je_and1 (je_not (je_isi (bb := false) rfl t_isinstance (je_var 0 rfl) (pe_ty (ty := "bool") rfl t_bool (by decide +kernel)) (by decide +kernel) ty_int)))) (TEnt.refl _) ⟨rfl, rfl⟩)
def m_is_whole_2 (thing : Anyv) : Option Bool :=
  some (thing.isI && (!thing.isB))
abbrev sp_is_whole_2 (K : PySem.W.Frag) : Sp := (mSpec (fun a : Anyv => [Dat a]) (fun a => []) (fun a => m_is_whole_2 a) (fun a r ρ T => ρ = Dat r ∧ T = [])).sp
theorem ok_is_whole_2 {P : Program} {w : World} {K : PySem.W.Frag} {mg : Str → Option Value} {base : Heap} {f : Addr} {fd : FuncData} (F : FnD K "is_whole" "is_whole" s_is_whole f fd) (t_bool : mg "bool" = none) (t_int : mg "int" = none) (t_isinstance : mg "isinstance" = none) : FnOk P w K mg base (L2N.CX P w) 1 f fd ["thing"] (sp_is_whole_2 K) := by
  have nd := sc_is_whole.nd
  refine fnM (N := N_is_whole) _ _ _ _ F sc_is_whole (fun _ => rfl) fun cdv Ar outer s H E hr a r hm => ?_
  revert hm; revert a; intro thing hm
  replace hm : m_is_whole_2 thing = some r := hm
  unfold m_is_whole_2 at hm
  show JSs _ _ [some (Dat thing)] [] _ _
  cases hm
  exact js_last (js_retE (je_andV (je_isiA rfl t_isinstance (je_var 0 rfl) (pe_ty (ty := "int") rfl t_int (by decide +kernel)) kit_anI) fun _ => (je_and1 (je_not (je_isiA rfl t_isinstance (je_var 0 rfl) (pe_ty (ty := "bool") rfl t_bool (by decide +kernel)) kit_anB)))) (TEnt.refl _) ⟨rfl, rfl⟩)
abbrev s_check_cut : Stmt := top 20
def m_check_cut_b1 (here : (List (Int × Bool))) (st : Int) (x : Int) : Option Int :=
  ((m_is_whole x).bind fun r_is_whole => if ((!r_is_whole) || ((decide (x ≤ st)) || (!(dget here x).isSome))) = true then (none) else some x)
def m_check_cut (cut : (List Int)) (here : (List (Int × Bool))) : Option Unit :=
  if (!(decide ((1 : Int) ≤ (cut.length : Int)) && decide ((cut.length : Int) ≤ (6 : Int)))) = true then (none) else ((foldO (m_check_cut_b1 here) (0 : Int) cut).bind fun sn => some ())
abbrev N_check_cut : List Str := ["cut", "here", "last", "low"]
theorem sc_check_cut : FnScope N_check_cut ["cut", "here"] (defScope s_check_cut) := ⟨rfl, rfl, rfl, by decide +kernel, rfl, by decide +kernel, by decide +kernel⟩
abbrev sp_check_cut (K : PySem.W.Frag) : Sp := (mSpec (fun a : (Addr × (List Int) × Addr × (List (Int × Bool))) => [Ref a.1, Ref a.2.2.1]) (fun a => [(a.1, (OL (a.2.1 : (List Int)))), (a.2.2.1, (OD (a.2.2.2 : (List (Int × Bool)))))]) (fun a => m_check_cut a.2.1 a.2.2.2) (fun a r ρ T => ρ = Dat () ∧ T = [(a.1, (OL (a.2.1 : (List Int)))), (a.2.2.1, (OD (a.2.2.2 : (List (Int × Bool)))))])).sp
theorem ok_check_cut {P : Program} {w : World} {K : PySem.W.Frag} {mg : Str → Option Value} {base : Heap} {f : Addr} {fd : FuncData} (F : FnD K "check_cut" "check_cut" s_check_cut f fd) (t_len : mg "len" = none) (g_MOST_IN_CUT : ∃ t, mg "MOST_IN_CUT" = some (.int (6) t)) (c_is_whole : Cal P w K mg base 1 "is_whole" ["thing"] (sp_is_whole K)) : FnOk P w K mg base (L2N.CX P w) 2 f fd ["cut", "here"] (sp_check_cut K) := by
  have nd := sc_check_cut.nd
  refine fnM (N := N_check_cut) _ _ _ _ F sc_check_cut (fun _ => rfl) fun cdv Ar outer s H E hr a r hm => ?_
  obtain ⟨p_cut, cut, p_here, here⟩ := a
  replace hm : m_check_cut cut here = some r := hm
  unfold m_check_cut at hm
  show JSs _ _ [some (Ref p_cut), some (Ref p_here), none, none] [(p_cut, (OL (cut : (List Int)))), (p_here, (OD (here : (List (Int × Bool)))))] _ _
  refine js_ifr (jt_not (jt_chain (by exact je_int) (by exact (je_lenL rfl t_len (je_var 0 rfl) (rdl_own 0 rfl))) (by exact (je_gint rfl g_MOST_IN_CUT)) fun _ _ _ h1 h2 h3 => pt_chain op_le op_le h1 h2 h3)) (fun hc => ?_) (fun hc => ?_)
  · replace hm := oT hc hm
    cases hm
  replace hm := oF hc hm
  refine js_set 2 nd je_int ?_
  obtain ⟨sn, hl, hm⟩ := obind hm
  refine js_forO Dat (fun T' => T'[0]? = some (p_cut, (OL (cut : (List Int))))) hl (fun (st : Int) => [some (Ref p_cut), some (Ref p_here), some (Dat st), none]) (fun (st : Int) => [(p_cut, (OL (cut : (List Int)))), (p_here, (OD (here : (List (Int × Bool)))))]) (passOwn rfl) rfl (ji_list _ (je_var 0 rfl) fun T' h => rdl_own 0 (by rcases h with rfl | h; exact rfl; exact h)) (.keep (.keep (.keep (.drop Wk.nil)))) rfl (fun _ => rfl) (fun x st rr hx hf => ⟨_, _, (jg_name 3 nd), ?_⟩) ?_
  · replace hf : (m_check_cut_b1 here) st x = some rr := hf
    unfold m_check_cut_b1 at hf
    obtain ⟨r_is_whole, h_r_is_whole, hf⟩ := obind hf
    refine js_ifr (JTW.jt (jw_or (jt_not (jt_val (je_callM x (by exact h_r_is_whole) c_is_whole (hr.mono (by decide)) rfl (ja_cons (je_var 3 rfl) ja_nil) perm0 (fun _ _ h => h)))) fun _ => (jw_or (jt_c (jc_le (je_var 3 rfl) (je_var 2 rfl))) fun _ => (jw_or1 (jt_c (jc_dniZ (dat_own 1 rfl) (units_of hr) (je_var 3 rfl) (je_var 1 rfl))))))) (fun hc_1 => ?_) (fun hc_1 => ?_)
    · replace hf := oT hc_1 hf
      cases hf
    replace hf := oF hc_1 hf
    refine js_set 2 nd (je_var 3 rfl) ?_
    cases hf
    exact js_nilE (TEnt.refl _) ⟨(.keep (.keep (.keep (.drop Wk.nil)))), rfl⟩
  show JSs _ _ [some (Ref p_cut), some (Ref p_here), some (Dat sn), none] [(p_cut, (OL (cut : (List Int)))), (p_here, (OD (here : (List (Int × Bool)))))] _ _
  cases hm
  exact js_nilE (TEnt.refl _) ⟨rfl, rfl⟩
abbrev sp_check_cut_2 (K : PySem.W.Frag) : Sp := (mSpec (fun a : ((List Int) × Addr × (List (Int × Bool))) => [Dat a.1, Ref a.2.1]) (fun a => [(a.2.1, (OD (a.2.2 : (List (Int × Bool)))))]) (fun a => m_check_cut a.1 a.2.2) (fun a r ρ T => ρ = Dat () ∧ T = [(a.2.1, (OD (a.2.2 : (List (Int × Bool)))))])).sp
theorem ok_check_cut_2 {P : Program} {w : World} {K : PySem.W.Frag} {mg : Str → Option Value} {base : Heap} {f : Addr} {fd : FuncData} (F : FnD K "check_cut" "check_cut" s_check_cut f fd) (t_len : mg "len" = none) (g_MOST_IN_CUT : ∃ t, mg "MOST_IN_CUT" = some (.int (6) t)) (c_is_whole : Cal P w K mg base 1 "is_whole" ["thing"] (sp_is_whole K)) : FnOk P w K mg base (L2N.CX P w) 2 f fd ["cut", "here"] (sp_check_cut_2 K) := by
  have nd := sc_check_cut.nd
  refine fnM (N := N_check_cut) _ _ _ _ F sc_check_cut (fun _ => rfl) fun cdv Ar outer s H E hr a r hm => ?_
  obtain ⟨cut, p_here, here⟩ := a
  replace hm : m_check_cut cut here = some r := hm
  unfold m_check_cut at hm
  show JSs _ _ [some (Dat cut), some (Ref p_here), none, none] [(p_here, (OD (here : (List (Int × Bool)))))] _ _
  refine js_ifr (jt_not (jt_chain (by exact je_int) (by exact (je_lenL rfl t_len (je_var 0 rfl) rdl_dat)) (by exact (je_gint rfl g_MOST_IN_CUT)) fun _ _ _ h1 h2 h3 => pt_chain op_le op_le h1 h2 h3)) (fun hc => ?_) (fun hc => ?_)
  · replace hm := oT hc hm
    cases hm
  replace hm := oF hc hm
  refine js_set 2 nd je_int ?_
  obtain ⟨sn, hl, hm⟩ := obind hm
  refine js_forO Dat (fun _ => True) hl (fun (st : Int) => [some (Dat cut), some (Ref p_here), some (Dat st), none]) (fun (st : Int) => [(p_here, (OD (here : (List (Int × Bool)))))]) (passOwn rfl) rfl (ji_list _ (je_var 0 rfl) fun _ _ => rdl_dat) (.keep (.keep (.keep (.drop Wk.nil)))) rfl (fun _ => trivial) (fun x st rr hx hf => ⟨_, _, (jg_name 3 nd), ?_⟩) ?_
  · replace hf : (m_check_cut_b1 here) st x = some rr := hf
    unfold m_check_cut_b1 at hf
    obtain ⟨r_is_whole, h_r_is_whole, hf⟩ := obind hf
    refine js_ifr (JTW.jt (jw_or (jt_not (jt_val (je_callM x (by exact h_r_is_whole) c_is_whole (hr.mono (by decide)) rfl (ja_cons (je_var 3 rfl) ja_nil) perm0 (fun _ _ h => h)))) fun _ => (jw_or (jt_c (jc_le (je_var 3 rfl) (je_var 2 rfl))) fun _ => (jw_or1 (jt_c (jc_dniZ (dat_own 0 rfl) (units_of hr) (je_var 3 rfl) (je_var 1 rfl))))))) (fun hc_1 => ?_) (fun hc_1 => ?_)
    · replace hf := oT hc_1 hf
      cases hf
    replace hf := oF hc_1 hf
    refine js_set 2 nd (je_var 3 rfl) ?_
    cases hf
    exact js_nilE (TEnt.refl _) ⟨(.keep (.keep (.keep (.drop Wk.nil)))), rfl⟩
  show JSs _ _ [some (Dat cut), some (Ref p_here), some (Dat sn), none] [(p_here, (OD (here : (List (Int × Bool)))))] _ _
  cases hm
  exact js_nilE (TEnt.refl _) ⟨rfl, rfl⟩
def m_check_cut_x_b1 (here : (List (Int × Bool))) (st : Int) (x : Anyv) : Option (Ctl Int (Rz Xc Unit Unit)) :=
  ((m_is_whole_2 x).bind fun r_is_whole => ((if (!r_is_whole) = true then some true else ((x.toI).bind fun av => ((if (decide (av ≤ st)) = true then some true else ((x.toI).bind fun av_1 => some (!(dget here av_1).isSome)))).bind fun tv => some tv))).bind fun tv_1 => if tv_1 = true then (some (.ret (Rz.ex Xc.NoBoard ()))) else ((x.toI).bind fun av_2 => some (.go av_2)))
def m_check_cut_x (cut : (List Anyv)) (here : (List (Int × Bool))) : Option (Rz Xc Unit Unit) :=
  if (!(decide ((1 : Int) ≤ (cut.length : Int)) && decide ((cut.length : Int) ≤ (6 : Int)))) = true then (some (Rz.ex Xc.NoBoard ())) else ((foldC (m_check_cut_x_b1 here) (0 : Int) cut).bind fun cv => cv.el (fun sn => some (Rz.ok ())) (fun q__ => some q__))
abbrev sp_check_cut_3 (K : PySem.W.Frag) : Sp := (xSpec K Xc.nm (fun a : ((List Anyv) × Addr × (List (Int × Bool))) => [Dat a.1, Ref a.2.1]) (fun a => [(a.2.1, (OD (a.2.2 : (List (Int × Bool)))))]) (fun a => m_check_cut_x a.1 a.2.2) (fun a r ρ T => ρ = Dat () ∧ T = [(a.2.1, (OD (a.2.2 : (List (Int × Bool)))))]) (fun a y => [(a.2.1, (OD (a.2.2 : (List (Int × Bool)))))])).sp
theorem ok_check_cut_3 {P : Program} {w : World} {K : PySem.W.Frag} {mg : Str → Option Value} {base : Heap} {f : Addr} {fd : FuncData} (F : FnD K "check_cut" "check_cut" s_check_cut f fd) (t_len : mg "len" = none) (g_MOST_IN_CUT : ∃ t, mg "MOST_IN_CUT" = some (.int (6) t)) (x_NoBoard : ExF K mg "NoBoard") (c_is_whole_2 : Cal P w K mg base 1 "is_whole" ["thing"] (sp_is_whole_2 K)) : FnOk P w K mg base (L2N.CX P w) 2 f fd ["cut", "here"] (sp_check_cut_3 K) := by
  have nd := sc_check_cut.nd
  refine fnX (N := N_check_cut) Xc.nm _ _ _ _ _ F sc_check_cut (fun _ => rfl) fun cdv Ar outer s H E hr a r hm => ?_
  obtain ⟨cut, p_here, here⟩ := a
  replace hm : m_check_cut_x cut here = some r := hm
  unfold m_check_cut_x at hm
  show JSs _ _ [some (Dat cut), some (Ref p_here), none, none] [(p_here, (OD (here : (List (Int × Bool)))))] _ _
  refine js_ifr (jt_not (jt_chain (by exact je_int) (by exact (je_lenL rfl t_len (je_var 0 rfl) rdl_dat)) (by exact (je_gint rfl g_MOST_IN_CUT)) fun _ _ _ h1 h2 h3 => pt_chain op_le op_le h1 h2 h3)) (fun hc => ?_) (fun hc => ?_)
  · replace hm := oT hc hm
    cases hm
    exact js_last (js_raise x_NoBoard rfl rfl (L2N.takes_of rfl rfl rfl rfl) (TEnt.refl _) ⟨_, _, rfl, rfl, rfl⟩)
  replace hm := oF hc hm
  refine js_set 2 nd je_int ?_
  obtain ⟨cv, hl, hm⟩ := obind hm
  refine js_forC Dat (fun _ => True) hl (fun (st : Int) => [some (Dat cut), some (Ref p_here), some (Dat st), none]) (fun (st : Int) => [(p_here, (OD (here : (List (Int × Bool)))))]) (passOwn rfl) rfl (ji_list _ (je_var 0 rfl) fun _ _ => rdl_dat) (.keep (.keep (.keep (.drop Wk.nil)))) rfl (fun _ => trivial) (fun x st rr hx hf hq => ⟨_, _, (jg_name 3 nd), ?_⟩) (fun sn hg => ?_)
  · replace hf : (m_check_cut_x_b1 here) st x = some rr := hf
    unfold m_check_cut_x_b1 at hf
    obtain ⟨r_is_whole, h_r_is_whole, hf⟩ := obind hf
    obtain ⟨tv_1, h_tv_1, hf⟩ := obind hf
    refine js_ifr (JTW.jt (jw_orO h_tv_1 (jt_not (jt_val (je_callM x (by exact h_r_is_whole) c_is_whole_2 (hr.mono (by decide)) rfl (ja_cons (je_var 3 rfl) ja_nil) perm0 (fun _ _ h => h)))) fun _ hz_1 => by obtain ⟨av, h_av, hz_1⟩ := obind hz_1; obtain ⟨tv, h_tv, hz_1⟩ := obind hz_1; cases hz_1; exact (jw_orO h_tv (jt_c (jc_le (je_anI h_av (je_var 3 rfl)) (je_var 2 rfl))) fun _ hz => by obtain ⟨av_1, h_av_1, hz⟩ := obind hz; cases hz; exact (jw_or1 (jt_c (jc_dniZ (dat_own 0 rfl) (units_of hr) (je_anI h_av_1 (je_var 3 rfl)) (je_var 1 rfl))))))) (fun hc_1 => ?_) (fun hc_1 => ?_)
    · replace hf := oT hc_1 hf
      have hz := hq _ (Option.some.inj hf).symm
      subst hz
      replace hm : some (Rz.ex Xc.NoBoard ()) = some _ := hm
      cases hm
      exact js_last (js_raise x_NoBoard rfl rfl (L2N.takes_of rfl rfl rfl rfl) (TEnt.refl _) ⟨_, _, rfl, rfl, rfl⟩)
    replace hf := oF hc_1 hf
    obtain ⟨av_2, h_av_2, hf⟩ := obind hf
    refine js_set 2 nd (je_anI h_av_2 (je_var 3 rfl)) ?_
    cases hf
    exact js_nilE (TEnt.refl _) ⟨_, rfl, (.keep (.keep (.keep (.drop Wk.nil)))), rfl⟩
  subst hg
  replace hm := el_go hm
  show JSs _ _ [some (Dat cut), some (Ref p_here), some (Dat sn), none] [(p_here, (OD (here : (List (Int × Bool)))))] _ _
  cases hm
  exact js_nilE (TEnt.refl _) ⟨_, rfl, ⟨rfl, rfl⟩⟩
abbrev s_every_lighting : Stmt := top 14
def m_every_lighting (many : Int) : Option Int :=
  ((shlO (1 : Int) many).bind fun sh => (shlO (1 : Int) sh).bind fun sh_1 => some (sh_1 - (1 : Int)))
abbrev N_every_lighting : List Str := ["many"]
theorem sc_every_lighting : FnScope N_every_lighting ["many"] (defScope s_every_lighting) := ⟨rfl, rfl, rfl, by decide +kernel, rfl, by decide +kernel, by decide +kernel⟩
abbrev sp_every_lighting (K : PySem.W.Frag) : Sp := (mSpec (fun a : Int => [Dat a]) (fun a => []) (fun a => m_every_lighting a) (fun a r ρ T => ρ = Dat r ∧ T = [])).sp
theorem ok_every_lighting {P : Program} {w : World} {K : PySem.W.Frag} {mg : Str → Option Value} {base : Heap} {f : Addr} {fd : FuncData} (F : FnD K "every_lighting" "every_lighting" s_every_lighting f fd) : FnOk P w K mg base (L2N.CX P w) 1 f fd ["many"] (sp_every_lighting K) := by
  have nd := sc_every_lighting.nd
  refine fnM (N := N_every_lighting) _ _ _ _ F sc_every_lighting (fun _ => rfl) fun cdv Ar outer s H E hr a r hm => ?_
  revert hm; revert a; intro many hm
  replace hm : m_every_lighting many = some r := hm
  unfold m_every_lighting at hm
  show JSs _ _ [some (Dat many)] [] _ _
  obtain ⟨sh, h_sh, hm⟩ := obind hm
  obtain ⟨sh_1, h_sh_1, hm⟩ := obind hm
  cases hm
  exact js_last (js_retE (je_sub (je_shl' h_sh_1 je_int (je_shl' h_sh je_int (je_var 0 rfl))) je_int) (TEnt.refl _) ⟨rfl, rfl⟩)
abbrev s_Board___init__ : Stmt := inClass (top 21) 0
def m_Board___init___b1  (st : (List (Int × Bool))) (x : Int) : Option (List (Int × Bool)) :=
  ((dputO st (x + (1 : Int)) true).bind fun here_1 => some here_1)
def m_Board___init___b2  (st_1 : (Int × (List (Int × Bool)) × (List (T3 Int (List Int) Int)))) (x_1 : (T3 Int (List Int) Int)) : Option (Int × (List (Int × Bool)) × (List (T3 Int (List Int) Int))) :=
  ((m_is_whole x_1.a).bind fun r_is_whole_1 => if ((!r_is_whole_1) || (!(decide (st_1.1 < x_1.a) && decide (x_1.a < (1000 : Int))))) = true then (none) else ((m_check_cut x_1.b st_1.2.1).bind fun r_check_cut => ((m_is_whole x_1.c).bind fun r_is_whole_2 => ((if (!r_is_whole_2) = true then some true else ((m_every_lighting (x_1.b.length : Int)).bind fun r_every_lighting => some (!(decide ((0 : Int) ≤ x_1.c) && decide (x_1.c ≤ r_every_lighting)))))).bind fun tv => if tv = true then (none) else ((appO st_1.2.2 (T3.mk x_1.a x_1.b x_1.c)).bind fun rows_1 => ((dputO st_1.2.1 x_1.a true).bind fun here_2 => some (x_1.a, here_2, rows_1))))))
def m_Board___init___b3 (sn_1 : (Int × (List (Int × Bool)) × (List (T3 Int (List Int) Int)))) (st_2 : (List Int)) (x_2 : Int) : Option (List Int) :=
  ((m_is_whole x_2).bind fun r_is_whole_3 => if ((!r_is_whole_3) || ((!decide ((x_2 / 2 ^ (1 : Int).toNat) = (0 : Int))) && (!(dget sn_1.2.1 (x_2 / 2 ^ (1 : Int).toNat)).isSome))) = true then (none) else ((appO st_2 x_2).bind fun ends_1 => some ends_1))
def m_Board___init__ (many : Int) (pieces : (List (T3 Int (List Int) Int))) (ties : (List Int)) : Option S_Board :=
  ((m_is_whole many).bind fun r_is_whole => if ((!r_is_whole) || (!(decide ((1 : Int) ≤ many) && decide (many ≤ (10 : Int))))) = true then (none) else ((rngO (0 : Int) many).bind fun rg => ((foldO m_Board___init___b1 ([] : (List (Int × Bool))) rg).bind fun sn => ((foldO m_Board___init___b2 (many, sn, ([] : (List (T3 Int (List Int) Int)))) pieces).bind fun sn_1 => ((foldO (m_Board___init___b3 sn_1) ([] : (List Int)) ties).bind fun sn_2 => if (decide (sn_2 = ([] : (List Int)))) = true then (none) else some (S_Board.mk many sn_1.2.2 sn_2))))))
abbrev N_Board___init__ : List Str := ["self", "many", "pieces", "ties", "here", "at", "last", "knot", "cut", "told", "tie"]
theorem sc_Board___init__ : FnScope N_Board___init__ ["self", "many", "pieces", "ties"] (defScope s_Board___init__) := ⟨rfl, rfl, rfl, by decide +kernel, rfl, by decide +kernel, by decide +kernel⟩
abbrev sp_Board___init__ (K : PySem.W.Frag) : Sp := (mSpec (fun a : (Addr × Int × Addr × (List (T3 Int (List Int) Int)) × Addr × (List Int)) => [Ref a.1, Dat a.2.1, Ref a.2.2.1, Ref a.2.2.2.2.1]) (fun a => [(a.1, OIns (He.ga K "Board") []), (a.2.2.1, (OP (a.2.2.2.1 : (List (T3 Int (List Int) Int))))), (a.2.2.2.2.1, (OL (a.2.2.2.2.2 : (List Int))))]) (fun a => m_Board___init__ a.2.1 a.2.2.2.1 a.2.2.2.2.2) (fun a r ρ T => ρ = Dat () ∧ T = [(a.1, (O_Board K r)), (a.2.2.1, (OP (a.2.2.2.1 : (List (T3 Int (List Int) Int))))), (a.2.2.2.2.1, (OL (a.2.2.2.2.2 : (List Int))))])).sp
theorem ok_Board___init__ {P : Program} {w : World} {K : PySem.W.Frag} {mg : Str → Option Value} {base : Heap} {f : Addr} {fd : FuncData} (F : FnD K "__init__" "Board.__init__" s_Board___init__ f fd) (t_len : mg "len" = none) (t_list : mg "list" = none) (t_range : mg "range" = none) (g_MOST_INPUTS : ∃ t, mg "MOST_INPUTS" = some (.int (10) t)) (g_KNOTS : ∃ t, mg "KNOTS" = some (.int (1000) t)) (k_Board : Cls K (He.ga K "Board")) (n_Board_rows : NoAttr K (He.ga K "Board") "rows") (n_Board_ends : NoAttr K (He.ga K "Board") "ends") (n_Board_many : NoAttr K (He.ga K "Board") "many") (c_is_whole : Cal P w K mg base 1 "is_whole" ["thing"] (sp_is_whole K)) (c_check_cut : Cal P w K mg base 2 "check_cut" ["cut", "here"] (sp_check_cut K)) (c_every_lighting : Cal P w K mg base 1 "every_lighting" ["many"] (sp_every_lighting K)) : FnOk P w K mg base (L2N.CX P w) 3 f fd ["self", "many", "pieces", "ties"] (sp_Board___init__ K) := by
  have nd := sc_Board___init__.nd
  refine fnM (N := N_Board___init__) _ _ _ _ F sc_Board___init__ (fun _ => rfl) fun cdv Ar outer s H E hr a r hm => ?_
  obtain ⟨p_self, many, p_pieces, pieces, p_ties, ties⟩ := a
  replace hm : m_Board___init__ many pieces ties = some r := hm
  unfold m_Board___init__ at hm
  show JSs _ _ [some (Ref p_self), some (Dat many), some (Ref p_pieces), some (Ref p_ties), none, none, none, none, none, none, none] [(p_self, OIns (He.ga K "Board") []), (p_pieces, (OP (pieces : (List (T3 Int (List Int) Int))))), (p_ties, (OL (ties : (List Int))))] _ _
  obtain ⟨r_is_whole, h_r_is_whole, hm⟩ := obind hm
  refine js_ifr (JTW.jt (jw_or (jt_not (jt_val (je_callM many (by exact h_r_is_whole) c_is_whole (hr.mono (by decide)) rfl (ja_cons (je_var 1 rfl) ja_nil) perm0 (fun _ _ h => h)))) fun _ => (jw_or1 (jt_not (jt_chain (by exact je_int) (by exact (je_var 1 rfl)) (by exact (je_gint rfl g_MOST_INPUTS)) fun _ _ _ h1 h2 h3 => pt_chain op_le op_le h1 h2 h3))))) (fun hc => ?_) (fun hc => ?_)
  · replace hm := oT hc hm
    cases hm
  replace hm := oF hc hm
  refine js_fld (p := p_self) 0 (gs' := []) (jx_of (je_var 1 rfl)) (fun ρ' T' h => ?_) (fun _ _ z => z.elim) k_Board n_Board_many
  obtain ⟨rfl, rfl⟩ := h
  refine ⟨_, (je_var 0 rfl), rfl, (by show 0 < 1000; decide), ?_⟩
  show JSs _ _ [some (Ref p_self), some (Dat many), some (Ref p_pieces), some (Ref p_ties), none, none, none, none, none, none, none] [(p_self, (OIns (He.ga K "Board") [("many", (Dat many))])), (p_pieces, (OP (pieces : (List (T3 Int (List Int) Int))))), (p_ties, (OL (ties : (List Int))))] _ _
  refine js_fld (p := p_self) 1 (gs' := []) (jx_list (xs := ([] : (List (T3 Int (List Int) Int)))) ja_nil (by decide)) (fun ρ' T' h => ?_) (fun _ _ z => z.elim) k_Board n_Board_rows
  obtain ⟨p_rows, rfl, rfl⟩ := h
  refine ⟨_, (je_var 0 rfl), rfl, (by show 1 < 1000; decide), ?_⟩
  show JSs _ _ [some (Ref p_self), some (Dat many), some (Ref p_pieces), some (Ref p_ties), none, none, none, none, none, none, none] [(p_rows, (OL (([] : (List (T3 Int (List Int) Int))) : (List (T3 Int (List Int) Int))))), (p_self, (OIns (He.ga K "Board") [("many", (Dat many)), ("rows", (Ref p_rows))])), (p_pieces, (OP (pieces : (List (T3 Int (List Int) Int))))), (p_ties, (OL (ties : (List Int))))] _ _
  refine js_fld (p := p_self) 2 (gs' := []) (jx_list (xs := ([] : (List Int))) ja_nil (by decide)) (fun ρ' T' h => ?_) (fun _ _ z => z.elim) k_Board n_Board_ends
  obtain ⟨p_ends, rfl, rfl⟩ := h
  refine ⟨_, (je_var 0 rfl), rfl, (by show 2 < 1000; decide), ?_⟩
  show JSs _ _ [some (Ref p_self), some (Dat many), some (Ref p_pieces), some (Ref p_ties), none, none, none, none, none, none, none] [(p_ends, (OL (([] : (List Int)) : (List Int)))), (p_rows, (OL (([] : (List (T3 Int (List Int) Int))) : (List (T3 Int (List Int) Int))))), (p_self, (OIns (He.ga K "Board") [("many", (Dat many)), ("rows", (Ref p_rows)), ("ends", (Ref p_ends))])), (p_pieces, (OP (pieces : (List (T3 Int (List Int) Int))))), (p_ties, (OL (ties : (List Int))))] _ _
  refine js_setK 4 nd (jx_dict (κ := Int) (A := Bool)) (fun ρ' T' h => ?_) (fun _ _ z => z.elim)
  obtain ⟨p_here, rfl, rfl⟩ := h
  show JSs _ _ [some (Ref p_self), some (Dat many), some (Ref p_pieces), some (Ref p_ties), some (Ref p_here), none, none, none, none, none, none] [(p_here, (OD (([] : (List (Int × Bool))) : (List (Int × Bool))))), (p_ends, (OL (([] : (List Int)) : (List Int)))), (p_rows, (OL (([] : (List (T3 Int (List Int) Int))) : (List (T3 Int (List Int) Int))))), (p_self, (OIns (He.ga K "Board") [("many", (Dat many)), ("rows", (Ref p_rows)), ("ends", (Ref p_ends))])), (p_pieces, (OP (pieces : (List (T3 Int (List Int) Int))))), (p_ties, (OL (ties : (List Int))))] _ _
  obtain ⟨rg, h_rg, hm⟩ := obind hm
  obtain ⟨sn, hl, hm⟩ := obind hm
  refine js_forO Dat (fun _ => True) hl (fun (st : (List (Int × Bool))) => [some (Ref p_self), some (Dat many), some (Ref p_pieces), some (Ref p_ties), some (Ref p_here), none, none, none, none, none, none]) (fun (st : (List (Int × Bool))) => [(p_here, (OD (st : (List (Int × Bool))))), (p_ends, (OL (([] : (List Int)) : (List Int)))), (p_rows, (OL (([] : (List (T3 Int (List Int) Int))) : (List (T3 Int (List Int) Int))))), (p_self, (OIns (He.ga K "Board") [("many", (Dat many)), ("rows", (Ref p_rows)), ("ends", (Ref p_ends))])), (p_pieces, (OP (pieces : (List (T3 Int (List Int) Int))))), (p_ties, (OL (ties : (List Int))))]) (passOwn rfl) rfl (ji_rng1 h_rg rfl t_range (je_var 1 rfl)) (.keep (.keep (.keep (.keep (.keep (.drop (.drop (.drop (.drop (.drop (.drop Wk.nil))))))))))) rfl (fun _ => trivial) (fun x st rr hx hf => ⟨_, _, (jg_name 5 nd), ?_⟩) ?_
  · replace hf : m_Board___init___b1 st x = some rr := hf
    unfold m_Board___init___b1 at hf
    obtain ⟨here_1, h_here_1, hf⟩ := obind hf
    refine js_dput (κ := Int) (A := Bool) 0 (units_of hr) (jx_of je_bl) (fun ρ' T' h => ?_) (fun _ _ z => z.elim)
    obtain ⟨rfl, rfl⟩ := h
    refine ⟨_, _, _, _, _, rfl, (je_var 4 rfl), (je_add (je_var 5 rfl) je_int), rfl, h_here_1, ?_⟩
    show JSs _ _ [some (Ref p_self), some (Dat many), some (Ref p_pieces), some (Ref p_ties), some (Ref p_here), some (Dat x), none, none, none, none, none] [(p_here, (OD (here_1 : (List (Int × Bool))))), (p_ends, (OL (([] : (List Int)) : (List Int)))), (p_rows, (OL (([] : (List (T3 Int (List Int) Int))) : (List (T3 Int (List Int) Int))))), (p_self, (OIns (He.ga K "Board") [("many", (Dat many)), ("rows", (Ref p_rows)), ("ends", (Ref p_ends))])), (p_pieces, (OP (pieces : (List (T3 Int (List Int) Int))))), (p_ties, (OL (ties : (List Int))))] _ _
    cases hf
    exact js_nilE (TEnt.refl _) ⟨(.keep (.keep (.keep (.keep (.keep (.drop (.drop (.drop (.drop (.drop (.drop Wk.nil))))))))))), rfl⟩
  show JSs _ _ [some (Ref p_self), some (Dat many), some (Ref p_pieces), some (Ref p_ties), some (Ref p_here), none, none, none, none, none, none] [(p_here, (OD (sn : (List (Int × Bool))))), (p_ends, (OL (([] : (List Int)) : (List Int)))), (p_rows, (OL (([] : (List (T3 Int (List Int) Int))) : (List (T3 Int (List Int) Int))))), (p_self, (OIns (He.ga K "Board") [("many", (Dat many)), ("rows", (Ref p_rows)), ("ends", (Ref p_ends))])), (p_pieces, (OP (pieces : (List (T3 Int (List Int) Int))))), (p_ties, (OL (ties : (List Int))))] _ _
  refine js_set 6 nd (je_var 1 rfl) ?_
  obtain ⟨sn_1, hl_2, hm⟩ := obind hm
  refine js_forPO 4 rfl hl_2 (fun (st_1 : (Int × (List (Int × Bool)) × (List (T3 Int (List Int) Int)))) => [some (Ref p_self), some (Dat many), some (Ref p_pieces), some (Ref p_ties), some (Ref p_here), none, some (Dat st_1.1), none, none, none, none]) (fun (st_1 : (Int × (List (Int × Bool)) × (List (T3 Int (List Int) Int)))) => [(p_here, (OD (st_1.2.1 : (List (Int × Bool))))), (p_ends, (OL (([] : (List Int)) : (List Int)))), (p_rows, (OL (st_1.2.2 : (List (T3 Int (List Int) Int))))), (p_self, (OIns (He.ga K "Board") [("many", (Dat many)), ("rows", (Ref p_rows)), ("ends", (Ref p_ends))])), (p_pieces, (OP (pieces : (List (T3 Int (List Int) Int))))), (p_ties, (OL (ties : (List Int))))]) (passOwn rfl) rfl (fun _ => (je_var 2 rfl)) (.keep (.keep (.keep (.keep (.keep (.drop (.keep (.drop (.drop (.drop (.drop Wk.nil))))))))))) rfl (fun _ => rfl) (fun p_it Sh Bh ih x_1 st_1 rr_1 hxh hh hf_1 => ⟨_, _, (jg_tupV rfl (jgs_cons (jg_name 7 nd) (jgs_cons (jg_name 8 nd) (jgs_cons (jg_name 9 nd) jgs_nil))) rfl), ?_⟩) ?_
  · replace hf_1 : m_Board___init___b2 st_1 x_1 = some rr_1 := hf_1
    unfold m_Board___init___b2 at hf_1
    show JSs _ _ [some (Ref p_self), some (Dat many), some (Ref p_pieces), some (Ref p_ties), some (Ref p_here), none, some (Dat st_1.1), some (Dat x_1.a), some (Ref p_it), some (Dat x_1.c), none] [(p_it, (OL (x_1.b : (List Int)))), (p_here, (OD (st_1.2.1 : (List (Int × Bool))))), (p_ends, (OL (([] : (List Int)) : (List Int)))), (p_rows, (OL (st_1.2.2 : (List (T3 Int (List Int) Int))))), (p_self, (OIns (He.ga K "Board") [("many", (Dat many)), ("rows", (Ref p_rows)), ("ends", (Ref p_ends))])), (p_pieces, (OH Sh Bh)), (p_ties, (OL (ties : (List Int))))] _ _
    obtain ⟨r_is_whole_1, h_r_is_whole_1, hf_1⟩ := obind hf_1
    refine js_ifr (JTW.jt (jw_or (jt_not (jt_val (je_callM x_1.a (by exact h_r_is_whole_1) c_is_whole (hr.mono (by decide)) rfl (ja_cons (je_var 7 rfl) ja_nil) perm0 (fun _ _ h => h)))) fun _ => (jw_or1 (jt_not (jt_chain (by exact (je_var 6 rfl)) (by exact (je_var 7 rfl)) (by exact (je_gint rfl g_KNOTS)) fun _ _ _ h1 h2 h3 => pt_chain op_lt op_lt h1 h2 h3))))) (fun hc_1 => ?_) (fun hc_1 => ?_)
    · replace hf_1 := oT hc_1 hf_1
      cases hf_1
    replace hf_1 := oF hc_1 hf_1
    obtain ⟨r_check_cut, h_r_check_cut, hf_1⟩ := obind hf_1
    refine js_step (js_expr (je_callM (p_it, x_1.b, p_here, st_1.2.1) (by exact h_r_check_cut) c_check_cut (hr.mono (by decide)) rfl (ja_cons (je_var 8 rfl) (ja_cons (je_var 4 rfl) ja_nil)) (perm2 0 0 rfl rfl) (fun _ _ h => h)) ⟨rfl, rfl⟩) ?_
    obtain ⟨r_is_whole_2, h_r_is_whole_2, hf_1⟩ := obind hf_1
    obtain ⟨tv, h_tv, hf_1⟩ := obind hf_1
    refine js_ifr (JTW.jt (jw_orO h_tv (jt_not (jt_val (je_callM x_1.c (by exact h_r_is_whole_2) c_is_whole (hr.mono (by decide)) rfl (ja_cons (je_var 9 rfl) ja_nil) perm0 (fun _ _ h => h)))) fun _ hz => by obtain ⟨r_every_lighting, h_r_every_lighting, hz⟩ := obind hz; cases hz; exact (jw_or1 (jt_not (jt_chain (by exact je_int) (by exact (je_var 9 rfl)) (by exact (je_callM (x_1.b.length : Int) (by exact h_r_every_lighting) c_every_lighting (hr.mono (by decide)) rfl (ja_cons (je_lenL rfl t_len (je_var 8 rfl) (rdl_own 0 rfl)) ja_nil) perm0 (fun _ _ h => h))) fun _ _ _ h1 h2 h3 => pt_chain op_le op_le h1 h2 h3))))) (fun hc_2 => ?_) (fun hc_2 => ?_)
    · replace hf_1 := oT hc_2 hf_1
      cases hf_1
    replace hf_1 := oF hc_2 hf_1
    obtain ⟨rows_1, h_rows_1, hf_1⟩ := obind hf_1
    refine js_app (B := (T3 Int (List Int) Int)) 3 rfl (je_fld 4 (je_var 0 rfl) rfl k_Board n_Board_rows rfl) ?_ h_rows_1 ?_
    · exact (je_tup3 (je_var 7 rfl) (je_jf (jf_listOf rfl t_list (je_var 8 rfl) (rdl_own 0 rfl))) (je_var 9 rfl))
    obtain ⟨here_2, h_here_2, hf_1⟩ := obind hf_1
    refine js_dput (κ := Int) (A := Bool) 1 (units_of hr) (jx_of je_bl) (fun ρ' T' h => ?_) (fun _ _ z => z.elim)
    obtain ⟨rfl, rfl⟩ := h
    refine ⟨_, _, _, _, _, rfl, (je_var 4 rfl), (je_var 7 rfl), rfl, h_here_2, ?_⟩
    show JSs _ _ [some (Ref p_self), some (Dat many), some (Ref p_pieces), some (Ref p_ties), some (Ref p_here), none, some (Dat st_1.1), some (Dat x_1.a), some (Ref p_it), some (Dat x_1.c), none] [(p_it, (OL (x_1.b : (List Int)))), (p_here, (OD (here_2 : (List (Int × Bool))))), (p_ends, (OL (([] : (List Int)) : (List Int)))), (p_rows, (OL (rows_1 : (List (T3 Int (List Int) Int))))), (p_self, (OIns (He.ga K "Board") [("many", (Dat many)), ("rows", (Ref p_rows)), ("ends", (Ref p_ends))])), (p_pieces, (OH Sh Bh)), (p_ties, (OL (ties : (List Int))))] _ _
    refine js_set 6 nd (je_var 7 rfl) ?_
    cases hf_1
    exact js_nilE (TEnt.refl _) ⟨(.keep (.keep (.keep (.keep (.keep (.drop (.keep (.drop (.drop (.drop (.drop Wk.nil))))))))))), rfl⟩
  show JSs _ _ [some (Ref p_self), some (Dat many), some (Ref p_pieces), some (Ref p_ties), some (Ref p_here), none, some (Dat sn_1.1), none, none, none, none] [(p_here, (OD (sn_1.2.1 : (List (Int × Bool))))), (p_ends, (OL (([] : (List Int)) : (List Int)))), (p_rows, (OL (sn_1.2.2 : (List (T3 Int (List Int) Int))))), (p_self, (OIns (He.ga K "Board") [("many", (Dat many)), ("rows", (Ref p_rows)), ("ends", (Ref p_ends))])), (p_pieces, (OP (pieces : (List (T3 Int (List Int) Int))))), (p_ties, (OL (ties : (List Int))))] _ _
  obtain ⟨sn_2, hl_1, hm⟩ := obind hm
  refine js_forO Dat (fun T' => T'[5]? = some (p_ties, (OL (ties : (List Int))))) hl_1 (fun (st_2 : (List Int)) => [some (Ref p_self), some (Dat many), some (Ref p_pieces), some (Ref p_ties), some (Ref p_here), none, some (Dat sn_1.1), none, none, none, none]) (fun (st_2 : (List Int)) => [(p_here, (OD (sn_1.2.1 : (List (Int × Bool))))), (p_ends, (OL (st_2 : (List Int)))), (p_rows, (OL (sn_1.2.2 : (List (T3 Int (List Int) Int))))), (p_self, (OIns (He.ga K "Board") [("many", (Dat many)), ("rows", (Ref p_rows)), ("ends", (Ref p_ends))])), (p_pieces, (OP (pieces : (List (T3 Int (List Int) Int))))), (p_ties, (OL (ties : (List Int))))]) (passOwn rfl) rfl (ji_list _ (je_var 3 rfl) fun T' h => rdl_own 5 (by rcases h with rfl | h; exact rfl; exact h)) (.keep (.keep (.keep (.keep (.keep (.drop (.keep (.drop (.drop (.drop (.drop Wk.nil))))))))))) rfl (fun _ => rfl) (fun x_2 st_2 rr_2 hx_1 hf_2 => ⟨_, _, (jg_name 10 nd), ?_⟩) ?_
  · replace hf_2 : (m_Board___init___b3 sn_1) st_2 x_2 = some rr_2 := hf_2
    unfold m_Board___init___b3 at hf_2
    obtain ⟨r_is_whole_3, h_r_is_whole_3, hf_2⟩ := obind hf_2
    refine js_ifr (JTW.jt (jw_or (jt_not (jt_val (je_callM x_2 (by exact h_r_is_whole_3) c_is_whole (hr.mono (by decide)) rfl (ja_cons (je_var 10 rfl) ja_nil) perm0 (fun _ _ h => h)))) fun _ => (jw_or1 (JTW.jt (jw_and (jt_c (jc_neS (je_shr (je_var 10 rfl) je_int (by decide)) je_int)) fun _ => (jw_and1 (jt_c (jc_dniZ (dat_own 0 rfl) (units_of hr) (je_shr (je_var 10 rfl) je_int (by decide)) (je_var 4 rfl))))))))) (fun hc_3 => ?_) (fun hc_3 => ?_)
    · replace hf_2 := oT hc_3 hf_2
      cases hf_2
    replace hf_2 := oF hc_3 hf_2
    obtain ⟨ends_1, h_ends_1, hf_2⟩ := obind hf_2
    refine js_app (B := Int) 1 rfl (je_fld 3 (je_var 0 rfl) rfl k_Board n_Board_ends rfl) ?_ h_ends_1 ?_
    · exact (je_var 10 rfl)
    cases hf_2
    exact js_nilE (TEnt.refl _) ⟨(.keep (.keep (.keep (.keep (.keep (.drop (.keep (.drop (.drop (.drop (.drop Wk.nil))))))))))), rfl⟩
  show JSs _ _ [some (Ref p_self), some (Dat many), some (Ref p_pieces), some (Ref p_ties), some (Ref p_here), none, some (Dat sn_1.1), none, none, none, none] [(p_here, (OD (sn_1.2.1 : (List (Int × Bool))))), (p_ends, (OL (sn_2 : (List Int)))), (p_rows, (OL (sn_1.2.2 : (List (T3 Int (List Int) Int))))), (p_self, (OIns (He.ga K "Board") [("many", (Dat many)), ("rows", (Ref p_rows)), ("ends", (Ref p_ends))])), (p_pieces, (OP (pieces : (List (T3 Int (List Int) Int))))), (p_ties, (OL (ties : (List Int))))] _ _
  refine js_ifr (jt_c (jc_eqD (units_of hr) (je_fld 3 (je_var 0 rfl) rfl k_Board n_Board_ends rfl) (dpv_own 1 rfl) (je_listF (xs := ([] : (List Int))) ja_nil (by decide)) dpv_dat)) (fun hc_4 => ?_) (fun hc_4 => ?_)
  · replace hm := oT hc_4 hm
    cases hm
  replace hm := oF hc_4 hm
  cases hm
  exact js_nilE (TEnt.trans (TEnt.pick 3 rfl (TEnt.pick 2 rfl (TEnt.pick 1 rfl (TEnt.refl _)))) (TEnt.trans (TEnt.close (C := He.ga K "Board") (fs := [("many", .v (Dat many)), ("rows", .o (OL (sn_1.2.2 : (List (T3 Int (List Int) Int))))), ("ends", .o (OL (sn_2 : (List Int))))]) (qs := [p_rows, p_ends]) rfl) (TEnt.pick 0 rfl (TEnt.pick 1 rfl (TEnt.pick 1 rfl (TEnt.nil _)))))) ⟨rfl, rfl⟩
abbrev sp_Board___init___2 (K : PySem.W.Frag) : Sp := (mSpec (fun a : (Addr × Int × (List (T3 Int (List Int) Int)) × (List Int)) => [Ref a.1, Dat a.2.1, Dat a.2.2.1, Dat a.2.2.2]) (fun a => [(a.1, OIns (He.ga K "Board") [])]) (fun a => m_Board___init__ a.2.1 a.2.2.1 a.2.2.2) (fun a r ρ T => ρ = Dat () ∧ T = [(a.1, (O_Board K r))])).sp
theorem ok_Board___init___2 {P : Program} {w : World} {K : PySem.W.Frag} {mg : Str → Option Value} {base : Heap} {f : Addr} {fd : FuncData} (F : FnD K "__init__" "Board.__init__" s_Board___init__ f fd) (t_len : mg "len" = none) (t_list : mg "list" = none) (t_range : mg "range" = none) (g_MOST_INPUTS : ∃ t, mg "MOST_INPUTS" = some (.int (10) t)) (g_KNOTS : ∃ t, mg "KNOTS" = some (.int (1000) t)) (k_Board : Cls K (He.ga K "Board")) (n_Board_rows : NoAttr K (He.ga K "Board") "rows") (n_Board_ends : NoAttr K (He.ga K "Board") "ends") (n_Board_many : NoAttr K (He.ga K "Board") "many") (c_is_whole : Cal P w K mg base 1 "is_whole" ["thing"] (sp_is_whole K)) (c_check_cut_2 : Cal P w K mg base 2 "check_cut" ["cut", "here"] (sp_check_cut_2 K)) (c_every_lighting : Cal P w K mg base 1 "every_lighting" ["many"] (sp_every_lighting K)) : FnOk P w K mg base (L2N.CX P w) 3 f fd ["self", "many", "pieces", "ties"] (sp_Board___init___2 K) := by
  have nd := sc_Board___init__.nd
  refine fnM (N := N_Board___init__) _ _ _ _ F sc_Board___init__ (fun _ => rfl) fun cdv Ar outer s H E hr a r hm => ?_
  obtain ⟨p_self, many, pieces, ties⟩ := a
  replace hm : m_Board___init__ many pieces ties = some r := hm
  unfold m_Board___init__ at hm
  show JSs _ _ [some (Ref p_self), some (Dat many), some (Dat pieces), some (Dat ties), none, none, none, none, none, none, none] [(p_self, OIns (He.ga K "Board") [])] _ _
  obtain ⟨r_is_whole, h_r_is_whole, hm⟩ := obind hm
  refine js_ifr (JTW.jt (jw_or (jt_not (jt_val (je_callM many (by exact h_r_is_whole) c_is_whole (hr.mono (by decide)) rfl (ja_cons (je_var 1 rfl) ja_nil) perm0 (fun _ _ h => h)))) fun _ => (jw_or1 (jt_not (jt_chain (by exact je_int) (by exact (je_var 1 rfl)) (by exact (je_gint rfl g_MOST_INPUTS)) fun _ _ _ h1 h2 h3 => pt_chain op_le op_le h1 h2 h3))))) (fun hc => ?_) (fun hc => ?_)
  · replace hm := oT hc hm
    cases hm
  replace hm := oF hc hm
  refine js_fld (p := p_self) 0 (gs' := []) (jx_of (je_var 1 rfl)) (fun ρ' T' h => ?_) (fun _ _ z => z.elim) k_Board n_Board_many
  obtain ⟨rfl, rfl⟩ := h
  refine ⟨_, (je_var 0 rfl), rfl, (by show 0 < 1000; decide), ?_⟩
  show JSs _ _ [some (Ref p_self), some (Dat many), some (Dat pieces), some (Dat ties), none, none, none, none, none, none, none] [(p_self, (OIns (He.ga K "Board") [("many", (Dat many))]))] _ _
  refine js_fld (p := p_self) 1 (gs' := []) (jx_list (xs := ([] : (List (T3 Int (List Int) Int)))) ja_nil (by decide)) (fun ρ' T' h => ?_) (fun _ _ z => z.elim) k_Board n_Board_rows
  obtain ⟨p_rows, rfl, rfl⟩ := h
  refine ⟨_, (je_var 0 rfl), rfl, (by show 1 < 1000; decide), ?_⟩
  show JSs _ _ [some (Ref p_self), some (Dat many), some (Dat pieces), some (Dat ties), none, none, none, none, none, none, none] [(p_rows, (OL (([] : (List (T3 Int (List Int) Int))) : (List (T3 Int (List Int) Int))))), (p_self, (OIns (He.ga K "Board") [("many", (Dat many)), ("rows", (Ref p_rows))]))] _ _
  refine js_fld (p := p_self) 2 (gs' := []) (jx_list (xs := ([] : (List Int))) ja_nil (by decide)) (fun ρ' T' h => ?_) (fun _ _ z => z.elim) k_Board n_Board_ends
  obtain ⟨p_ends, rfl, rfl⟩ := h
  refine ⟨_, (je_var 0 rfl), rfl, (by show 2 < 1000; decide), ?_⟩
  show JSs _ _ [some (Ref p_self), some (Dat many), some (Dat pieces), some (Dat ties), none, none, none, none, none, none, none] [(p_ends, (OL (([] : (List Int)) : (List Int)))), (p_rows, (OL (([] : (List (T3 Int (List Int) Int))) : (List (T3 Int (List Int) Int))))), (p_self, (OIns (He.ga K "Board") [("many", (Dat many)), ("rows", (Ref p_rows)), ("ends", (Ref p_ends))]))] _ _
  refine js_setK 4 nd (jx_dict (κ := Int) (A := Bool)) (fun ρ' T' h => ?_) (fun _ _ z => z.elim)
  obtain ⟨p_here, rfl, rfl⟩ := h
  show JSs _ _ [some (Ref p_self), some (Dat many), some (Dat pieces), some (Dat ties), some (Ref p_here), none, none, none, none, none, none] [(p_here, (OD (([] : (List (Int × Bool))) : (List (Int × Bool))))), (p_ends, (OL (([] : (List Int)) : (List Int)))), (p_rows, (OL (([] : (List (T3 Int (List Int) Int))) : (List (T3 Int (List Int) Int))))), (p_self, (OIns (He.ga K "Board") [("many", (Dat many)), ("rows", (Ref p_rows)), ("ends", (Ref p_ends))]))] _ _
  obtain ⟨rg, h_rg, hm⟩ := obind hm
  obtain ⟨sn, hl, hm⟩ := obind hm
  refine js_forO Dat (fun _ => True) hl (fun (st : (List (Int × Bool))) => [some (Ref p_self), some (Dat many), some (Dat pieces), some (Dat ties), some (Ref p_here), none, none, none, none, none, none]) (fun (st : (List (Int × Bool))) => [(p_here, (OD (st : (List (Int × Bool))))), (p_ends, (OL (([] : (List Int)) : (List Int)))), (p_rows, (OL (([] : (List (T3 Int (List Int) Int))) : (List (T3 Int (List Int) Int))))), (p_self, (OIns (He.ga K "Board") [("many", (Dat many)), ("rows", (Ref p_rows)), ("ends", (Ref p_ends))]))]) (passOwn rfl) rfl (ji_rng1 h_rg rfl t_range (je_var 1 rfl)) (.keep (.keep (.keep (.keep (.keep (.drop (.drop (.drop (.drop (.drop (.drop Wk.nil))))))))))) rfl (fun _ => trivial) (fun x st rr hx hf => ⟨_, _, (jg_name 5 nd), ?_⟩) ?_
  · replace hf : m_Board___init___b1 st x = some rr := hf
    unfold m_Board___init___b1 at hf
    obtain ⟨here_1, h_here_1, hf⟩ := obind hf
    refine js_dput (κ := Int) (A := Bool) 0 (units_of hr) (jx_of je_bl) (fun ρ' T' h => ?_) (fun _ _ z => z.elim)
    obtain ⟨rfl, rfl⟩ := h
    refine ⟨_, _, _, _, _, rfl, (je_var 4 rfl), (je_add (je_var 5 rfl) je_int), rfl, h_here_1, ?_⟩
    show JSs _ _ [some (Ref p_self), some (Dat many), some (Dat pieces), some (Dat ties), some (Ref p_here), some (Dat x), none, none, none, none, none] [(p_here, (OD (here_1 : (List (Int × Bool))))), (p_ends, (OL (([] : (List Int)) : (List Int)))), (p_rows, (OL (([] : (List (T3 Int (List Int) Int))) : (List (T3 Int (List Int) Int))))), (p_self, (OIns (He.ga K "Board") [("many", (Dat many)), ("rows", (Ref p_rows)), ("ends", (Ref p_ends))]))] _ _
    cases hf
    exact js_nilE (TEnt.refl _) ⟨(.keep (.keep (.keep (.keep (.keep (.drop (.drop (.drop (.drop (.drop (.drop Wk.nil))))))))))), rfl⟩
  show JSs _ _ [some (Ref p_self), some (Dat many), some (Dat pieces), some (Dat ties), some (Ref p_here), none, none, none, none, none, none] [(p_here, (OD (sn : (List (Int × Bool))))), (p_ends, (OL (([] : (List Int)) : (List Int)))), (p_rows, (OL (([] : (List (T3 Int (List Int) Int))) : (List (T3 Int (List Int) Int))))), (p_self, (OIns (He.ga K "Board") [("many", (Dat many)), ("rows", (Ref p_rows)), ("ends", (Ref p_ends))]))] _ _
  refine js_set 6 nd (je_var 1 rfl) ?_
  obtain ⟨sn_1, hl_1, hm⟩ := obind hm
  refine js_forO Dat (fun _ => True) hl_1 (fun (st_1 : (Int × (List (Int × Bool)) × (List (T3 Int (List Int) Int)))) => [some (Ref p_self), some (Dat many), some (Dat pieces), some (Dat ties), some (Ref p_here), none, some (Dat st_1.1), none, none, none, none]) (fun (st_1 : (Int × (List (Int × Bool)) × (List (T3 Int (List Int) Int)))) => [(p_here, (OD (st_1.2.1 : (List (Int × Bool))))), (p_ends, (OL (([] : (List Int)) : (List Int)))), (p_rows, (OL (st_1.2.2 : (List (T3 Int (List Int) Int))))), (p_self, (OIns (He.ga K "Board") [("many", (Dat many)), ("rows", (Ref p_rows)), ("ends", (Ref p_ends))]))]) (passOwn rfl) rfl (ji_list _ (je_var 2 rfl) fun _ _ => rdl_dat) (.keep (.keep (.keep (.keep (.keep (.drop (.keep (.drop (.drop (.drop (.drop Wk.nil))))))))))) rfl (fun _ => trivial) (fun x_1 st_1 rr_1 hx_1 hf_1 => ⟨_, _, (jg_tup3 rfl (jgs_cons (jg_name 7 nd) (jgs_cons (jg_name 8 nd) (jgs_cons (jg_name 9 nd) jgs_nil)))), ?_⟩) ?_
  · replace hf_1 : m_Board___init___b2 st_1 x_1 = some rr_1 := hf_1
    unfold m_Board___init___b2 at hf_1
    obtain ⟨r_is_whole_1, h_r_is_whole_1, hf_1⟩ := obind hf_1
    refine js_ifr (JTW.jt (jw_or (jt_not (jt_val (je_callM x_1.a (by exact h_r_is_whole_1) c_is_whole (hr.mono (by decide)) rfl (ja_cons (je_var 7 rfl) ja_nil) perm0 (fun _ _ h => h)))) fun _ => (jw_or1 (jt_not (jt_chain (by exact (je_var 6 rfl)) (by exact (je_var 7 rfl)) (by exact (je_gint rfl g_KNOTS)) fun _ _ _ h1 h2 h3 => pt_chain op_lt op_lt h1 h2 h3))))) (fun hc_1 => ?_) (fun hc_1 => ?_)
    · replace hf_1 := oT hc_1 hf_1
      cases hf_1
    replace hf_1 := oF hc_1 hf_1
    obtain ⟨r_check_cut, h_r_check_cut, hf_1⟩ := obind hf_1
    refine js_step (js_expr (je_callM (x_1.b, p_here, st_1.2.1) (by exact h_r_check_cut) c_check_cut_2 (hr.mono (by decide)) rfl (ja_cons (je_var 8 rfl) (ja_cons (je_var 4 rfl) ja_nil)) (perm1 0 rfl) (fun _ _ h => h)) ⟨rfl, rfl⟩) ?_
    obtain ⟨r_is_whole_2, h_r_is_whole_2, hf_1⟩ := obind hf_1
    obtain ⟨tv, h_tv, hf_1⟩ := obind hf_1
    refine js_ifr (JTW.jt (jw_orO h_tv (jt_not (jt_val (je_callM x_1.c (by exact h_r_is_whole_2) c_is_whole (hr.mono (by decide)) rfl (ja_cons (je_var 9 rfl) ja_nil) perm0 (fun _ _ h => h)))) fun _ hz => by obtain ⟨r_every_lighting, h_r_every_lighting, hz⟩ := obind hz; cases hz; exact (jw_or1 (jt_not (jt_chain (by exact je_int) (by exact (je_var 9 rfl)) (by exact (je_callM (x_1.b.length : Int) (by exact h_r_every_lighting) c_every_lighting (hr.mono (by decide)) rfl (ja_cons (je_lenL rfl t_len (je_var 8 rfl) rdl_dat) ja_nil) perm0 (fun _ _ h => h))) fun _ _ _ h1 h2 h3 => pt_chain op_le op_le h1 h2 h3))))) (fun hc_2 => ?_) (fun hc_2 => ?_)
    · replace hf_1 := oT hc_2 hf_1
      cases hf_1
    replace hf_1 := oF hc_2 hf_1
    obtain ⟨rows_1, h_rows_1, hf_1⟩ := obind hf_1
    refine js_app (B := (T3 Int (List Int) Int)) 2 rfl (je_fld 3 (je_var 0 rfl) rfl k_Board n_Board_rows rfl) ?_ h_rows_1 ?_
    · exact (je_tup3 (je_var 7 rfl) (je_jf (jf_listOf rfl t_list (je_var 8 rfl) rdl_dat)) (je_var 9 rfl))
    obtain ⟨here_2, h_here_2, hf_1⟩ := obind hf_1
    refine js_dput (κ := Int) (A := Bool) 0 (units_of hr) (jx_of je_bl) (fun ρ' T' h => ?_) (fun _ _ z => z.elim)
    obtain ⟨rfl, rfl⟩ := h
    refine ⟨_, _, _, _, _, rfl, (je_var 4 rfl), (je_var 7 rfl), rfl, h_here_2, ?_⟩
    show JSs _ _ [some (Ref p_self), some (Dat many), some (Dat pieces), some (Dat ties), some (Ref p_here), none, some (Dat st_1.1), some (Dat x_1.a), some (Dat x_1.b), some (Dat x_1.c), none] [(p_here, (OD (here_2 : (List (Int × Bool))))), (p_ends, (OL (([] : (List Int)) : (List Int)))), (p_rows, (OL (rows_1 : (List (T3 Int (List Int) Int))))), (p_self, (OIns (He.ga K "Board") [("many", (Dat many)), ("rows", (Ref p_rows)), ("ends", (Ref p_ends))]))] _ _
    refine js_set 6 nd (je_var 7 rfl) ?_
    cases hf_1
    exact js_nilE (TEnt.refl _) ⟨(.keep (.keep (.keep (.keep (.keep (.drop (.keep (.drop (.drop (.drop (.drop Wk.nil))))))))))), rfl⟩
  show JSs _ _ [some (Ref p_self), some (Dat many), some (Dat pieces), some (Dat ties), some (Ref p_here), none, some (Dat sn_1.1), none, none, none, none] [(p_here, (OD (sn_1.2.1 : (List (Int × Bool))))), (p_ends, (OL (([] : (List Int)) : (List Int)))), (p_rows, (OL (sn_1.2.2 : (List (T3 Int (List Int) Int))))), (p_self, (OIns (He.ga K "Board") [("many", (Dat many)), ("rows", (Ref p_rows)), ("ends", (Ref p_ends))]))] _ _
  obtain ⟨sn_2, hl_2, hm⟩ := obind hm
  refine js_forO Dat (fun _ => True) hl_2 (fun (st_2 : (List Int)) => [some (Ref p_self), some (Dat many), some (Dat pieces), some (Dat ties), some (Ref p_here), none, some (Dat sn_1.1), none, none, none, none]) (fun (st_2 : (List Int)) => [(p_here, (OD (sn_1.2.1 : (List (Int × Bool))))), (p_ends, (OL (st_2 : (List Int)))), (p_rows, (OL (sn_1.2.2 : (List (T3 Int (List Int) Int))))), (p_self, (OIns (He.ga K "Board") [("many", (Dat many)), ("rows", (Ref p_rows)), ("ends", (Ref p_ends))]))]) (passOwn rfl) rfl (ji_list _ (je_var 3 rfl) fun _ _ => rdl_dat) (.keep (.keep (.keep (.keep (.keep (.drop (.keep (.drop (.drop (.drop (.drop Wk.nil))))))))))) rfl (fun _ => trivial) (fun x_2 st_2 rr_2 hx_2 hf_2 => ⟨_, _, (jg_name 10 nd), ?_⟩) ?_
  · replace hf_2 : (m_Board___init___b3 sn_1) st_2 x_2 = some rr_2 := hf_2
    unfold m_Board___init___b3 at hf_2
    obtain ⟨r_is_whole_3, h_r_is_whole_3, hf_2⟩ := obind hf_2
    refine js_ifr (JTW.jt (jw_or (jt_not (jt_val (je_callM x_2 (by exact h_r_is_whole_3) c_is_whole (hr.mono (by decide)) rfl (ja_cons (je_var 10 rfl) ja_nil) perm0 (fun _ _ h => h)))) fun _ => (jw_or1 (JTW.jt (jw_and (jt_c (jc_neS (je_shr (je_var 10 rfl) je_int (by decide)) je_int)) fun _ => (jw_and1 (jt_c (jc_dniZ (dat_own 0 rfl) (units_of hr) (je_shr (je_var 10 rfl) je_int (by decide)) (je_var 4 rfl))))))))) (fun hc_3 => ?_) (fun hc_3 => ?_)
    · replace hf_2 := oT hc_3 hf_2
      cases hf_2
    replace hf_2 := oF hc_3 hf_2
    obtain ⟨ends_1, h_ends_1, hf_2⟩ := obind hf_2
    refine js_app (B := Int) 1 rfl (je_fld 3 (je_var 0 rfl) rfl k_Board n_Board_ends rfl) ?_ h_ends_1 ?_
    · exact (je_var 10 rfl)
    cases hf_2
    exact js_nilE (TEnt.refl _) ⟨(.keep (.keep (.keep (.keep (.keep (.drop (.keep (.drop (.drop (.drop (.drop Wk.nil))))))))))), rfl⟩
  show JSs _ _ [some (Ref p_self), some (Dat many), some (Dat pieces), some (Dat ties), some (Ref p_here), none, some (Dat sn_1.1), none, none, none, none] [(p_here, (OD (sn_1.2.1 : (List (Int × Bool))))), (p_ends, (OL (sn_2 : (List Int)))), (p_rows, (OL (sn_1.2.2 : (List (T3 Int (List Int) Int))))), (p_self, (OIns (He.ga K "Board") [("many", (Dat many)), ("rows", (Ref p_rows)), ("ends", (Ref p_ends))]))] _ _
  refine js_ifr (jt_c (jc_eqD (units_of hr) (je_fld 3 (je_var 0 rfl) rfl k_Board n_Board_ends rfl) (dpv_own 1 rfl) (je_listF (xs := ([] : (List Int))) ja_nil (by decide)) dpv_dat)) (fun hc_4 => ?_) (fun hc_4 => ?_)
  · replace hm := oT hc_4 hm
    cases hm
  replace hm := oF hc_4 hm
  cases hm
  exact js_nilE (TEnt.trans (TEnt.pick 3 rfl (TEnt.pick 2 rfl (TEnt.pick 1 rfl (TEnt.refl _)))) (TEnt.trans (TEnt.close (C := He.ga K "Board") (fs := [("many", .v (Dat many)), ("rows", .o (OL (sn_1.2.2 : (List (T3 Int (List Int) Int))))), ("ends", .o (OL (sn_2 : (List Int))))]) (qs := [p_rows, p_ends]) rfl) (TEnt.pick 0 rfl (TEnt.nil _)))) ⟨rfl, rfl⟩
def m_Board___init___x_b1  (st : (List (Int × Bool))) (x : Int) : Option (List (Int × Bool)) :=
  ((dputO st (x + (1 : Int)) true).bind fun here_1 => some here_1)
def m_Board___init___x_b2  (st_1 : (Int × (List (Int × Bool)) × (List (T3 Int (List Int) Int)))) (x_1 : (T3 Anyv (List Anyv) Anyv)) : Option (Ctl (Int × (List (Int × Bool)) × (List (T3 Int (List Int) Int))) (Rz Xc S_Board Unit)) :=
  ((m_is_whole_2 x_1.a).bind fun r_is_whole_1 => ((if (!r_is_whole_1) = true then some true else ((x_1.a.toI).bind fun av_4 => some (!(decide (st_1.1 < av_4) && decide (av_4 < (1000 : Int))))))).bind fun tv_1 => if tv_1 = true then (some (.ret (Rz.ex Xc.NoBoard ()))) else (xbind (m_check_cut_x x_1.b st_1.2.1) (fun cx cy => some (.ret (Rz.ex cx ()))) fun r_check_cut => ((m_is_whole_2 x_1.c).bind fun r_is_whole_2 => ((if (!r_is_whole_2) = true then some true else ((m_every_lighting (x_1.b.length : Int)).bind fun r_every_lighting => (x_1.c.toI).bind fun av_5 => some (!(decide ((0 : Int) ≤ av_5) && decide (av_5 ≤ r_every_lighting)))))).bind fun tv_2 => if tv_2 = true then (some (.ret (Rz.ex Xc.NoBoard ()))) else ((x_1.a.toI).bind fun av_6 => (allI x_1.b).bind fun un => (x_1.c.toI).bind fun av_7 => (appO st_1.2.2 (T3.mk av_6 un av_7)).bind fun rows_1 => ((x_1.a.toI).bind fun av_8 => (dputO st_1.2.1 av_8 true).bind fun here_2 => ((x_1.a.toI).bind fun av_9 => some (.go (av_9, here_2, rows_1))))))))
def m_Board___init___x_b3 (sn_1 : (Int × (List (Int × Bool)) × (List (T3 Int (List Int) Int)))) (st_2 : (List Int)) (x_2 : Anyv) : Option (Ctl (List Int) (Rz Xc S_Board Unit)) :=
  ((m_is_whole_2 x_2).bind fun r_is_whole_3 => ((if (!r_is_whole_3) = true then some true else ((x_2.toI).bind fun av_10 => ((if (!decide ((av_10 / 2 ^ (1 : Int).toNat) = (0 : Int))) = true then ((x_2.toI).bind fun av_11 => some (!(dget sn_1.2.1 (av_11 / 2 ^ (1 : Int).toNat)).isSome)) else some false)).bind fun tv_3 => some tv_3))).bind fun tv_4 => if tv_4 = true then (some (.ret (Rz.ex Xc.NoBoard ()))) else ((x_2.toI).bind fun av_12 => (appO st_2 av_12).bind fun ends_1 => some (.go ends_1)))
def m_Board___init___x (many : Anyv) (pieces : (List (T3 Anyv (List Anyv) Anyv))) (ties : (List Anyv)) : Option (Rz Xc S_Board Unit) :=
  ((m_is_whole_2 many).bind fun r_is_whole => ((if (!r_is_whole) = true then some true else ((many.toI).bind fun av => some (!(decide ((1 : Int) ≤ av) && decide (av ≤ (10 : Int))))))).bind fun tv => if tv = true then (some (Rz.ex Xc.NoBoard ())) else ((many.toI).bind fun av_1 => ((many.toI).bind fun av_2 => (rngO (0 : Int) av_2).bind fun rg => ((foldO m_Board___init___x_b1 ([] : (List (Int × Bool))) rg).bind fun sn => ((many.toI).bind fun av_3 => ((foldC m_Board___init___x_b2 (av_3, sn, ([] : (List (T3 Int (List Int) Int)))) pieces).bind fun cv => cv.el (fun sn_1 => ((foldC (m_Board___init___x_b3 sn_1) ([] : (List Int)) ties).bind fun cv_1 => cv_1.el (fun sn_2 => if (decide (sn_2 = ([] : (List Int)))) = true then (some (Rz.ex Xc.NoBoard ())) else some (Rz.ok (S_Board.mk av_1 sn_1.2.2 sn_2))) (fun q__ => some q__))) (fun q__ => some q__)))))))
abbrev sp_Board___init___3 (K : PySem.W.Frag) : Sp := (xSpec K Xc.nm (fun a : (Addr × Anyv × (List (T3 Anyv (List Anyv) Anyv)) × (List Anyv)) => [Ref a.1, Dat a.2.1, Dat a.2.2.1, Dat a.2.2.2]) (fun a => [(a.1, OIns (He.ga K "Board") [])]) (fun a => m_Board___init___x a.2.1 a.2.2.1 a.2.2.2) (fun a r ρ T => ρ = Dat () ∧ T = [(a.1, (O_Board K r))]) (fun a y => [])).sp
theorem ok_Board___init___3 {P : Program} {w : World} {K : PySem.W.Frag} {mg : Str → Option Value} {base : Heap} {f : Addr} {fd : FuncData} (F : FnD K "__init__" "Board.__init__" s_Board___init__ f fd) (t_len : mg "len" = none) (t_list : mg "list" = none) (t_range : mg "range" = none) (g_MOST_INPUTS : ∃ t, mg "MOST_INPUTS" = some (.int (10) t)) (x_NoBoard : ExF K mg "NoBoard") (g_KNOTS : ∃ t, mg "KNOTS" = some (.int (1000) t)) (k_Board : Cls K (He.ga K "Board")) (n_Board_rows : NoAttr K (He.ga K "Board") "rows") (n_Board_ends : NoAttr K (He.ga K "Board") "ends") (n_Board_many : NoAttr K (He.ga K "Board") "many") (c_is_whole_2 : Cal P w K mg base 1 "is_whole" ["thing"] (sp_is_whole_2 K)) (c_check_cut_3 : Cal P w K mg base 2 "check_cut" ["cut", "here"] (sp_check_cut_3 K)) (c_every_lighting : Cal P w K mg base 1 "every_lighting" ["many"] (sp_every_lighting K)) : FnOk P w K mg base (L2N.CX P w) 3 f fd ["self", "many", "pieces", "ties"] (sp_Board___init___3 K) := by
  have nd := sc_Board___init__.nd
  refine fnX (N := N_Board___init__) Xc.nm _ _ _ _ _ F sc_Board___init__ (fun _ => rfl) fun cdv Ar outer s H E hr a r hm => ?_
  obtain ⟨p_self, many, pieces, ties⟩ := a
  replace hm : m_Board___init___x many pieces ties = some r := hm
  unfold m_Board___init___x at hm
  show JSs _ _ [some (Ref p_self), some (Dat many), some (Dat pieces), some (Dat ties), none, none, none, none, none, none, none] [(p_self, OIns (He.ga K "Board") [])] _ _
  obtain ⟨r_is_whole, h_r_is_whole, hm⟩ := obind hm
  obtain ⟨tv, h_tv, hm⟩ := obind hm
  refine js_ifr (JTW.jt (jw_orO h_tv (jt_not (jt_val (je_callM many (by exact h_r_is_whole) c_is_whole_2 (hr.mono (by decide)) rfl (ja_cons (je_var 1 rfl) ja_nil) perm0 (fun _ _ h => h)))) fun _ hz => by obtain ⟨av, h_av, hz⟩ := obind hz; cases hz; exact (jw_or1 (jt_not (jt_chain (by exact je_int) (by exact (je_anI h_av (je_var 1 rfl))) (by exact (je_gint rfl g_MOST_INPUTS)) fun _ _ _ h1 h2 h3 => pt_chain op_le op_le h1 h2 h3))))) (fun hc => ?_) (fun hc => ?_)
  · replace hm := oT hc hm
    cases hm
    exact js_last (js_raise x_NoBoard rfl rfl (L2N.takes_of rfl rfl rfl rfl) (TEnt.nil _) ⟨_, _, rfl, rfl, rfl⟩)
  replace hm := oF hc hm
  obtain ⟨av_1, h_av_1, hm⟩ := obind hm
  refine js_fld (p := p_self) 0 (gs' := []) (jx_of (je_anI h_av_1 (je_var 1 rfl))) (fun ρ' T' h => ?_) (fun _ _ z => z.elim) k_Board n_Board_many
  obtain ⟨rfl, rfl⟩ := h
  refine ⟨_, (je_var 0 rfl), rfl, (by show 0 < 1000; decide), ?_⟩
  show JSs _ _ [some (Ref p_self), some (Dat many), some (Dat pieces), some (Dat ties), none, none, none, none, none, none, none] [(p_self, (OIns (He.ga K "Board") [("many", (Dat av_1))]))] _ _
  refine js_fld (p := p_self) 1 (gs' := []) (jx_list (xs := ([] : (List (T3 Int (List Int) Int)))) ja_nil (by decide)) (fun ρ' T' h => ?_) (fun _ _ z => z.elim) k_Board n_Board_rows
  obtain ⟨p_rows, rfl, rfl⟩ := h
  refine ⟨_, (je_var 0 rfl), rfl, (by show 1 < 1000; decide), ?_⟩
  show JSs _ _ [some (Ref p_self), some (Dat many), some (Dat pieces), some (Dat ties), none, none, none, none, none, none, none] [(p_rows, (OL (([] : (List (T3 Int (List Int) Int))) : (List (T3 Int (List Int) Int))))), (p_self, (OIns (He.ga K "Board") [("many", (Dat av_1)), ("rows", (Ref p_rows))]))] _ _
  refine js_fld (p := p_self) 2 (gs' := []) (jx_list (xs := ([] : (List Int))) ja_nil (by decide)) (fun ρ' T' h => ?_) (fun _ _ z => z.elim) k_Board n_Board_ends
  obtain ⟨p_ends, rfl, rfl⟩ := h
  refine ⟨_, (je_var 0 rfl), rfl, (by show 2 < 1000; decide), ?_⟩
  show JSs _ _ [some (Ref p_self), some (Dat many), some (Dat pieces), some (Dat ties), none, none, none, none, none, none, none] [(p_ends, (OL (([] : (List Int)) : (List Int)))), (p_rows, (OL (([] : (List (T3 Int (List Int) Int))) : (List (T3 Int (List Int) Int))))), (p_self, (OIns (He.ga K "Board") [("many", (Dat av_1)), ("rows", (Ref p_rows)), ("ends", (Ref p_ends))]))] _ _
  refine js_setK 4 nd (jx_dict (κ := Int) (A := Bool)) (fun ρ' T' h => ?_) (fun _ _ z => z.elim)
  obtain ⟨p_here, rfl, rfl⟩ := h
  show JSs _ _ [some (Ref p_self), some (Dat many), some (Dat pieces), some (Dat ties), some (Ref p_here), none, none, none, none, none, none] [(p_here, (OD (([] : (List (Int × Bool))) : (List (Int × Bool))))), (p_ends, (OL (([] : (List Int)) : (List Int)))), (p_rows, (OL (([] : (List (T3 Int (List Int) Int))) : (List (T3 Int (List Int) Int))))), (p_self, (OIns (He.ga K "Board") [("many", (Dat av_1)), ("rows", (Ref p_rows)), ("ends", (Ref p_ends))]))] _ _
  obtain ⟨av_2, h_av_2, hm⟩ := obind hm
  obtain ⟨rg, h_rg, hm⟩ := obind hm
  obtain ⟨sn, hl, hm⟩ := obind hm
  refine js_forO Dat (fun _ => True) hl (fun (st : (List (Int × Bool))) => [some (Ref p_self), some (Dat many), some (Dat pieces), some (Dat ties), some (Ref p_here), none, none, none, none, none, none]) (fun (st : (List (Int × Bool))) => [(p_here, (OD (st : (List (Int × Bool))))), (p_ends, (OL (([] : (List Int)) : (List Int)))), (p_rows, (OL (([] : (List (T3 Int (List Int) Int))) : (List (T3 Int (List Int) Int))))), (p_self, (OIns (He.ga K "Board") [("many", (Dat av_1)), ("rows", (Ref p_rows)), ("ends", (Ref p_ends))]))]) (passOwn rfl) rfl (ji_rng1 h_rg rfl t_range (je_anI h_av_2 (je_var 1 rfl))) (.keep (.keep (.keep (.keep (.keep (.drop (.drop (.drop (.drop (.drop (.drop Wk.nil))))))))))) rfl (fun _ => trivial) (fun x st rr hx hf => ⟨_, _, (jg_name 5 nd), ?_⟩) ?_
  · replace hf : m_Board___init___x_b1 st x = some rr := hf
    unfold m_Board___init___x_b1 at hf
    obtain ⟨here_1, h_here_1, hf⟩ := obind hf
    refine js_dput (κ := Int) (A := Bool) 0 (units_of hr) (jx_of je_bl) (fun ρ' T' h => ?_) (fun _ _ z => z.elim)
    obtain ⟨rfl, rfl⟩ := h
    refine ⟨_, _, _, _, _, rfl, (je_var 4 rfl), (je_add (je_var 5 rfl) je_int), rfl, h_here_1, ?_⟩
    show JSs _ _ [some (Ref p_self), some (Dat many), some (Dat pieces), some (Dat ties), some (Ref p_here), some (Dat x), none, none, none, none, none] [(p_here, (OD (here_1 : (List (Int × Bool))))), (p_ends, (OL (([] : (List Int)) : (List Int)))), (p_rows, (OL (([] : (List (T3 Int (List Int) Int))) : (List (T3 Int (List Int) Int))))), (p_self, (OIns (He.ga K "Board") [("many", (Dat av_1)), ("rows", (Ref p_rows)), ("ends", (Ref p_ends))]))] _ _
    cases hf
    exact js_nilE (TEnt.refl _) ⟨(.keep (.keep (.keep (.keep (.keep (.drop (.drop (.drop (.drop (.drop (.drop Wk.nil))))))))))), rfl⟩
  show JSs _ _ [some (Ref p_self), some (Dat many), some (Dat pieces), some (Dat ties), some (Ref p_here), none, none, none, none, none, none] [(p_here, (OD (sn : (List (Int × Bool))))), (p_ends, (OL (([] : (List Int)) : (List Int)))), (p_rows, (OL (([] : (List (T3 Int (List Int) Int))) : (List (T3 Int (List Int) Int))))), (p_self, (OIns (He.ga K "Board") [("many", (Dat av_1)), ("rows", (Ref p_rows)), ("ends", (Ref p_ends))]))] _ _
  obtain ⟨av_3, h_av_3, hm⟩ := obind hm
  refine js_set 6 nd (je_anI h_av_3 (je_var 1 rfl)) ?_
  obtain ⟨cv, hl_1, hm⟩ := obind hm
  refine js_forC Dat (fun _ => True) hl_1 (fun (st_1 : (Int × (List (Int × Bool)) × (List (T3 Int (List Int) Int)))) => [some (Ref p_self), some (Dat many), some (Dat pieces), some (Dat ties), some (Ref p_here), none, some (Dat st_1.1), none, none, none, none]) (fun (st_1 : (Int × (List (Int × Bool)) × (List (T3 Int (List Int) Int)))) => [(p_here, (OD (st_1.2.1 : (List (Int × Bool))))), (p_ends, (OL (([] : (List Int)) : (List Int)))), (p_rows, (OL (st_1.2.2 : (List (T3 Int (List Int) Int))))), (p_self, (OIns (He.ga K "Board") [("many", (Dat av_1)), ("rows", (Ref p_rows)), ("ends", (Ref p_ends))]))]) (passOwn rfl) rfl (ji_list _ (je_var 2 rfl) fun _ _ => rdl_dat) (.keep (.keep (.keep (.keep (.keep (.drop (.keep (.drop (.drop (.drop (.drop Wk.nil))))))))))) rfl (fun _ => trivial) (fun x_1 st_1 rr_1 hx_1 hf_1 hq_1 => ⟨_, _, (jg_tup3 rfl (jgs_cons (jg_name 7 nd) (jgs_cons (jg_name 8 nd) (jgs_cons (jg_name 9 nd) jgs_nil)))), ?_⟩) (fun sn_1 hg => ?_)
  · replace hf_1 : m_Board___init___x_b2 st_1 x_1 = some rr_1 := hf_1
    unfold m_Board___init___x_b2 at hf_1
    obtain ⟨r_is_whole_1, h_r_is_whole_1, hf_1⟩ := obind hf_1
    obtain ⟨tv_1, h_tv_1, hf_1⟩ := obind hf_1
    refine js_ifr (JTW.jt (jw_orO h_tv_1 (jt_not (jt_val (je_callM x_1.a (by exact h_r_is_whole_1) c_is_whole_2 (hr.mono (by decide)) rfl (ja_cons (je_var 7 rfl) ja_nil) perm0 (fun _ _ h => h)))) fun _ hz_1 => by obtain ⟨av_4, h_av_4, hz_1⟩ := obind hz_1; cases hz_1; exact (jw_or1 (jt_not (jt_chain (by exact (je_var 6 rfl)) (by exact (je_anI h_av_4 (je_var 7 rfl))) (by exact (je_gint rfl g_KNOTS)) fun _ _ _ h1 h2 h3 => pt_chain op_lt op_lt h1 h2 h3))))) (fun hc_1 => ?_) (fun hc_1 => ?_)
    · replace hf_1 := oT hc_1 hf_1
      have hz := hq_1 _ (Option.some.inj hf_1).symm
      subst hz
      replace hm : some (Rz.ex Xc.NoBoard ()) = some _ := hm
      cases hm
      exact js_last (js_raise x_NoBoard rfl rfl (L2N.takes_of rfl rfl rfl rfl) (TEnt.nil _) ⟨_, _, rfl, rfl, rfl⟩)
    replace hf_1 := oF hc_1 hf_1
    rcases xbind_of hf_1 with ⟨cx, cy, h_r_check_cut, hf_1⟩ | ⟨r_check_cut, h_r_check_cut, hf_1⟩
    · refine js_exprK (jx_exE (jz_call (x_1.b, p_here, st_1.2.1) (by exact h_r_check_cut) c_check_cut_3 (L2N.takes_of rfl rfl rfl rfl) (hr.mono (by decide)) rfl (ja_cons (je_var 8 rfl) (ja_cons (je_var 4 rfl) ja_nil)) (perm1 0 rfl)) ?_) (fun _ _ h => h.elim) (fun _ _ h => h)
      rintro _ _ ⟨rfl, rfl⟩
      have hz := hq_1 _ (Option.some.inj hf_1).symm
      subst hz
      replace hm : some (Rz.ex cx ()) = some _ := hm
      cases hm
      exact ⟨_, (TEnt.nil _), ⟨_, _, rfl, rfl, rfl⟩⟩
    refine js_step (js_expr (je_callM (x_1.b, p_here, st_1.2.1) (by exact (okO_of h_r_check_cut)) (cal_ok c_check_cut_3) (hr.mono (by decide)) rfl (ja_cons (je_var 8 rfl) (ja_cons (je_var 4 rfl) ja_nil)) (perm1 0 rfl) (fun _ _ h => h)) ⟨rfl, rfl⟩) ?_
    obtain ⟨r_is_whole_2, h_r_is_whole_2, hf_1⟩ := obind hf_1
    obtain ⟨tv_2, h_tv_2, hf_1⟩ := obind hf_1
    refine js_ifr (JTW.jt (jw_orO h_tv_2 (jt_not (jt_val (je_callM x_1.c (by exact h_r_is_whole_2) c_is_whole_2 (hr.mono (by decide)) rfl (ja_cons (je_var 9 rfl) ja_nil) perm0 (fun _ _ h => h)))) fun _ hz_2 => by obtain ⟨r_every_lighting, h_r_every_lighting, hz_2⟩ := obind hz_2; obtain ⟨av_5, h_av_5, hz_2⟩ := obind hz_2; cases hz_2; exact (jw_or1 (jt_not (jt_chain (by exact je_int) (by exact (je_anI h_av_5 (je_var 9 rfl))) (by exact (je_callM (x_1.b.length : Int) (by exact h_r_every_lighting) c_every_lighting (hr.mono (by decide)) rfl (ja_cons (je_lenL rfl t_len (je_var 8 rfl) rdl_dat) ja_nil) perm0 (fun _ _ h => h))) fun _ _ _ h1 h2 h3 => pt_chain op_le op_le h1 h2 h3))))) (fun hc_2 => ?_) (fun hc_2 => ?_)
    · replace hf_1 := oT hc_2 hf_1
      have hz := hq_1 _ (Option.some.inj hf_1).symm
      subst hz
      replace hm : some (Rz.ex Xc.NoBoard ()) = some _ := hm
      cases hm
      exact js_last (js_raise x_NoBoard rfl rfl (L2N.takes_of rfl rfl rfl rfl) (TEnt.nil _) ⟨_, _, rfl, rfl, rfl⟩)
    replace hf_1 := oF hc_2 hf_1
    obtain ⟨av_6, h_av_6, hf_1⟩ := obind hf_1
    obtain ⟨un, h_un, hf_1⟩ := obind hf_1
    obtain ⟨av_7, h_av_7, hf_1⟩ := obind hf_1
    obtain ⟨rows_1, h_rows_1, hf_1⟩ := obind hf_1
    refine js_app (B := (T3 Int (List Int) Int)) 2 rfl (je_fld 3 (je_var 0 rfl) rfl k_Board n_Board_rows rfl) ?_ h_rows_1 ?_
    · exact (je_tup3 (je_anI h_av_6 (je_var 7 rfl)) (je_unAL h_un (je_jf (jf_listOf rfl t_list (je_var 8 rfl) rdl_dat))) (je_anI h_av_7 (je_var 9 rfl)))
    obtain ⟨av_8, h_av_8, hf_1⟩ := obind hf_1
    obtain ⟨here_2, h_here_2, hf_1⟩ := obind hf_1
    refine js_dput (κ := Int) (A := Bool) 0 (units_of hr) (jx_of je_bl) (fun ρ' T' h => ?_) (fun _ _ z => z.elim)
    obtain ⟨rfl, rfl⟩ := h
    refine ⟨_, _, _, _, _, rfl, (je_var 4 rfl), (je_anI h_av_8 (je_var 7 rfl)), rfl, h_here_2, ?_⟩
    show JSs _ _ [some (Ref p_self), some (Dat many), some (Dat pieces), some (Dat ties), some (Ref p_here), none, some (Dat st_1.1), some (Dat x_1.a), some (Dat x_1.b), some (Dat x_1.c), none] [(p_here, (OD (here_2 : (List (Int × Bool))))), (p_ends, (OL (([] : (List Int)) : (List Int)))), (p_rows, (OL (rows_1 : (List (T3 Int (List Int) Int))))), (p_self, (OIns (He.ga K "Board") [("many", (Dat av_1)), ("rows", (Ref p_rows)), ("ends", (Ref p_ends))]))] _ _
    obtain ⟨av_9, h_av_9, hf_1⟩ := obind hf_1
    refine js_set 6 nd (je_anI h_av_9 (je_var 7 rfl)) ?_
    cases hf_1
    exact js_nilE (TEnt.refl _) ⟨_, rfl, (.keep (.keep (.keep (.keep (.keep (.drop (.keep (.drop (.drop (.drop (.drop Wk.nil))))))))))), rfl⟩
  subst hg
  replace hm := el_go hm
  show JSs _ _ [some (Ref p_self), some (Dat many), some (Dat pieces), some (Dat ties), some (Ref p_here), none, some (Dat sn_1.1), none, none, none, none] [(p_here, (OD (sn_1.2.1 : (List (Int × Bool))))), (p_ends, (OL (([] : (List Int)) : (List Int)))), (p_rows, (OL (sn_1.2.2 : (List (T3 Int (List Int) Int))))), (p_self, (OIns (He.ga K "Board") [("many", (Dat av_1)), ("rows", (Ref p_rows)), ("ends", (Ref p_ends))]))] _ _
  obtain ⟨cv_1, hl_2, hm⟩ := obind hm
  refine js_forC Dat (fun _ => True) hl_2 (fun (st_2 : (List Int)) => [some (Ref p_self), some (Dat many), some (Dat pieces), some (Dat ties), some (Ref p_here), none, some (Dat sn_1.1), none, none, none, none]) (fun (st_2 : (List Int)) => [(p_here, (OD (sn_1.2.1 : (List (Int × Bool))))), (p_ends, (OL (st_2 : (List Int)))), (p_rows, (OL (sn_1.2.2 : (List (T3 Int (List Int) Int))))), (p_self, (OIns (He.ga K "Board") [("many", (Dat av_1)), ("rows", (Ref p_rows)), ("ends", (Ref p_ends))]))]) (passOwn rfl) rfl (ji_list _ (je_var 3 rfl) fun _ _ => rdl_dat) (.keep (.keep (.keep (.keep (.keep (.drop (.keep (.drop (.drop (.drop (.drop Wk.nil))))))))))) rfl (fun _ => trivial) (fun x_2 st_2 rr_2 hx_2 hf_2 hq_2 => ⟨_, _, (jg_name 10 nd), ?_⟩) (fun sn_2 hg => ?_)
  · replace hf_2 : (m_Board___init___x_b3 sn_1) st_2 x_2 = some rr_2 := hf_2
    unfold m_Board___init___x_b3 at hf_2
    obtain ⟨r_is_whole_3, h_r_is_whole_3, hf_2⟩ := obind hf_2
    obtain ⟨tv_4, h_tv_4, hf_2⟩ := obind hf_2
    refine js_ifr (JTW.jt (jw_orO h_tv_4 (jt_not (jt_val (je_callM x_2 (by exact h_r_is_whole_3) c_is_whole_2 (hr.mono (by decide)) rfl (ja_cons (je_var 10 rfl) ja_nil) perm0 (fun _ _ h => h)))) fun _ hz_4 => by obtain ⟨av_10, h_av_10, hz_4⟩ := obind hz_4; obtain ⟨tv_3, h_tv_3, hz_4⟩ := obind hz_4; cases hz_4; exact (jw_or1 (JTW.jt (jw_andO h_tv_3 (jt_c (jc_neS (je_shr (je_anI h_av_10 (je_var 10 rfl)) je_int (by decide)) je_int)) fun _ hz_3 => by obtain ⟨av_11, h_av_11, hz_3⟩ := obind hz_3; cases hz_3; exact (jw_and1 (jt_c (jc_dniZ (dat_own 0 rfl) (units_of hr) (je_shr (je_anI h_av_11 (je_var 10 rfl)) je_int (by decide)) (je_var 4 rfl))))))))) (fun hc_3 => ?_) (fun hc_3 => ?_)
    · replace hf_2 := oT hc_3 hf_2
      have hz := hq_2 _ (Option.some.inj hf_2).symm
      subst hz
      replace hm : some (Rz.ex Xc.NoBoard ()) = some _ := hm
      cases hm
      exact js_last (js_raise x_NoBoard rfl rfl (L2N.takes_of rfl rfl rfl rfl) (TEnt.nil _) ⟨_, _, rfl, rfl, rfl⟩)
    replace hf_2 := oF hc_3 hf_2
    obtain ⟨av_12, h_av_12, hf_2⟩ := obind hf_2
    obtain ⟨ends_1, h_ends_1, hf_2⟩ := obind hf_2
    refine js_app (B := Int) 1 rfl (je_fld 3 (je_var 0 rfl) rfl k_Board n_Board_ends rfl) ?_ h_ends_1 ?_
    · exact (je_anI h_av_12 (je_var 10 rfl))
    cases hf_2
    exact js_nilE (TEnt.refl _) ⟨_, rfl, (.keep (.keep (.keep (.keep (.keep (.drop (.keep (.drop (.drop (.drop (.drop Wk.nil))))))))))), rfl⟩
  subst hg
  replace hm := el_go hm
  show JSs _ _ [some (Ref p_self), some (Dat many), some (Dat pieces), some (Dat ties), some (Ref p_here), none, some (Dat sn_1.1), none, none, none, none] [(p_here, (OD (sn_1.2.1 : (List (Int × Bool))))), (p_ends, (OL (sn_2 : (List Int)))), (p_rows, (OL (sn_1.2.2 : (List (T3 Int (List Int) Int))))), (p_self, (OIns (He.ga K "Board") [("many", (Dat av_1)), ("rows", (Ref p_rows)), ("ends", (Ref p_ends))]))] _ _
  refine js_ifr (jt_c (jc_eqD (units_of hr) (je_fld 3 (je_var 0 rfl) rfl k_Board n_Board_ends rfl) (dpv_own 1 rfl) (je_listF (xs := ([] : (List Int))) ja_nil (by decide)) dpv_dat)) (fun hc_4 => ?_) (fun hc_4 => ?_)
  · replace hm := oT hc_4 hm
    cases hm
    exact js_last (js_raise x_NoBoard rfl rfl (L2N.takes_of rfl rfl rfl rfl) (TEnt.nil _) ⟨_, _, rfl, rfl, rfl⟩)
  replace hm := oF hc_4 hm
  cases hm
  exact js_nilE (TEnt.trans (TEnt.pick 3 rfl (TEnt.pick 2 rfl (TEnt.pick 1 rfl (TEnt.refl _)))) (TEnt.trans (TEnt.close (C := He.ga K "Board") (fs := [("many", .v (Dat av_1)), ("rows", .o (OL (sn_1.2.2 : (List (T3 Int (List Int) Int))))), ("ends", .o (OL (sn_2 : (List Int))))]) (qs := [p_rows, p_ends]) rfl) (TEnt.pick 0 rfl (TEnt.nil _)))) ⟨_, rfl, ⟨rfl, rfl⟩⟩
abbrev s_Board_pieces : Stmt := inClass (top 21) 1
def m_Board_pieces (self : S_Board) : Option (List (T3 Int (List Int) Int)) :=
  ((mapB (fun (x : (T3 Int (List Int) Int)) => some (T3.mk x.a x.b x.c)) self.rows).bind fun lc => some lc)
abbrev N_Board_pieces : List Str := ["self", "knot", "cut", "told"]
theorem sc_Board_pieces : FnScope N_Board_pieces ["self"] (defScope s_Board_pieces) := ⟨rfl, rfl, rfl, by decide +kernel, rfl, by decide +kernel, by decide +kernel⟩
abbrev sp_Board_pieces (K : PySem.W.Frag) : Sp := (mSpec (fun a : (Addr × S_Board) => [Ref a.1]) (fun a => [(a.1, (O_Board K a.2))]) (fun a => m_Board_pieces a.2) (fun a r ρ T => ∃ (q0 : Addr), ρ = Ref q0 ∧ T = [(q0, (OP (r : (List (T3 Int (List Int) Int))))), (a.1, (O_Board K a.2))])).sp
theorem ok_Board_pieces {P : Program} {w : World} {K : PySem.W.Frag} {mg : Str → Option Value} {base : Heap} {f : Addr} {fd : FuncData} (F : FnD K "pieces" "Board.pieces" s_Board_pieces f fd) (t_list : mg "list" = none) (k_Board : Cls K (He.ga K "Board")) (n_Board_rows : NoAttr K (He.ga K "Board") "rows") : FnOk P w K mg base (L2N.CX P w) 1 f fd ["self"] (sp_Board_pieces K) := by
  have nd := sc_Board_pieces.nd
  refine fnM (N := N_Board_pieces) _ _ _ _ F sc_Board_pieces (fun _ => rfl) fun cdv Ar outer s H E hr a r hm => ?_
  obtain ⟨p_self, self⟩ := a
  replace hm : m_Board_pieces self = some r := hm
  unfold m_Board_pieces at hm
  show JSs _ _ [some (Ref p_self), none, none, none] [(p_self, (O_Board K self))] _ _
  refine js_open 0 rfl fun qs hqs => ?_
  obtain ⟨p_self_rows, p_self_ends, rfl⟩ := len2 hqs
  show JSs _ _ [some (Ref p_self), none, none, none] [(p_self, (OIns (He.ga K "Board") [("many", (Dat self.many)), ("rows", (Ref p_self_rows)), ("ends", (Ref p_self_ends))])), (p_self_rows, (OL (self.rows : (List (T3 Int (List Int) Int))))), (p_self_ends, (OL (self.ends : (List Int))))] _ _
  obtain ⟨lc, h_lc, hm⟩ := obind hm
  cases hm
  refine js_last (js_retK (xr := nox) (jx_lcP (A := (T3 Int (List Int) Int)) [("knot", 1), ("cut", 2), ("told", 3)] h_lc (fun T' => T'[1]? = some (p_self_rows, (OL (self.rows : (List (T3 Int (List Int) Int)))))) rfl nd (blkOk_by (own := [("knot", 1), ("cut", 2), ("told", 3)]) (N := N_Board_pieces) (sc := defScope s_Board_pieces) (by decide +kernel)) (ji_list _ (je_fld 0 (je_var 0 rfl) rfl k_Board n_Board_rows rfl) fun T' h => rdl_own 1 (by rcases h with rfl | h; exact rfl; exact h)) rfl (fun x _ _ hx => by cases hx; exact ⟨_, _, (by decide), fun _ _ _ _ _ => (jg_tup3 rfl (jgs_cons (jg_name 1 nd) (jgs_cons (jg_name 2 nd) (jgs_cons (jg_name 3 nd) jgs_nil)))), fun _ _ _ _ _ => (jp_tup3b (je_var 1 rfl) (jf_listOf rfl t_list (je_var 2 rfl) rdl_dat) (fun _ => (je_var 3 rfl)))⟩)) (fun ρ' T' h => ?_) (fun _ _ z => z.elim))
  obtain ⟨p_new, rfl, rfl⟩ := h
  exact ⟨_, (TEnt.pick 0 rfl (TEnt.trans (TEnt.pick 0 rfl (TEnt.pick 0 rfl (TEnt.pick 0 rfl (TEnt.refl _)))) (TEnt.trans (TEnt.close (C := He.ga K "Board") (fs := [("many", .v (Dat self.many)), ("rows", .o (OL (self.rows : (List (T3 Int (List Int) Int))))), ("ends", .o (OL (self.ends : (List Int))))]) (qs := [p_self_rows, p_self_ends]) rfl) (TEnt.refl _)))), ⟨_, rfl, rfl⟩⟩
abbrev s_Board_ties : Stmt := inClass (top 21) 2
def m_Board_ties (self : S_Board) : Option (List Int) :=
  some self.ends
abbrev N_Board_ties : List Str := ["self"]
theorem sc_Board_ties : FnScope N_Board_ties ["self"] (defScope s_Board_ties) := ⟨rfl, rfl, rfl, by decide +kernel, rfl, by decide +kernel, by decide +kernel⟩
abbrev sp_Board_ties (K : PySem.W.Frag) : Sp := (mSpec (fun a : (Addr × S_Board) => [Ref a.1]) (fun a => [(a.1, (O_Board K a.2))]) (fun a => m_Board_ties a.2) (fun a r ρ T => ∃ (q0 : Addr), ρ = Ref q0 ∧ T = [(q0, (OL (r : (List Int)))), (a.1, (O_Board K a.2))])).sp
theorem ok_Board_ties {P : Program} {w : World} {K : PySem.W.Frag} {mg : Str → Option Value} {base : Heap} {f : Addr} {fd : FuncData} (F : FnD K "ties" "Board.ties" s_Board_ties f fd) (t_list : mg "list" = none) (k_Board : Cls K (He.ga K "Board")) (n_Board_ends : NoAttr K (He.ga K "Board") "ends") : FnOk P w K mg base (L2N.CX P w) 1 f fd ["self"] (sp_Board_ties K) := by
  have nd := sc_Board_ties.nd
  refine fnM (N := N_Board_ties) _ _ _ _ F sc_Board_ties (fun _ => rfl) fun cdv Ar outer s H E hr a r hm => ?_
  obtain ⟨p_self, self⟩ := a
  replace hm : m_Board_ties self = some r := hm
  unfold m_Board_ties at hm
  show JSs _ _ [some (Ref p_self)] [(p_self, (O_Board K self))] _ _
  refine js_open 0 rfl fun qs hqs => ?_
  obtain ⟨p_self_rows, p_self_ends, rfl⟩ := len2 hqs
  show JSs _ _ [some (Ref p_self)] [(p_self, (OIns (He.ga K "Board") [("many", (Dat self.many)), ("rows", (Ref p_self_rows)), ("ends", (Ref p_self_ends))])), (p_self_rows, (OL (self.rows : (List (T3 Int (List Int) Int))))), (p_self_ends, (OL (self.ends : (List Int))))] _ _
  cases hm
  refine js_last (js_retK (xr := nox) (jf_listOf rfl t_list (je_fld 0 (je_var 0 rfl) rfl k_Board n_Board_ends rfl) (rdl_own 2 rfl)) (fun ρ' T' h => ?_) (fun _ _ z => z.elim))
  obtain ⟨p_new, rfl, rfl⟩ := h
  exact ⟨_, (TEnt.pick 0 rfl (TEnt.trans (TEnt.pick 0 rfl (TEnt.pick 0 rfl (TEnt.pick 0 rfl (TEnt.refl _)))) (TEnt.trans (TEnt.close (C := He.ga K "Board") (fs := [("many", .v (Dat self.many)), ("rows", .o (OL (self.rows : (List (T3 Int (List Int) Int))))), ("ends", .o (OL (self.ends : (List Int))))]) (qs := [p_self_rows, p_self_ends]) rfl) (TEnt.refl _)))), ⟨_, rfl, rfl⟩⟩
abbrev s_l_whole : Stmt := top 29
def m_l_whole (found : Int) : Option Bool :=
  some (true && (!false))
abbrev N_l_whole : List Str := ["_law_found"]
theorem sc_l_whole : FnScope N_l_whole ["_law_found"] (defScope s_l_whole) := ⟨rfl, rfl, rfl, by decide +kernel, rfl, by decide +kernel, by decide +kernel⟩
abbrev sp_l_whole (K : PySem.W.Frag) : Sp := (mSpec (fun a : Int => [Dat a]) (fun a => []) (fun a => m_l_whole a) (fun a r ρ T => ρ = Dat r ∧ T = [])).sp
theorem ok_l_whole {P : Program} {w : World} {K : PySem.W.Frag} {mg : Str → Option Value} {base : Heap} {f : Addr} {fd : FuncData} (F : FnD K "_law_whole" "_law_whole" s_l_whole f fd) (t_bool : mg "bool" = none) (t_int : mg "int" = none) (t_isinstance : mg "isinstance" = none) : FnOk P w K mg base (L2N.CX P w) 1 f fd ["_law_found"] (sp_l_whole K) := by
  have nd := sc_l_whole.nd
  refine fnM (N := N_l_whole) _ _ _ _ F sc_l_whole (fun _ => rfl) fun cdv Ar outer s H E hr a r hm => ?_
  revert hm; revert a; intro found hm
  replace hm : m_l_whole found = some r := hm
  unfold m_l_whole at hm
  show JSs _ _ [some (Dat found)] [] _ _
  cases hm
  exact js_last (js_retE (je_andV (je_isi (bb := true) rfl t_isinstance (je_var 0 rfl) (pe_ty (ty := "int") rfl t_int (by decide +kernel)) (by decide +kernel) ty_int) fun _ => (je_and1 (je_not (je_isi (bb := false) rfl t_isinstance (je_var 0 rfl) (pe_ty (ty := "bool") rfl t_bool (by decide +kernel)) (by decide +kernel) ty_int)))) (TEnt.refl _) ⟨rfl, rfl⟩)
abbrev s_l_told : Stmt := top 30
def m_l_told_b1  (st : Unit) (x : (T3 Int (List Int) Int)) : Option (Ctl Unit Bool) :=
  if ((!true) || (!true)) = true then (some (.ret false)) else ((extO ([x.a, x.c] : (List Int)) x.b).bind fun ct => (mapB (fun (x_1 : Int) => ((m_l_whole x_1).bind fun r_whole_1 => some r_whole_1)) ct).bind fun lc => if (!(lc.all id)) = true then (some (.ret false)) else some (.go ()))
def m_l_told_b2  (st_1 : (List (T3 Int (List Int) Int))) (x_3 : (T3 Int (List Int) Int)) : Option (List (T3 Int (List Int) Int)) :=
  ((appO x_3.b (1 : Int)).bind fun it_ => some (st_1 ++ [(T3.mk x_3.a it_ x_3.c)]))
def m_l_told (board : S_Board) (many : Int) (pieces_here : (List (T3 Int (List Int) Int))) (ties_here : (List Int)) : Option Bool :=
  ((m_Board_pieces board).bind fun r_pieces => ((m_Board_ties board).bind fun r_ties => ((m_l_whole board.many).bind fun r_whole => if ((!r_whole) || ((!decide (board.many = many)) || ((!true) || (!decide (r_pieces = pieces_here))))) = true then (some false) else ((foldC m_l_told_b1 () r_pieces).bind fun cv => cv.el (fun sn => (((if (!true) = true then some true else (((if (!decide (r_ties = ties_here)) = true then some true else ((mapB (fun (x_2 : Int) => ((m_l_whole x_2).bind fun r_whole_2 => some r_whole_2)) r_ties).bind fun lc_1 => some (!(lc_1.all id))))).bind fun tv => some tv))).bind fun tv_1 => if tv_1 = true then (some false) else ((foldO m_l_told_b2 ([] : (List (T3 Int (List Int) Int))) r_pieces).bind fun sn_1 => ((appO r_ties (0 : Int)).bind fun ends_1 => some true)))) (fun q__ => some q__)))))
abbrev N_l_told : List Str := ["_law_board", "_law_many", "_law_pieces_here", "_law_ties_here", "_law_found", "_law_ends", "_law_piece_here", "_law_number", "_law_tie"]
theorem sc_l_told : FnScope N_l_told ["_law_board", "_law_many", "_law_pieces_here", "_law_ties_here"] (defScope s_l_told) := ⟨rfl, rfl, rfl, by decide +kernel, rfl, by decide +kernel, by decide +kernel⟩
abbrev sp_l_told (K : PySem.W.Frag) : Sp := (mSpec (fun a : (Addr × S_Board × Int × (List (T3 Int (List Int) Int)) × (List Int)) => [Ref a.1, Dat a.2.2.1, Dat a.2.2.2.1, Dat a.2.2.2.2]) (fun a => [(a.1, (O_Board K a.2.1))]) (fun a => m_l_told a.2.1 a.2.2.1 a.2.2.2.1 a.2.2.2.2) (fun a r ρ T => ρ = Dat r ∧ T = [(a.1, (O_Board K a.2.1))])).sp
theorem ok_l_told {P : Program} {w : World} {K : PySem.W.Frag} {mg : Str → Option Value} {base : Heap} {f : Addr} {fd : FuncData} (F : FnD K "_law_told" "_law_told" s_l_told f fd) (t_all : mg "all" = none) (t_isinstance : mg "isinstance" = none) (t_list : mg "list" = none) (t_tuple : mg "tuple" = none) (k_Board : Cls K (He.ga K "Board")) (n_Board_many : NoAttr K (He.ga K "Board") "many") (c_Board_pieces : CalM P w K mg base 1 (He.ga K "Board") "pieces" ["self"] (sp_Board_pieces K)) (c_Board_ties : CalM P w K mg base 1 (He.ga K "Board") "ties" ["self"] (sp_Board_ties K)) (c_l_whole : Cal P w K mg base 1 "_law_whole" ["_law_found"] (sp_l_whole K)) : FnOk P w K mg base (L2N.CX P w) 2 f fd ["_law_board", "_law_many", "_law_pieces_here", "_law_ties_here"] (sp_l_told K) := by
  have nd := sc_l_told.nd
  refine fnM (N := N_l_told) _ _ _ _ F sc_l_told (fun _ => rfl) fun cdv Ar outer s H E hr a r hm => ?_
  obtain ⟨p_board, board, many, pieces_here, ties_here⟩ := a
  replace hm : m_l_told board many pieces_here ties_here = some r := hm
  unfold m_l_told at hm
  show JSs _ _ [some (Ref p_board), some (Dat many), some (Dat pieces_here), some (Dat ties_here), none, none, none, none, none] [(p_board, (O_Board K board))] _ _
  obtain ⟨r_pieces, h_r_pieces, hm⟩ := obind hm
  refine js_setK 4 nd (jx_meth0 (p_board, board) (by exact h_r_pieces) c_Board_pieces (hr.mono (by decide)) (je_var 0 rfl) (insAt_obj 0 rfl (ns := ["many", "rows", "ends"]) rfl (by decide +kernel)) rfl (perm1 0 rfl)) (fun ρ' T' h => ?_) (fun _ _ z => z.elim)
  obtain ⟨_, ⟨p_told_n, rfl, rfl⟩, rfl⟩ := h
  show JSs _ _ [some (Ref p_board), some (Dat many), some (Dat pieces_here), some (Dat ties_here), some (Ref p_told_n), none, none, none, none] [(p_told_n, (OP (r_pieces : (List (T3 Int (List Int) Int))))), (p_board, (O_Board K board))] _ _
  obtain ⟨r_ties, h_r_ties, hm⟩ := obind hm
  refine js_setK (xr := nox) 5 nd (jf_of (jx_meth0 (p_board, board) (by exact h_r_ties) c_Board_ties (hr.mono (by decide)) (je_var 0 rfl) (insAt_obj 1 rfl (ns := ["many", "rows", "ends"]) rfl (by decide +kernel)) rfl (perm1 1 rfl)) (fun ρ' T' h => by obtain ⟨_, ⟨p_fr, rfl, rfl⟩, rfl⟩ := h; exact ⟨_, rfl, (TEnt.pick 0 rfl (TEnt.pick 1 rfl (TEnt.refl _)))⟩)) (fun ρ' T' h => ?_) (fun _ _ z => z.elim)
  obtain ⟨p_ends, rfl, rfl⟩ := h
  show JSs _ _ [some (Ref p_board), some (Dat many), some (Dat pieces_here), some (Dat ties_here), some (Ref p_told_n), some (Ref p_ends), none, none, none] [(p_ends, (OL (r_ties : (List Int)))), (p_told_n, (OP (r_pieces : (List (T3 Int (List Int) Int))))), (p_board, (O_Board K board))] _ _
  obtain ⟨r_whole, h_r_whole, hm⟩ := obind hm
  refine js_ifr (JTW.jt (jw_or (jt_not (jt_val (je_callM board.many (by exact h_r_whole) c_l_whole (hr.mono (by decide)) rfl (ja_cons (je_fldO 2 (je_var 0 rfl) rfl k_Board n_Board_many rfl) ja_nil) perm0 (fun _ _ h => h)))) fun _ => (jw_or (jt_c (jc_neS (je_fldO 2 (je_var 0 rfl) rfl k_Board n_Board_many rfl) (je_var 1 rfl))) fun _ => (jw_or (jt_not (jt_val (je_isiP (bb := true) (ty := "list") 1 rfl t_isinstance rfl (fun _ => (je_var 4 rfl)) (pe_ty (ty := "list") rfl t_list (by decide +kernel)) (by decide +kernel)))) fun _ => (jw_or1 (jt_c (jc_neD (units_of hr) (je_var 4 rfl) (dpv_deep 1 rfl) (je_var 2 rfl) dpv_dat))))))) (fun hc => ?_) (fun hc => ?_)
  · replace hm := oT hc hm
    cases hm
    exact js_last (js_retE je_bl (TEnt.pick 2 rfl (TEnt.nil _)) ⟨rfl, rfl⟩)
  replace hm := oF hc hm
  obtain ⟨cv, hl_1, hm⟩ := obind hm
  refine js_forPC 1 rfl hl_1 (fun (st : Unit) => [some (Ref p_board), some (Dat many), some (Dat pieces_here), some (Dat ties_here), some (Ref p_told_n), some (Ref p_ends), none, none, none]) (fun (st : Unit) => [(p_ends, (OL (r_ties : (List Int)))), (p_told_n, (OP (r_pieces : (List (T3 Int (List Int) Int))))), (p_board, (O_Board K board))]) (passOwn rfl) rfl (fun _ => (je_var 4 rfl)) (.keep (.keep (.keep (.keep (.keep (.keep (.drop (.drop (.drop Wk.nil))))))))) rfl (fun _ => rfl) (fun p_it Sh Bh ih x st rr hxh hh hf hq => ⟨_, _, (jg_name 6 nd), ?_⟩) (fun sn hg => ?_)
  · replace hf : m_l_told_b1 st x = some rr := hf
    unfold m_l_told_b1 at hf
    show JSs _ _ [some (Ref p_board), some (Dat many), some (Dat pieces_here), some (Dat ties_here), some (Ref p_told_n), some (Ref p_ends), some (TupV [(Dat x.a), (Ref p_it), (Dat x.c)]), none, none] [(p_it, (OL (x.b : (List Int)))), (p_ends, (OL (r_ties : (List Int)))), (p_told_n, (OH Sh Bh)), (p_board, (O_Board K board))] _ _
    refine js_ifr (JTW.jt (jw_or (jt_not (jt_val (je_isi (bb := true) rfl t_isinstance (je_var 6 rfl) (pe_ty (ty := "tuple") rfl t_tuple (by decide +kernel)) (by decide +kernel) ty_tupV))) fun _ => (jw_or1 (jt_not (jt_val (je_isi (bb := true) rfl t_isinstance (je_ixV (i := 1) (je_var 6 rfl) je_int rfl) (pe_ty (ty := "list") rfl t_list (by decide +kernel)) (by decide +kernel) (ty_lst (rdm_own 0 rfl)))))))) (fun hc_1 => ?_) (fun hc_1 => ?_)
    · replace hf := oT hc_1 hf
      have hz := hq _ (Option.some.inj hf).symm
      subst hz
      replace hm : some false = some _ := hm
      cases hm
      exact js_last (js_retE je_bl (TEnt.pick 3 rfl (TEnt.nil _)) ⟨rfl, rfl⟩)
    replace hf := oF hc_1 hf
    obtain ⟨ct, h_ct, hf⟩ := obind hf
    obtain ⟨lc, h_lc, hf⟩ := obind hf
    refine js_ifr (jt_not (jt_val (je_all rfl rfl t_all (je_lcM [("_law_number", 7)] h_lc (fun _ => True) rfl nd (blkOk_by (own := [("_law_number", 7)]) (N := N_l_told) (sc := defScope s_l_told) (by decide +kernel)) (ji_list _ (je_jf (jf_cat h_ct (je_listF (xs := [x.a, x.c]) (ja_cons (je_ixV (i := 0) (je_var 6 rfl) je_int rfl) (ja_cons (je_ixV (i := 2) (je_var 6 rfl) je_int rfl) ja_nil)) (by show 2 ≤ sizeLine; decide)) rdm_dat (je_ixV (i := 1) (je_var 6 rfl) je_int rfl) (rdm_own 0 rfl))) fun _ _ => rdl_dat) trivial (fun x_1 _ _ hx => by obtain ⟨r_whole_1, h_r_whole_1, hx⟩ := obind hx; cases hx; exact ⟨_, _, (by decide), fun _ _ _ _ _ => (jg_name 7 nd), fun _ _ _ _ _ => (je_callM x_1 (by exact h_r_whole_1) c_l_whole (hr.mono (by decide)) rfl (ja_cons (je_var 7 rfl) ja_nil) perm0 (fun _ _ h => h))⟩)) rdl_dat))) (fun hc_2 => ?_) (fun hc_2 => ?_)
    · replace hf := oT hc_2 hf
      have hz := hq _ (Option.some.inj hf).symm
      subst hz
      replace hm : some false = some _ := hm
      cases hm
      exact js_last (js_retE je_bl (TEnt.pick 3 rfl (TEnt.nil _)) ⟨rfl, rfl⟩)
    replace hf := oF hc_2 hf
    cases hf
    exact js_nilE (TEnt.refl _) ⟨_, rfl, (.keep (.keep (.keep (.keep (.keep (.keep (.drop (.drop (.drop Wk.nil))))))))), rfl⟩
  subst hg
  replace hm := el_go hm
  show JSs _ _ [some (Ref p_board), some (Dat many), some (Dat pieces_here), some (Dat ties_here), some (Ref p_told_n), some (Ref p_ends), none, none, none] [(p_ends, (OL (r_ties : (List Int)))), (p_told_n, (OP (r_pieces : (List (T3 Int (List Int) Int))))), (p_board, (O_Board K board))] _ _
  obtain ⟨tv_1, h_tv_1, hm⟩ := obind hm
  refine js_ifr (JTW.jt (jw_orO h_tv_1 (jt_not (jt_val (je_isi (bb := true) rfl t_isinstance (je_var 5 rfl) (pe_ty (ty := "list") rfl t_list (by decide +kernel)) (by decide +kernel) (ty_lst (rdm_own 0 rfl))))) fun _ hz_1 => by obtain ⟨tv, h_tv, hz_1⟩ := obind hz_1; cases hz_1; exact (jw_orO h_tv (jt_c (jc_neD (units_of hr) (je_var 5 rfl) (dpv_own 0 rfl) (je_var 3 rfl) dpv_dat)) fun _ hz => by obtain ⟨lc_1, h_lc_1, hz⟩ := obind hz; cases hz; exact (jw_or1 (jt_not (jt_val (je_all rfl rfl t_all (je_lcM [("_law_tie", 8)] h_lc_1 (fun T' => T'[0]? = some (p_ends, (OL (r_ties : (List Int))))) rfl nd (blkOk_by (own := [("_law_tie", 8)]) (N := N_l_told) (sc := defScope s_l_told) (by decide +kernel)) (ji_list _ (je_var 5 rfl) fun T' h => rdl_own 0 (by rcases h with rfl | h; exact rfl; exact h)) rfl (fun x_2 _ _ hx_1 => by obtain ⟨r_whole_2, h_r_whole_2, hx_1⟩ := obind hx_1; cases hx_1; exact ⟨_, _, (by decide), fun _ _ _ _ _ => (jg_name 8 nd), fun _ _ _ _ _ => (je_callM x_2 (by exact h_r_whole_2) c_l_whole (hr.mono (by decide)) rfl (ja_cons (je_var 8 rfl) ja_nil) perm0 (fun _ _ h => h))⟩)) rdl_dat))))))) (fun hc_3 => ?_) (fun hc_3 => ?_)
  · replace hm := oT hc_3 hm
    cases hm
    exact js_last (js_retE je_bl (TEnt.pick 2 rfl (TEnt.nil _)) ⟨rfl, rfl⟩)
  replace hm := oF hc_3 hm
  obtain ⟨sn_1, hl, hm⟩ := obind hm
  refine js_forPX (fun (st_1 : (List (T3 Int (List Int) Int))) => st_1) 1 rfl hl (fun (st_1 : (List (T3 Int (List Int) Int))) => [some (Ref p_board), some (Dat many), some (Dat pieces_here), some (Dat ties_here), some (Ref p_told_n), some (Ref p_ends), none, none, none]) (fun (st_1 : (List (T3 Int (List Int) Int))) => [(p_ends, (OL (r_ties : (List Int)))), (p_told_n, (OP (r_pieces : (List (T3 Int (List Int) Int))))), (p_board, (O_Board K board))]) (passOwn rfl) rfl (fun _ => (je_var 4 rfl)) (.keep (.keep (.keep (.keep (.keep (.keep (.drop (.drop (.drop Wk.nil))))))))) rfl rfl (fun _ => by show 1 < 3; decide) (fun p_it_1 Sh_1 Bh_1 ih_1 x_3 st_1 rr_1 ⟨_, hh_1, hxh_1⟩ hf_1 => ⟨_, _, (jg_name 6 nd), ?_⟩) ?_
  · replace hf_1 : m_l_told_b2 st_1 x_3 = some rr_1 := hf_1
    unfold m_l_told_b2 at hf_1
    show JSs _ _ [some (Ref p_board), some (Dat many), some (Dat pieces_here), some (Dat ties_here), some (Ref p_told_n), some (Ref p_ends), some (TupV [(Dat x_3.a), (Ref p_it_1), (Dat x_3.c)]), none, none] [(p_it_1, (OL (x_3.b : (List Int)))), (p_ends, (OL (r_ties : (List Int)))), (p_told_n, (OH Sh_1 Bh_1)), (p_board, (O_Board K board))] _ _
    obtain ⟨it_, h_it_, hf_1⟩ := obind hf_1
    refine js_app (B := Int) 0 rfl (je_ixV (i := 1) (je_var 6 rfl) je_int rfl) ?_ h_it_ ?_
    · exact je_int
    cases hf_1
    exact js_nilE (TEnt.refl _) ⟨(.keep (.keep (.keep (.keep (.keep (.keep (.drop (.drop (.drop Wk.nil))))))))), _, rfl, rfl⟩
  show JSs _ _ [some (Ref p_board), some (Dat many), some (Dat pieces_here), some (Dat ties_here), some (Ref p_told_n), some (Ref p_ends), none, none, none] [(p_ends, (OL (r_ties : (List Int)))), (p_told_n, (OP (sn_1 : (List (T3 Int (List Int) Int))))), (p_board, (O_Board K board))] _ _
  refine js_clrP (Z := (T3 Int (List Int) Int)) 1 rfl (fun _ => (je_var 4 rfl)) ?_
  show JSs _ _ [some (Ref p_board), some (Dat many), some (Dat pieces_here), some (Dat ties_here), some (Ref p_told_n), some (Ref p_ends), none, none, none] [(p_ends, (OL (r_ties : (List Int)))), (p_told_n, (OL (([] : (List (T3 Int (List Int) Int))) : (List (T3 Int (List Int) Int))))), (p_board, (O_Board K board))] _ _
  obtain ⟨ends_1, h_ends_1, hm⟩ := obind hm
  refine js_app (B := Int) 0 rfl (je_var 5 rfl) ?_ h_ends_1 ?_
  · exact je_int
  cases hm
  exact js_last (js_retE je_bl (TEnt.pick 2 rfl (TEnt.nil _)) ⟨rfl, rfl⟩)
abbrev s_l_cell_at : Stmt := top 23
def m_l_cell_at (script : (List Int)) (k : Int) : Option Int :=
  if (decide (k < (script.length : Int))) = true then (((atI script k).bind fun it_ => some it_)) else some (0 : Int)
abbrev N_l_cell_at : List Str := ["_law_script", "_law_k"]
theorem sc_l_cell_at : FnScope N_l_cell_at ["_law_script", "_law_k"] (defScope s_l_cell_at) := ⟨rfl, rfl, rfl, by decide +kernel, rfl, by decide +kernel, by decide +kernel⟩
abbrev sp_l_cell_at (K : PySem.W.Frag) : Sp := (mSpec (fun a : ((List Int) × Int) => [Scr K a.1, Dat a.2]) (fun a => []) (fun a => m_l_cell_at a.1 a.2) (fun a r ρ T => ρ = Dat r ∧ T = [])).sp
theorem ok_l_cell_at {P : Program} {w : World} {K : PySem.W.Frag} {mg : Str → Option Value} {base : Heap} {f : Addr} {fd : FuncData} (F : FnD K "_law_cell_at" "_law_cell_at" s_l_cell_at f fd) (t_len : mg "len" = none) : FnOk P w K mg base (L2N.CX P w) 1 f fd ["_law_script", "_law_k"] (sp_l_cell_at K) := by
  have nd := sc_l_cell_at.nd
  refine fnM (N := N_l_cell_at) _ _ _ _ F sc_l_cell_at (fun _ => rfl) fun cdv Ar outer s H E hr a r hm => ?_
  obtain ⟨script, k⟩ := a
  replace hm : m_l_cell_at script k = some r := hm
  unfold m_l_cell_at at hm
  show JSs _ _ [some (Scr K script), some (Dat k)] [] _ _
  refine js_ifr (jt_c (jc_lt (je_var 1 rfl) (je_lenL rfl t_len (je_var 0 rfl) rdl_scr))) (fun hc => ?_) (fun hc => ?_)
  · replace hm := oT hc hm
    obtain ⟨it_, h_it_, hm⟩ := obind hm
    cases hm
    exact js_last (js_retE (je_ixL (je_var 0 rfl) rdl_scr (je_var 1 rfl) h_it_) (TEnt.refl _) ⟨rfl, rfl⟩)
  replace hm := oF hc hm
  cases hm
  exact js_last (js_retE je_int (TEnt.refl _) ⟨rfl, rfl⟩)
abbrev s_l_copy : Stmt := top 28
def m_l_copy (pieces_here : (List (T3 Int (List Int) Int))) : Option (List (T3 Int (List Int) Int)) :=
  ((mapB (fun (x : (T3 Int (List Int) Int)) => some (T3.mk x.a x.b x.c)) pieces_here).bind fun lc => some lc)
abbrev N_l_copy : List Str := ["_law_pieces_here", "_law_knot", "_law_cut_here", "_law_told_here"]
theorem sc_l_copy : FnScope N_l_copy ["_law_pieces_here"] (defScope s_l_copy) := ⟨rfl, rfl, rfl, by decide +kernel, rfl, by decide +kernel, by decide +kernel⟩
abbrev sp_l_copy (K : PySem.W.Frag) : Sp := (mSpec (fun a : (List (T3 Int (List Int) Int)) => [Dat a]) (fun a => []) (fun a => m_l_copy a) (fun a r ρ T => ∃ (q0 : Addr), ρ = Ref q0 ∧ T = [(q0, (OP (r : (List (T3 Int (List Int) Int)))))])).sp
theorem ok_l_copy {P : Program} {w : World} {K : PySem.W.Frag} {mg : Str → Option Value} {base : Heap} {f : Addr} {fd : FuncData} (F : FnD K "_law_copy" "_law_copy" s_l_copy f fd) (t_list : mg "list" = none) : FnOk P w K mg base (L2N.CX P w) 1 f fd ["_law_pieces_here"] (sp_l_copy K) := by
  have nd := sc_l_copy.nd
  refine fnM (N := N_l_copy) _ _ _ _ F sc_l_copy (fun _ => rfl) fun cdv Ar outer s H E hr a r hm => ?_
  revert hm; revert a; intro pieces_here hm
  replace hm : m_l_copy pieces_here = some r := hm
  unfold m_l_copy at hm
  show JSs _ _ [some (Dat pieces_here), none, none, none] [] _ _
  obtain ⟨lc, h_lc, hm⟩ := obind hm
  cases hm
  refine js_last (js_retK (xr := nox) (jx_lcP (A := (T3 Int (List Int) Int)) [("_law_knot", 1), ("_law_cut_here", 2), ("_law_told_here", 3)] h_lc (fun _ => True) rfl nd (blkOk_by (own := [("_law_knot", 1), ("_law_cut_here", 2), ("_law_told_here", 3)]) (N := N_l_copy) (sc := defScope s_l_copy) (by decide +kernel)) (ji_list _ (je_var 0 rfl) fun _ _ => rdl_dat) trivial (fun x _ _ hx => by cases hx; exact ⟨_, _, (by decide), fun _ _ _ _ _ => (jg_tup3 rfl (jgs_cons (jg_name 1 nd) (jgs_cons (jg_name 2 nd) (jgs_cons (jg_name 3 nd) jgs_nil)))), fun _ _ _ _ _ => (jp_tup3b (je_var 1 rfl) (jf_listOf rfl t_list (je_var 2 rfl) rdl_dat) (fun _ => (je_var 3 rfl)))⟩)) (fun ρ' T' h => ?_) (fun _ _ z => z.elim))
  obtain ⟨p_new, rfl, rfl⟩ := h
  exact ⟨_, (TEnt.refl _), ⟨_, rfl, rfl⟩⟩
abbrev sp_l_copy_2 (K : PySem.W.Frag) : Sp := (mSpec (fun a : (List (T3 Int (List Int) Int)) => [Dat a]) (fun a => []) (fun a => m_l_copy a) (fun a r ρ T => ρ = Dat r ∧ T = [])).sp
theorem ok_l_copy_2 {P : Program} {w : World} {K : PySem.W.Frag} {mg : Str → Option Value} {base : Heap} {f : Addr} {fd : FuncData} (F : FnD K "_law_copy" "_law_copy" s_l_copy f fd) (t_list : mg "list" = none) : FnOk P w K mg base (L2N.CX P w) 1 f fd ["_law_pieces_here"] (sp_l_copy_2 K) := by
  have nd := sc_l_copy.nd
  refine fnM (N := N_l_copy) _ _ _ _ F sc_l_copy (fun _ => rfl) fun cdv Ar outer s H E hr a r hm => ?_
  revert hm; revert a; intro pieces_here hm
  replace hm : m_l_copy pieces_here = some r := hm
  unfold m_l_copy at hm
  show JSs _ _ [some (Dat pieces_here), none, none, none] [] _ _
  obtain ⟨lc, h_lc, hm⟩ := obind hm
  cases hm
  exact js_last (js_retE (je_lcM [("_law_knot", 1), ("_law_cut_here", 2), ("_law_told_here", 3)] h_lc (fun _ => True) rfl nd (blkOk_by (own := [("_law_knot", 1), ("_law_cut_here", 2), ("_law_told_here", 3)]) (N := N_l_copy) (sc := defScope s_l_copy) (by decide +kernel)) (ji_list _ (je_var 0 rfl) fun _ _ => rdl_dat) trivial (fun x _ _ hx => by cases hx; exact ⟨_, _, (by decide), fun _ _ _ _ _ => (jg_tup3 rfl (jgs_cons (jg_name 1 nd) (jgs_cons (jg_name 2 nd) (jgs_cons (jg_name 3 nd) jgs_nil)))), fun _ _ _ _ _ => (je_tup3 (je_var 1 rfl) (je_jf (jf_listOf rfl t_list (je_var 2 rfl) rdl_dat)) (je_var 3 rfl))⟩)) (TEnt.refl _) ⟨rfl, rfl⟩)
def m_l_copy_3 (pieces_here : (List (T3 Int (List Int) Int))) : Option (List (T3 Anyv (List Anyv) Anyv)) :=
  ((mapB (fun (x : (T3 Int (List Int) Int)) => some (T3.mk (Anyv.i x.a) (emb x.b : (List Anyv)) (Anyv.i x.c))) pieces_here).bind fun lc => some lc)
abbrev sp_l_copy_3 (K : PySem.W.Frag) : Sp := (mSpec (fun a : (List (T3 Int (List Int) Int)) => [Dat a]) (fun a => []) (fun a => m_l_copy_3 a) (fun a r ρ T => ∃ (q0 : Addr), ρ = Ref q0 ∧ T = [(q0, (OL (r : (List (T3 Anyv (List Anyv) Anyv)))))])).sp
theorem ok_l_copy_3 {P : Program} {w : World} {K : PySem.W.Frag} {mg : Str → Option Value} {base : Heap} {f : Addr} {fd : FuncData} (F : FnD K "_law_copy" "_law_copy" s_l_copy f fd) (t_list : mg "list" = none) : FnOk P w K mg base (L2N.CX P w) 1 f fd ["_law_pieces_here"] (sp_l_copy_3 K) := by
  have nd := sc_l_copy.nd
  refine fnM (N := N_l_copy) _ _ _ _ F sc_l_copy (fun _ => rfl) fun cdv Ar outer s H E hr a r hm => ?_
  revert hm; revert a; intro pieces_here hm
  replace hm : m_l_copy_3 pieces_here = some r := hm
  unfold m_l_copy_3 at hm
  show JSs _ _ [some (Dat pieces_here), none, none, none] [] _ _
  obtain ⟨lc, h_lc, hm⟩ := obind hm
  cases hm
  refine js_last (js_retK (xr := nox) (jf_lcM (B := (T3 Anyv (List Anyv) Anyv)) [("_law_knot", 1), ("_law_cut_here", 2), ("_law_told_here", 3)] h_lc (fun _ => True) rfl nd (blkOk_by (own := [("_law_knot", 1), ("_law_cut_here", 2), ("_law_told_here", 3)]) (N := N_l_copy) (sc := defScope s_l_copy) (by decide +kernel)) (ji_list _ (je_var 0 rfl) fun _ _ => rdl_dat) trivial (fun x _ _ hx => by cases hx; exact ⟨_, _, (by decide), fun _ _ _ _ _ => (jg_tup3 rfl (jgs_cons (jg_name 1 nd) (jgs_cons (jg_name 2 nd) (jgs_cons (jg_name 3 nd) jgs_nil)))), fun _ _ _ _ _ => (je_tup3 (je_ofI (je_var 1 rfl)) (je_emb (B := (List Anyv)) (je_jf (jf_listOf rfl t_list (je_var 2 rfl) rdl_dat))) (je_ofI (je_var 3 rfl)))⟩)) (fun ρ' T' h => ?_) (fun _ _ z => z.elim))
  obtain ⟨p_new, rfl, rfl⟩ := h
  exact ⟨_, (TEnt.refl _), ⟨_, rfl, rfl⟩⟩
abbrev s_l_no_number : Stmt := top 31
def m_l_no_number (cell : Int) : Option Anyv :=
  ((atI ([(Anyv.s ("3" : Str)), (Anyv.s ("" : Str)), Anyv.n, Anyv.t, Anyv.l, (Anyv.b true), (Anyv.s ("1" : Str)), (Anyv.b true)] : (List Anyv)) (cell % (8 : Int))).bind fun it_ => some it_)
abbrev N_l_no_number : List Str := ["_law_cell"]
theorem sc_l_no_number : FnScope N_l_no_number ["_law_cell"] (defScope s_l_no_number) := ⟨rfl, rfl, rfl, by decide +kernel, rfl, by decide +kernel, by decide +kernel⟩
abbrev sp_l_no_number (K : PySem.W.Frag) : Sp := (mSpec (fun a : Int => [Dat a]) (fun a => []) (fun a => m_l_no_number a) (fun a r ρ T => ρ = Dat r ∧ T = [])).sp
theorem ok_l_no_number {P : Program} {w : World} {K : PySem.W.Frag} {mg : Str → Option Value} {base : Heap} {f : Addr} {fd : FuncData} (F : FnD K "_law_no_number" "_law_no_number" s_l_no_number f fd) : FnOk P w K mg base (L2N.CX P w) 1 f fd ["_law_cell"] (sp_l_no_number K) := by
  have nd := sc_l_no_number.nd
  refine fnM (N := N_l_no_number) _ _ _ _ F sc_l_no_number (fun _ => rfl) fun cdv Ar outer s H E hr a r hm => ?_
  revert hm; revert a; intro cell hm
  replace hm : m_l_no_number cell = some r := hm
  unfold m_l_no_number at hm
  show JSs _ _ [some (Dat cell)] [] _ _
  obtain ⟨it_, h_it_, hm⟩ := obind hm
  cases hm
  exact js_last (js_retE (je_ixL (je_listF (xs := [(Anyv.s ("3" : Str)), (Anyv.s ("" : Str)), Anyv.n, Anyv.t, Anyv.l, (Anyv.b true), (Anyv.s ("1" : Str)), (Anyv.b true)]) (ja_cons (je_ofS je_str) (ja_cons (je_ofS je_str) (ja_cons (je_ofN je_non) (ja_cons (je_any1 je_int) (ja_cons (je_any1l' je_int) (ja_cons (je_ofB je_bl) (ja_cons (je_ofS je_str) (ja_cons (je_ofB je_bl) ja_nil)))))))) (by show 8 ≤ sizeLine; decide)) rdl_dat (je_mod (je_var 0 rfl) je_int (by decide +kernel)) h_it_) (TEnt.refl _) ⟨rfl, rfl⟩)
abbrev s_l_wrong_tie : Stmt := top 34
def m_l_wrong_tie_t1 (knots : (List Int)) (st : Int) : Option Bool :=
  some (decide (st ∈ knots))
def m_l_wrong_tie_w1  (st : Int) : Option Int :=
  ((some (st + (1 : Int))).bind fun absent_1 => some absent_1)
def m_l_wrong_tie (many : Int) (pieces_here : (List (T3 Int (List Int) Int))) (cell : Int) : Option Anyv :=
  ((mapB (fun (x : (T3 Int (List Int) Int)) => some x.a) pieces_here).bind fun knots => ((some (many + (1 : Int))).bind fun absent => ((whileO (m_l_wrong_tie_t1 knots) m_l_wrong_tie_w1 (1000000) absent).bind fun sn => ((some ((cell / (4 : Int)) % (1000000000000000000000000000000 : Int))).bind fun far => ((m_l_no_number (cell / (4 : Int))).bind fun r_no_number => (m_l_no_number (cell / (4 : Int))).bind fun r_no_number_1 => (atI ([(Anyv.i (((2 : Int) * sn) + (far % (2 : Int)))), (Anyv.i ((2000 : Int) + far)), (Anyv.i ((-(1 : Int)) - far)), r_no_number_1] : (List Anyv)) (cell % (4 : Int))).bind fun it_ => some it_)))))
abbrev N_l_wrong_tie : List Str := ["_law_many", "_law_pieces_here", "_law_cell", "_law_knots", "_law_piece_here", "_law_absent", "_law_far"]
theorem sc_l_wrong_tie : FnScope N_l_wrong_tie ["_law_many", "_law_pieces_here", "_law_cell"] (defScope s_l_wrong_tie) := ⟨rfl, rfl, rfl, by decide +kernel, rfl, by decide +kernel, by decide +kernel⟩
abbrev sp_l_wrong_tie (K : PySem.W.Frag) : Sp := (mSpec (fun a : (Int × (List (T3 Int (List Int) Int)) × Int) => [Dat a.1, Dat a.2.1, Dat a.2.2]) (fun a => []) (fun a => m_l_wrong_tie a.1 a.2.1 a.2.2) (fun a r ρ T => ρ = Dat r ∧ T = [])).sp
theorem ok_l_wrong_tie {P : Program} {w : World} {K : PySem.W.Frag} {mg : Str → Option Value} {base : Heap} {f : Addr} {fd : FuncData} (F : FnD K "_law_wrong_tie" "_law_wrong_tie" s_l_wrong_tie f fd) (c_l_no_number : Cal P w K mg base 1 "_law_no_number" ["_law_cell"] (sp_l_no_number K)) : FnOk P w K mg base (L2N.CX P w) 2 f fd ["_law_many", "_law_pieces_here", "_law_cell"] (sp_l_wrong_tie K) := by
  have nd := sc_l_wrong_tie.nd
  refine fnM (N := N_l_wrong_tie) _ _ _ _ F sc_l_wrong_tie (fun _ => rfl) fun cdv Ar outer s H E hr a r hm => ?_
  obtain ⟨many, pieces_here, cell⟩ := a
  replace hm : m_l_wrong_tie many pieces_here cell = some r := hm
  unfold m_l_wrong_tie at hm
  show JSs _ _ [some (Dat many), some (Dat pieces_here), some (Dat cell), none, none, none, none] [] _ _
  obtain ⟨knots, h_knots, hm⟩ := obind hm
  refine js_setM 3 [("_law_piece_here", 4)] h_knots (fun _ => True) rfl nd (blkOk_by (own := [("_law_piece_here", 4)]) (N := N_l_wrong_tie) (sc := defScope s_l_wrong_tie) (by decide +kernel)) (ji_list _ (je_var 1 rfl) fun _ _ => rdl_dat) trivial (fun x _ _ hx => by cases hx; exact ⟨_, _, (by decide), fun _ _ _ _ _ => (jg_name 4 nd), fun _ _ _ _ _ => (je_ix3a (je_var 4 rfl) je_int)⟩) ?_ (sw_true rfl rfl rfl (by decide +kernel))
  obtain ⟨absent, e_absent, hm⟩ := obind hm
  refine js_set 5 nd (je_eq (je_add (je_var 0 rfl) je_int) (Option.some.inj e_absent)) ?_
  obtain ⟨sn, hl, hm⟩ := obind hm
  refine js_whileO hl (fun (st : Int) => [some (Dat many), some (Dat pieces_here), some (Dat cell), some (Dat knots), none, some (Dat st), none]) (fun (st : Int) => []) (passOwn rfl) (.keep (.keep (.keep (.keep (.drop (.keep (.drop Wk.nil))))))) rfl (fun st bb hb => ?_) (fun st rr ht hf => ?_) ?_
  · replace hb : (m_l_wrong_tie_t1 knots) st = some bb := hb
    unfold m_l_wrong_tie_t1 at hb
    cases hb
    exact (jt_c (jc_inL (je_var 5 rfl) (je_var 3 rfl) rdl_dat))
  · replace hf : m_l_wrong_tie_w1 st = some rr := hf
    unfold m_l_wrong_tie_w1 at hf
    obtain ⟨absent_1, e_absent_1, hf⟩ := obind hf
    refine js_set 5 nd (je_eq (je_add (je_var 5 rfl) je_int) (Option.some.inj e_absent_1)) ?_
    cases hf
    exact js_nilE (TEnt.refl _) ⟨(.keep (.keep (.keep (.keep (.drop (.keep (.drop Wk.nil))))))), rfl⟩
  show JSs _ _ [some (Dat many), some (Dat pieces_here), some (Dat cell), some (Dat knots), none, some (Dat sn), none] [] _ _
  obtain ⟨far, e_far, hm⟩ := obind hm
  refine js_set 6 nd (je_eq (je_mod (je_div (je_var 2 rfl) je_int (by decide +kernel)) (je_eq (je_pow je_int je_int (by decide)) (by decide +kernel)) (by decide +kernel)) (Option.some.inj e_far)) ?_
  obtain ⟨r_no_number, h_r_no_number, hm⟩ := obind hm
  obtain ⟨r_no_number_1, h_r_no_number_1, hm⟩ := obind hm
  obtain ⟨it_, h_it_, hm⟩ := obind hm
  cases hm
  exact js_last (js_retE (je_ixL (je_listF (xs := [(Anyv.i (((2 : Int) * sn) + (far % (2 : Int)))), (Anyv.i ((2000 : Int) + far)), (Anyv.i ((-(1 : Int)) - far)), r_no_number_1]) (ja_cons (je_ofI (je_add (je_mulL je_int (je_var 5 rfl) (.inl (by decide))) (je_mod (je_var 6 rfl) je_int (by decide +kernel)))) (ja_cons (je_ofI (je_add je_int (je_var 6 rfl))) (ja_cons (je_ofI (je_sub (je_neg je_int) (je_var 6 rfl))) (ja_cons (je_callM (cell / (4 : Int)) (by exact h_r_no_number_1) c_l_no_number (hr.mono (by decide)) rfl (ja_cons (je_div (je_var 2 rfl) je_int (by decide +kernel)) ja_nil) perm0 (fun _ _ h => h)) ja_nil)))) (by show 4 ≤ sizeLine; decide)) rdl_dat (je_mod (je_var 2 rfl) je_int (by decide +kernel)) h_it_) (TEnt.refl _) ⟨rfl, rfl⟩)
abbrev s_l_wrong_knot : Stmt := top 32
def m_l_wrong_knot (last : Anyv) (many : Int) (cell : Int) : Option Anyv :=
  ((some ((cell / (5 : Int)) % (1000000000000000000000000000000 : Int))).bind fun far => ((modO far (many + (1 : Int))).bind fun re => (m_l_no_number (cell / (5 : Int))).bind fun r_no_number => (modO far (many + (1 : Int))).bind fun re_1 => (m_l_no_number (cell / (5 : Int))).bind fun r_no_number_1 => (atI ([(Anyv.i re_1), last, (Anyv.i ((1000 : Int) + far)), (Anyv.i ((-(1 : Int)) - far)), r_no_number_1] : (List Anyv)) (cell % (5 : Int))).bind fun it_ => some it_))
abbrev N_l_wrong_knot : List Str := ["_law_last", "_law_many", "_law_cell", "_law_far"]
theorem sc_l_wrong_knot : FnScope N_l_wrong_knot ["_law_last", "_law_many", "_law_cell"] (defScope s_l_wrong_knot) := ⟨rfl, rfl, rfl, by decide +kernel, rfl, by decide +kernel, by decide +kernel⟩
abbrev sp_l_wrong_knot (K : PySem.W.Frag) : Sp := (mSpec (fun a : (Anyv × Int × Int) => [Dat a.1, Dat a.2.1, Dat a.2.2]) (fun a => []) (fun a => m_l_wrong_knot a.1 a.2.1 a.2.2) (fun a r ρ T => ρ = Dat r ∧ T = [])).sp
theorem ok_l_wrong_knot {P : Program} {w : World} {K : PySem.W.Frag} {mg : Str → Option Value} {base : Heap} {f : Addr} {fd : FuncData} (F : FnD K "_law_wrong_knot" "_law_wrong_knot" s_l_wrong_knot f fd) (c_l_no_number : Cal P w K mg base 1 "_law_no_number" ["_law_cell"] (sp_l_no_number K)) : FnOk P w K mg base (L2N.CX P w) 2 f fd ["_law_last", "_law_many", "_law_cell"] (sp_l_wrong_knot K) := by
  have nd := sc_l_wrong_knot.nd
  refine fnM (N := N_l_wrong_knot) _ _ _ _ F sc_l_wrong_knot (fun _ => rfl) fun cdv Ar outer s H E hr a r hm => ?_
  obtain ⟨last, many, cell⟩ := a
  replace hm : m_l_wrong_knot last many cell = some r := hm
  unfold m_l_wrong_knot at hm
  show JSs _ _ [some (Dat last), some (Dat many), some (Dat cell), none] [] _ _
  obtain ⟨far, e_far, hm⟩ := obind hm
  refine js_set 3 nd (je_eq (je_mod (je_div (je_var 2 rfl) je_int (by decide +kernel)) (je_eq (je_pow je_int je_int (by decide)) (by decide +kernel)) (by decide +kernel)) (Option.some.inj e_far)) ?_
  obtain ⟨re, h_re, hm⟩ := obind hm
  obtain ⟨r_no_number, h_r_no_number, hm⟩ := obind hm
  obtain ⟨re_1, h_re_1, hm⟩ := obind hm
  obtain ⟨r_no_number_1, h_r_no_number_1, hm⟩ := obind hm
  obtain ⟨it_, h_it_, hm⟩ := obind hm
  cases hm
  exact js_last (js_retE (je_ixL (je_listF (xs := [(Anyv.i re_1), last, (Anyv.i ((1000 : Int) + far)), (Anyv.i ((-(1 : Int)) - far)), r_no_number_1]) (ja_cons (je_ofI (je_mod' h_re_1 (je_var 3 rfl) (je_add (je_var 1 rfl) je_int))) (ja_cons (je_var 0 rfl) (ja_cons (je_ofI (je_add je_int (je_var 3 rfl))) (ja_cons (je_ofI (je_sub (je_neg je_int) (je_var 3 rfl))) (ja_cons (je_callM (cell / (5 : Int)) (by exact h_r_no_number_1) c_l_no_number (hr.mono (by decide)) rfl (ja_cons (je_div (je_var 2 rfl) je_int (by decide +kernel)) ja_nil) perm0 (fun _ _ h => h)) ja_nil))))) (by show 5 ≤ sizeLine; decide)) rdl_dat (je_mod (je_var 2 rfl) je_int (by decide +kernel)) h_it_) (TEnt.refl _) ⟨rfl, rfl⟩)
abbrev s_l_wrong_cut : Stmt := top 33
def m_l_wrong_cut (cut_here : (List Anyv)) (knot : Anyv) (cell : Int) : Option (List Anyv) :=
  ((some ((cell / (9 : Int)) % (1000000000000000000000000000000 : Int))).bind fun far => if (decide ((cell % (9 : Int)) < (3 : Int))) = true then (((atI cut_here (-(1 : Int))).bind fun it_ => (extO cut_here ([it_] : (List Anyv))).bind fun ct => (allI ct).bind fun un => (atI ([([] : (List Int)), ([(1 : Int), (2 : Int), (3 : Int), (4 : Int), (5 : Int), (6 : Int), (7 : Int)] : (List Int)), un] : (List (List Int))) (cell % (9 : Int))).bind fun it__1 => some (emb it__1 : (List Anyv)))) else if ((decide ((cell % (9 : Int)) = (3 : Int))) && (decide ((1 : Int) < (cut_here.length : Int)))) = true then (((extO (cutL cut_here (some (1 : Int)) none) (cutL cut_here none (some (1 : Int)))).bind fun ct_1 => some ct_1)) else ((knot.toI).bind fun av => (m_l_no_number (cell / (9 : Int))).bind fun r_no_number => (knot.toI).bind fun av_1 => (m_l_no_number (cell / (9 : Int))).bind fun r_no_number_1 => (atI ([(Anyv.i (0 : Int)), knot, knot, (Anyv.i (av_1 + (1 : Int))), (Anyv.i ((-(1 : Int)) - far)), (Anyv.i ((1000 : Int) + far)), r_no_number_1] : (List Anyv)) ((cell % (9 : Int)) % (7 : Int))).bind fun it__2 => if (decide ((cell % (9 : Int)) = (8 : Int))) = true then (((extO ([it__2] : (List Anyv)) (cutL cut_here (some (1 : Int)) none)).bind fun ct_2 => some ct_2)) else ((extO (cutL cut_here none (some (-(1 : Int)))) ([it__2] : (List Anyv))).bind fun ct_3 => some ct_3)))
abbrev N_l_wrong_cut : List Str := ["_law_cut_here", "_law_knot", "_law_cell", "_law_far", "_law_number"]
theorem sc_l_wrong_cut : FnScope N_l_wrong_cut ["_law_cut_here", "_law_knot", "_law_cell"] (defScope s_l_wrong_cut) := ⟨rfl, rfl, rfl, by decide +kernel, rfl, by decide +kernel, by decide +kernel⟩
abbrev sp_l_wrong_cut (K : PySem.W.Frag) : Sp := (mSpec (fun a : ((List Anyv) × Anyv × Int) => [Dat a.1, Dat a.2.1, Dat a.2.2]) (fun a => []) (fun a => m_l_wrong_cut a.1 a.2.1 a.2.2) (fun a r ρ T => ρ = Dat r ∧ T = [])).sp
theorem ok_l_wrong_cut {P : Program} {w : World} {K : PySem.W.Frag} {mg : Str → Option Value} {base : Heap} {f : Addr} {fd : FuncData} (F : FnD K "_law_wrong_cut" "_law_wrong_cut" s_l_wrong_cut f fd) (t_len : mg "len" = none) (c_l_no_number : Cal P w K mg base 1 "_law_no_number" ["_law_cell"] (sp_l_no_number K)) : FnOk P w K mg base (L2N.CX P w) 2 f fd ["_law_cut_here", "_law_knot", "_law_cell"] (sp_l_wrong_cut K) := by
  have nd := sc_l_wrong_cut.nd
  refine fnM (N := N_l_wrong_cut) _ _ _ _ F sc_l_wrong_cut (fun _ => rfl) fun cdv Ar outer s H E hr a r hm => ?_
  obtain ⟨cut_here, knot, cell⟩ := a
  replace hm : m_l_wrong_cut cut_here knot cell = some r := hm
  unfold m_l_wrong_cut at hm
  show JSs _ _ [some (Dat cut_here), some (Dat knot), some (Dat cell), none, none] [] _ _
  obtain ⟨far, e_far, hm⟩ := obind hm
  refine js_set 3 nd (je_eq (je_mod (je_div (je_var 2 rfl) je_int (by decide +kernel)) (je_eq (je_pow je_int je_int (by decide)) (by decide +kernel)) (by decide +kernel)) (Option.some.inj e_far)) ?_
  refine js_ifr (jt_c (jc_lt (je_mod (je_var 2 rfl) je_int (by decide +kernel)) je_int)) (fun hc => ?_) (fun hc => ?_)
  · replace hm := oT hc hm
    obtain ⟨it_, h_it_, hm⟩ := obind hm
    obtain ⟨ct, h_ct, hm⟩ := obind hm
    obtain ⟨un, h_un, hm⟩ := obind hm
    obtain ⟨it__1, h_it__1, hm⟩ := obind hm
    cases hm
    exact js_last (js_retE (je_emb (B := (List Anyv)) (je_ixL (je_listF (xs := [([] : (List Int)), ([(1 : Int), (2 : Int), (3 : Int), (4 : Int), (5 : Int), (6 : Int), (7 : Int)] : (List Int)), un]) (ja_cons (je_listF (xs := ([] : (List Int))) ja_nil (by decide)) (ja_cons (je_listF (xs := [(1 : Int), (2 : Int), (3 : Int), (4 : Int), (5 : Int), (6 : Int), (7 : Int)]) (ja_cons je_int (ja_cons je_int (ja_cons je_int (ja_cons je_int (ja_cons je_int (ja_cons je_int (ja_cons je_int ja_nil))))))) (by show 7 ≤ sizeLine; decide)) (ja_cons (je_unAL h_un (je_jf (jf_cat h_ct (je_var 0 rfl) rdm_dat (je_listF (xs := [it_]) (ja_cons (je_ixL (je_var 0 rfl) rdl_dat (je_neg je_int) h_it_) ja_nil) (by show 1 ≤ sizeLine; decide)) rdm_dat))) ja_nil))) (by show 3 ≤ sizeLine; decide)) rdl_dat (je_mod (je_var 2 rfl) je_int (by decide +kernel)) h_it__1)) (TEnt.refl _) ⟨rfl, rfl⟩)
  replace hm := oF hc hm
  refine js_ifr (JTW.jt (jw_and (jt_c (jc_eqS (je_mod (je_var 2 rfl) je_int (by decide +kernel)) je_int)) fun _ => (jw_and1 (jt_c (jc_gt (je_lenL rfl t_len (je_var 0 rfl) rdl_dat) je_int))))) (fun hc_1 => ?_) (fun hc_1 => ?_)
  · replace hm := oT hc_1 hm
    obtain ⟨ct_1, h_ct_1, hm⟩ := obind hm
    cases hm
    exact js_last (js_retE (je_jf (jf_cat h_ct_1 (je_slL (je_var 0 rfl) rdl_dat (jo_of je_int) jo_no) rdm_dat (je_slL (je_var 0 rfl) rdl_dat jo_no (jo_of je_int)) rdm_dat)) (TEnt.refl _) ⟨rfl, rfl⟩)
  replace hm := oF hc_1 hm
  obtain ⟨av, h_av, hm⟩ := obind hm
  obtain ⟨r_no_number, h_r_no_number, hm⟩ := obind hm
  obtain ⟨av_1, h_av_1, hm⟩ := obind hm
  obtain ⟨r_no_number_1, h_r_no_number_1, hm⟩ := obind hm
  obtain ⟨it__2, h_it__2, hm⟩ := obind hm
  refine js_set 4 nd (je_ixL (je_listF (xs := [(Anyv.i (0 : Int)), knot, knot, (Anyv.i (av_1 + (1 : Int))), (Anyv.i ((-(1 : Int)) - far)), (Anyv.i ((1000 : Int) + far)), r_no_number_1]) (ja_cons (je_ofI je_int) (ja_cons (je_var 1 rfl) (ja_cons (je_var 1 rfl) (ja_cons (je_ofI (je_add (je_anI h_av_1 (je_var 1 rfl)) je_int)) (ja_cons (je_ofI (je_sub (je_neg je_int) (je_var 3 rfl))) (ja_cons (je_ofI (je_add je_int (je_var 3 rfl))) (ja_cons (je_callM (cell / (9 : Int)) (by exact h_r_no_number_1) c_l_no_number (hr.mono (by decide)) rfl (ja_cons (je_div (je_var 2 rfl) je_int (by decide +kernel)) ja_nil) perm0 (fun _ _ h => h)) ja_nil))))))) (by show 7 ≤ sizeLine; decide)) rdl_dat (je_mod (je_mod (je_var 2 rfl) je_int (by decide +kernel)) je_int (by decide +kernel)) h_it__2) ?_
  refine js_ifr (jt_c (jc_eqS (je_mod (je_var 2 rfl) je_int (by decide +kernel)) je_int)) (fun hc_2 => ?_) (fun hc_2 => ?_)
  · replace hm := oT hc_2 hm
    obtain ⟨ct_2, h_ct_2, hm⟩ := obind hm
    cases hm
    exact js_last (js_retE (je_jf (jf_cat h_ct_2 (je_listF (xs := [it__2]) (ja_cons (je_var 4 rfl) ja_nil) (by show 1 ≤ sizeLine; decide)) rdm_dat (je_slL (je_var 0 rfl) rdl_dat (jo_of je_int) jo_no) rdm_dat)) (TEnt.refl _) ⟨rfl, rfl⟩)
  replace hm := oF hc_2 hm
  obtain ⟨ct_3, h_ct_3, hm⟩ := obind hm
  cases hm
  exact js_last (js_retE (je_jf (jf_cat h_ct_3 (je_slL (je_var 0 rfl) rdl_dat jo_no (jo_of (je_neg je_int))) rdm_dat (je_listF (xs := [it__2]) (ja_cons (je_var 4 rfl) ja_nil) (by show 1 ≤ sizeLine; decide)) rdm_dat)) (TEnt.refl _) ⟨rfl, rfl⟩)
abbrev s_l_spoilt : Stmt := top 35
def m_l_spoilt (many : Int) (pieces_here : (List (T3 Int (List Int) Int))) (ties_here : (List Int)) (way : Int) (cell : Int) : Option (L3 Anyv (List (T3 Anyv (List Anyv) Anyv)) (List Anyv)) :=
  ((m_l_copy_3 pieces_here).bind fun r_copy => if (decide (way = (1 : Int))) = true then (((some (Anyv.i ((cell / (4 : Int)) % (1000000000000000000000000000000 : Int)))).bind fun far => ((if (decide (((cell / (4 : Int)) % (3 : Int)) = (1 : Int))) = true then (((some (Anyv.b (decide (many = (1 : Int))))).bind fun far_2 => some far_2)) else (if (decide ((cell % (4 : Int)) = (3 : Int))) = true then (((m_l_no_number (cell / (4 : Int))).bind fun r_no_number => some r_no_number)) else (((far.toI).bind fun av => (far.toI).bind fun av_1 => (atI ([(0 : Int), ((-(1 : Int)) - av), ((11 : Int) + av_1)] : (List Int)) (cell % (4 : Int))).bind fun it_ => (some (Anyv.i it_)).bind fun far_3 => some far_3)))).bind fun z => some (L3.mk z r_copy (emb ties_here : (List Anyv)))))) else if (decide (way = (2 : Int))) = true then (some (L3.mk (Anyv.i many) r_copy ([] : (List Anyv)))) else if (decide (way = (3 : Int))) = true then (((modO (cell / (4 : Int)) ((emb ties_here : (List Anyv)).length : Int)).bind fun re => ((m_l_wrong_tie many pieces_here (((cell / (64 : Int)) * (4 : Int)) + (cell % (4 : Int)))).bind fun r_wrong_tie => (lputO (emb ties_here : (List Anyv)) re r_wrong_tie).bind fun ends_1 => some (L3.mk (Anyv.i many) r_copy ends_1)))) else ((modO cell (r_copy.length : Int)).bind fun re_1 => ((divO cell (r_copy.length : Int)).bind fun qu => ((atI r_copy re_1).bind fun it__1 => ((if (decide (way = (4 : Int))) = true then (((some (Anyv.i many)).bind fun last => ((if (decide ((0 : Int) < re_1)) = true then (((atI r_copy (re_1 - (1 : Int))).bind fun it__2 => some it__2.a)) else (some last)).bind fun z_2 => ((m_l_wrong_knot z_2 many qu).bind fun r_wrong_knot => some r_wrong_knot)))) else (some it__1.a)).bind fun z_1 => ((if (decide (way = (5 : Int))) = true then (((m_l_wrong_cut it__1.b z_1 qu).bind fun r_wrong_cut => some r_wrong_cut)) else (some it__1.b)).bind fun z_3 => ((if (decide (way = (6 : Int))) = true then (((some (Anyv.i ((qu / (4 : Int)) % (1000000000000000000000000000000 : Int)))).bind fun far_4 => ((far_4.toI).bind fun av_2 => (shlO (1 : Int) (z_3.length : Int)).bind fun sh => (shlO (1 : Int) sh).bind fun sh_1 => (far_4.toI).bind fun av_3 => (far_4.toI).bind fun av_4 => (m_l_no_number av_4).bind fun r_no_number_1 => (far_4.toI).bind fun av_5 => (shlO (1 : Int) (z_3.length : Int)).bind fun sh_2 => (shlO (1 : Int) sh_2).bind fun sh_3 => (far_4.toI).bind fun av_6 => (far_4.toI).bind fun av_7 => (m_l_no_number av_7).bind fun r_no_number_2 => (atI ([(Anyv.i ((-(1 : Int)) - av_5)), (Anyv.i (sh_3 + av_6)), r_no_number_2, (Anyv.b false)] : (List Anyv)) (qu % (4 : Int))).bind fun it__3 => some it__3))) else (some it__1.c)).bind fun z_4 => ((lputO r_copy re_1 (T3.mk z_1 z_3 z_4)).bind fun made_1 => some (L3.mk (Anyv.i many) made_1 (emb ties_here : (List Anyv)))))))))))
abbrev N_l_spoilt : List Str := ["_law_many", "_law_pieces_here", "_law_ties_here", "_law_way", "_law_cell", "_law_made", "_law_ends", "_law_far", "_law_at", "_law_rest", "_law_knot", "_law_cut_here", "_law_told_here", "_law_last"]
theorem sc_l_spoilt : FnScope N_l_spoilt ["_law_many", "_law_pieces_here", "_law_ties_here", "_law_way", "_law_cell"] (defScope s_l_spoilt) := ⟨rfl, rfl, rfl, by decide +kernel, rfl, by decide +kernel, by decide +kernel⟩
abbrev sp_l_spoilt (K : PySem.W.Frag) : Sp := (mSpec (fun a : (Int × (List (T3 Int (List Int) Int)) × (List Int) × Int × Int) => [Dat a.1, Dat a.2.1, Dat a.2.2.1, Dat a.2.2.2.1, Dat a.2.2.2.2]) (fun a => []) (fun a => m_l_spoilt a.1 a.2.1 a.2.2.1 a.2.2.2.1 a.2.2.2.2) (fun a r ρ T => ρ = Dat r ∧ T = [])).sp
theorem ok_l_spoilt {P : Program} {w : World} {K : PySem.W.Frag} {mg : Str → Option Value} {base : Heap} {f : Addr} {fd : FuncData} (F : FnD K "_law_spoilt" "_law_spoilt" s_l_spoilt f fd) (t_len : mg "len" = none) (t_list : mg "list" = none) (c_l_copy_3 : Cal P w K mg base 1 "_law_copy" ["_law_pieces_here"] (sp_l_copy_3 K)) (c_l_no_number : Cal P w K mg base 1 "_law_no_number" ["_law_cell"] (sp_l_no_number K)) (c_l_wrong_tie : Cal P w K mg base 2 "_law_wrong_tie" ["_law_many", "_law_pieces_here", "_law_cell"] (sp_l_wrong_tie K)) (c_l_wrong_knot : Cal P w K mg base 2 "_law_wrong_knot" ["_law_last", "_law_many", "_law_cell"] (sp_l_wrong_knot K)) (c_l_wrong_cut : Cal P w K mg base 2 "_law_wrong_cut" ["_law_cut_here", "_law_knot", "_law_cell"] (sp_l_wrong_cut K)) : FnOk P w K mg base (L2N.CX P w) 3 f fd ["_law_many", "_law_pieces_here", "_law_ties_here", "_law_way", "_law_cell"] (sp_l_spoilt K) := by
  have nd := sc_l_spoilt.nd
  refine fnM (N := N_l_spoilt) _ _ _ _ F sc_l_spoilt (fun _ => rfl) fun cdv Ar outer s H E hr a r hm => ?_
  obtain ⟨many, pieces_here, ties_here, way, cell⟩ := a
  replace hm : m_l_spoilt many pieces_here ties_here way cell = some r := hm
  unfold m_l_spoilt at hm
  show JSs _ _ [some (Dat many), some (Dat pieces_here), some (Dat ties_here), some (Dat way), some (Dat cell), none, none, none, none, none, none, none, none, none] [] _ _
  obtain ⟨r_copy, h_r_copy, hm⟩ := obind hm
  refine js_setK (xr := nox) 5 nd (jf_of (jx_callM pieces_here (by exact h_r_copy) c_l_copy_3 (hr.mono (by decide)) rfl (ja_cons (je_var 1 rfl) ja_nil) perm0) (fun ρ' T' h => by obtain ⟨_, ⟨p_fr, rfl, rfl⟩, rfl⟩ := h; exact ⟨_, rfl, (TEnt.refl _)⟩)) (fun ρ' T' h => ?_) (fun _ _ z => z.elim)
  obtain ⟨p_made, rfl, rfl⟩ := h
  show JSs _ _ [some (Dat many), some (Dat pieces_here), some (Dat ties_here), some (Dat way), some (Dat cell), some (Ref p_made), none, none, none, none, none, none, none, none] [(p_made, (OL (r_copy : (List (T3 Anyv (List Anyv) Anyv)))))] _ _
  refine js_setK (xr := nox) 6 nd (jf_listOf rfl t_list (je_emb (B := (List Anyv)) (je_var 2 rfl)) rdl_dat) (fun ρ' T' h => ?_) (fun _ _ z => z.elim)
  obtain ⟨p_ends, rfl, rfl⟩ := h
  show JSs _ _ [some (Dat many), some (Dat pieces_here), some (Dat ties_here), some (Dat way), some (Dat cell), some (Ref p_made), some (Ref p_ends), none, none, none, none, none, none, none] [(p_ends, (OL ((emb ties_here : (List Anyv)) : (List Anyv)))), (p_made, (OL (r_copy : (List (T3 Anyv (List Anyv) Anyv)))))] _ _
  refine js_ifr (jt_c (jc_eqS (je_var 3 rfl) je_int)) (fun hc => ?_) (fun hc => ?_)
  · replace hm := oT hc hm
    obtain ⟨far, e_far, hm⟩ := obind hm
    refine js_set 7 nd (je_eq (je_ofI (je_mod (je_div (je_var 4 rfl) je_int (by decide +kernel)) (je_eq (je_pow je_int je_int (by decide)) (by decide +kernel)) (by decide +kernel))) (Option.some.inj e_far)) ?_
    obtain ⟨z, hj, hm⟩ := obind hm
    refine js_ifj (Γ' := [some (Dat many), some (Dat pieces_here), some (Dat ties_here), some (Dat way), some (Dat cell), some (Ref p_made), some (Ref p_ends), some (Dat z), none, none, none, none, none, none]) (T' := [(p_ends, (OL ((emb ties_here : (List Anyv)) : (List Anyv)))), (p_made, (OL (r_copy : (List (T3 Anyv (List Anyv) Anyv)))))]) (jt_c (jc_eqS (je_mod (je_div (je_var 4 rfl) je_int (by decide +kernel)) je_int (by decide +kernel)) je_int)) (fun hc_1 => ?_) (fun hc_1 => ?_) ?_
    · replace hj := oT hc_1 hj
      obtain ⟨far_2, e_far_2, hj⟩ := obind hj
      refine js_set 7 nd (je_eq (je_ofB (je_c (jc_eqS (je_var 0 rfl) je_int))) (Option.some.inj e_far_2)) ?_
      cases hj
      exact js_nilE (TEnt.refl _) ⟨(.keep (.keep (.keep (.keep (.keep (.keep (.keep (.keep (.drop (.drop (.drop (.drop (.drop (.drop Wk.nil)))))))))))))), rfl⟩
    · replace hj := oF hc_1 hj
      refine js_last (js_if (jt_c (jc_eqS (je_mod (je_var 4 rfl) je_int (by decide +kernel)) je_int)) (fun hc_2 => ?_) (fun hc_2 => ?_))
      · replace hj := oT hc_2 hj
        obtain ⟨r_no_number, h_r_no_number, hj⟩ := obind hj
        refine js_set 7 nd (je_callM (cell / (4 : Int)) (by exact h_r_no_number) c_l_no_number (hr.mono (by decide)) rfl (ja_cons (je_div (je_var 4 rfl) je_int (by decide +kernel)) ja_nil) perm0 (fun _ _ h => h)) ?_
        cases hj
        exact js_nilE (TEnt.refl _) ⟨(.keep (.keep (.keep (.keep (.keep (.keep (.keep (.keep (.drop (.drop (.drop (.drop (.drop (.drop Wk.nil)))))))))))))), rfl⟩
      · replace hj := oF hc_2 hj
        obtain ⟨av, h_av, hj⟩ := obind hj
        obtain ⟨av_1, h_av_1, hj⟩ := obind hj
        obtain ⟨it_, h_it_, hj⟩ := obind hj
        obtain ⟨far_3, e_far_3, hj⟩ := obind hj
        refine js_set 7 nd (je_eq (je_ofI (je_ixL (je_listF (xs := [(0 : Int), ((-(1 : Int)) - av), ((11 : Int) + av_1)]) (ja_cons je_int (ja_cons (je_sub (je_neg je_int) (je_anI h_av (je_var 7 rfl))) (ja_cons (je_add je_int (je_anI h_av_1 (je_var 7 rfl))) ja_nil))) (by show 3 ≤ sizeLine; decide)) rdl_dat (je_mod (je_var 4 rfl) je_int (by decide +kernel)) h_it_)) (Option.some.inj e_far_3)) ?_
        cases hj
        exact js_nilE (TEnt.refl _) ⟨(.keep (.keep (.keep (.keep (.keep (.keep (.keep (.keep (.drop (.drop (.drop (.drop (.drop (.drop Wk.nil)))))))))))))), rfl⟩
    refine js_freezeAt 1 5 rfl rfl ?_
    refine js_freezeAt 0 6 rfl rfl ?_
    cases hm
    exact js_last (js_retE (je_list3 (ja_cons (je_var 7 rfl) (ja_cons (je_var 5 rfl) (ja_cons (je_var 6 rfl) ja_nil)))) (TEnt.refl _) ⟨rfl, rfl⟩)
  replace hm := oF hc hm
  refine js_ifr (jt_c (jc_eqS (je_var 3 rfl) je_int)) (fun hc_3 => ?_) (fun hc_3 => ?_)
  · replace hm := oT hc_3 hm
    refine js_freezeAt 1 5 rfl rfl ?_
    cases hm
    exact js_last (js_retE (je_list3 (ja_cons (je_ofI (je_var 0 rfl)) (ja_cons (je_var 5 rfl) (ja_cons (je_listF (xs := ([] : (List Anyv))) ja_nil (by decide)) ja_nil)))) (TEnt.nil _) ⟨rfl, rfl⟩)
  replace hm := oF hc_3 hm
  refine js_ifr (jt_c (jc_eqS (je_var 3 rfl) je_int)) (fun hc_4 => ?_) (fun hc_4 => ?_)
  · replace hm := oT hc_4 hm
    obtain ⟨re, h_re, hm⟩ := obind hm
    refine js_set 8 nd (je_mod' h_re (je_div (je_var 4 rfl) je_int (by decide +kernel)) (je_lenL rfl t_len (je_var 6 rfl) (rdl_own 0 rfl))) ?_
    obtain ⟨r_wrong_tie, h_r_wrong_tie, hm⟩ := obind hm
    obtain ⟨ends_1, h_ends_1, hm⟩ := obind hm
    refine js_lput (B := Anyv) 0 (jx_of (je_callM (many, pieces_here, (((cell / (64 : Int)) * (4 : Int)) + (cell % (4 : Int)))) (by exact h_r_wrong_tie) c_l_wrong_tie (hr.mono (by decide)) rfl (ja_cons (je_var 0 rfl) (ja_cons (je_var 1 rfl) (ja_cons (je_add (je_mulL (je_div (je_var 4 rfl) je_int (by decide +kernel)) je_int (.inr (by decide))) (je_mod (je_var 4 rfl) je_int (by decide +kernel))) ja_nil))) perm0 (fun _ _ h => h))) (fun ρ' T' h => ?_)
    obtain ⟨rfl, rfl⟩ := h
    refine ⟨_, _, _, _, _, rfl, (je_var 6 rfl), (je_var 8 rfl), rfl, h_ends_1, ?_⟩
    show JSs _ _ [some (Dat many), some (Dat pieces_here), some (Dat ties_here), some (Dat way), some (Dat cell), some (Ref p_made), some (Ref p_ends), none, some (Dat re), none, none, none, none, none] [(p_ends, (OL (ends_1 : (List Anyv)))), (p_made, (OL (r_copy : (List (T3 Anyv (List Anyv) Anyv)))))] _ _
    refine js_freezeAt 1 5 rfl rfl ?_
    refine js_freezeAt 0 6 rfl rfl ?_
    cases hm
    exact js_last (js_retE (je_list3 (ja_cons (je_ofI (je_var 0 rfl)) (ja_cons (je_var 5 rfl) (ja_cons (je_var 6 rfl) ja_nil)))) (TEnt.refl _) ⟨rfl, rfl⟩)
  replace hm := oF hc_4 hm
  obtain ⟨re_1, h_re_1, hm⟩ := obind hm
  refine js_set 8 nd (je_mod' h_re_1 (je_var 4 rfl) (je_lenL rfl t_len (je_var 5 rfl) (rdl_own 1 rfl))) ?_
  obtain ⟨qu, h_qu, hm⟩ := obind hm
  refine js_set 9 nd (je_div' h_qu (je_var 4 rfl) (je_lenL rfl t_len (je_var 5 rfl) (rdl_own 1 rfl))) ?_
  obtain ⟨it__1, h_it__1, hm⟩ := obind hm
  refine js_step (js_asg (je_ixL (je_var 5 rfl) (rdl_own 1 rfl) (je_var 8 rfl) h_it__1) (jg_tup3 rfl (jgs_cons (jg_name 10 nd) (jgs_cons (jg_name 11 nd) (jgs_cons (jg_name 12 nd) jgs_nil)))) ⟨rfl, rfl⟩) ?_
  obtain ⟨z_1, hj_1, hm⟩ := obind hm
  refine js_ifj (Γ' := [some (Dat many), some (Dat pieces_here), some (Dat ties_here), some (Dat way), some (Dat cell), some (Ref p_made), some (Ref p_ends), none, some (Dat re_1), some (Dat qu), some (Dat z_1), some (Dat it__1.b), some (Dat it__1.c), none]) (T' := [(p_ends, (OL ((emb ties_here : (List Anyv)) : (List Anyv)))), (p_made, (OL (r_copy : (List (T3 Anyv (List Anyv) Anyv)))))]) (jt_c (jc_eqS (je_var 3 rfl) je_int)) (fun hc_5 => ?_) (fun hc_5 => ?_) ?_
  · replace hj_1 := oT hc_5 hj_1
    obtain ⟨last, e_last, hj_1⟩ := obind hj_1
    refine js_set 13 nd (je_eq (je_ofI (je_var 0 rfl)) (Option.some.inj e_last)) ?_
    obtain ⟨z_2, hj_2, hj_1⟩ := obind hj_1
    refine js_ifj (Γ' := [some (Dat many), some (Dat pieces_here), some (Dat ties_here), some (Dat way), some (Dat cell), some (Ref p_made), some (Ref p_ends), none, some (Dat re_1), some (Dat qu), some (Dat it__1.a), some (Dat it__1.b), some (Dat it__1.c), some (Dat z_2)]) (T' := [(p_ends, (OL ((emb ties_here : (List Anyv)) : (List Anyv)))), (p_made, (OL (r_copy : (List (T3 Anyv (List Anyv) Anyv)))))]) (jt_c (jc_gt (je_var 8 rfl) je_int)) (fun hc_6 => ?_) (fun hc_6 => ?_) ?_
    · replace hj_2 := oT hc_6 hj_2
      obtain ⟨it__2, h_it__2, hj_2⟩ := obind hj_2
      refine js_set 13 nd (je_ix3a (je_ixL (je_var 5 rfl) (rdl_own 1 rfl) (je_sub (je_var 8 rfl) je_int) h_it__2) je_int) ?_
      cases hj_2
      exact js_nilE (TEnt.refl _) ⟨(.keep (.keep (.keep (.keep (.keep (.keep (.keep (.drop (.keep (.keep (.keep (.keep (.keep (.keep Wk.nil)))))))))))))), rfl⟩
    · replace hj_2 := oF hc_6 hj_2
      cases hj_2
      exact js_nilE (TEnt.refl _) ⟨(.keep (.keep (.keep (.keep (.keep (.keep (.keep (.drop (.keep (.keep (.keep (.keep (.keep (.keep Wk.nil)))))))))))))), rfl⟩
    obtain ⟨r_wrong_knot, h_r_wrong_knot, hj_1⟩ := obind hj_1
    refine js_set 10 nd (je_callM (z_2, many, qu) (by exact h_r_wrong_knot) c_l_wrong_knot (hr.mono (by decide)) rfl (ja_cons (je_var 13 rfl) (ja_cons (je_var 0 rfl) (ja_cons (je_var 9 rfl) ja_nil))) perm0 (fun _ _ h => h)) ?_
    cases hj_1
    exact js_nilE (TEnt.refl _) ⟨(.keep (.keep (.keep (.keep (.keep (.keep (.keep (.drop (.keep (.keep (.keep (.keep (.keep (.drop Wk.nil)))))))))))))), rfl⟩
  · replace hj_1 := oF hc_5 hj_1
    cases hj_1
    exact js_nilE (TEnt.refl _) ⟨(.keep (.keep (.keep (.keep (.keep (.keep (.keep (.drop (.keep (.keep (.keep (.keep (.keep (.drop Wk.nil)))))))))))))), rfl⟩
  obtain ⟨z_3, hj_3, hm⟩ := obind hm
  refine js_ifj (Γ' := [some (Dat many), some (Dat pieces_here), some (Dat ties_here), some (Dat way), some (Dat cell), some (Ref p_made), some (Ref p_ends), none, some (Dat re_1), some (Dat qu), some (Dat z_1), some (Dat z_3), some (Dat it__1.c), none]) (T' := [(p_ends, (OL ((emb ties_here : (List Anyv)) : (List Anyv)))), (p_made, (OL (r_copy : (List (T3 Anyv (List Anyv) Anyv)))))]) (jt_c (jc_eqS (je_var 3 rfl) je_int)) (fun hc_7 => ?_) (fun hc_7 => ?_) ?_
  · replace hj_3 := oT hc_7 hj_3
    obtain ⟨r_wrong_cut, h_r_wrong_cut, hj_3⟩ := obind hj_3
    refine js_set 11 nd (je_callM (it__1.b, z_1, qu) (by exact h_r_wrong_cut) c_l_wrong_cut (hr.mono (by decide)) rfl (ja_cons (je_var 11 rfl) (ja_cons (je_var 10 rfl) (ja_cons (je_var 9 rfl) ja_nil))) perm0 (fun _ _ h => h)) ?_
    cases hj_3
    exact js_nilE (TEnt.refl _) ⟨(.keep (.keep (.keep (.keep (.keep (.keep (.keep (.drop (.keep (.keep (.keep (.keep (.keep (.drop Wk.nil)))))))))))))), rfl⟩
  · replace hj_3 := oF hc_7 hj_3
    cases hj_3
    exact js_nilE (TEnt.refl _) ⟨(.keep (.keep (.keep (.keep (.keep (.keep (.keep (.drop (.keep (.keep (.keep (.keep (.keep (.drop Wk.nil)))))))))))))), rfl⟩
  obtain ⟨z_4, hj_4, hm⟩ := obind hm
  refine js_ifj (Γ' := [some (Dat many), some (Dat pieces_here), some (Dat ties_here), some (Dat way), some (Dat cell), some (Ref p_made), some (Ref p_ends), none, some (Dat re_1), some (Dat qu), some (Dat z_1), some (Dat z_3), some (Dat z_4), none]) (T' := [(p_ends, (OL ((emb ties_here : (List Anyv)) : (List Anyv)))), (p_made, (OL (r_copy : (List (T3 Anyv (List Anyv) Anyv)))))]) (jt_c (jc_eqS (je_var 3 rfl) je_int)) (fun hc_8 => ?_) (fun hc_8 => ?_) ?_
  · replace hj_4 := oT hc_8 hj_4
    obtain ⟨far_4, e_far_4, hj_4⟩ := obind hj_4
    refine js_set 7 nd (je_eq (je_ofI (je_mod (je_div (je_var 9 rfl) je_int (by decide +kernel)) (je_eq (je_pow je_int je_int (by decide)) (by decide +kernel)) (by decide +kernel))) (Option.some.inj e_far_4)) ?_
    obtain ⟨av_2, h_av_2, hj_4⟩ := obind hj_4
    obtain ⟨sh, h_sh, hj_4⟩ := obind hj_4
    obtain ⟨sh_1, h_sh_1, hj_4⟩ := obind hj_4
    obtain ⟨av_3, h_av_3, hj_4⟩ := obind hj_4
    obtain ⟨av_4, h_av_4, hj_4⟩ := obind hj_4
    obtain ⟨r_no_number_1, h_r_no_number_1, hj_4⟩ := obind hj_4
    obtain ⟨av_5, h_av_5, hj_4⟩ := obind hj_4
    obtain ⟨sh_2, h_sh_2, hj_4⟩ := obind hj_4
    obtain ⟨sh_3, h_sh_3, hj_4⟩ := obind hj_4
    obtain ⟨av_6, h_av_6, hj_4⟩ := obind hj_4
    obtain ⟨av_7, h_av_7, hj_4⟩ := obind hj_4
    obtain ⟨r_no_number_2, h_r_no_number_2, hj_4⟩ := obind hj_4
    obtain ⟨it__3, h_it__3, hj_4⟩ := obind hj_4
    refine js_set 12 nd (je_ixL (je_listF (xs := [(Anyv.i ((-(1 : Int)) - av_5)), (Anyv.i (sh_3 + av_6)), r_no_number_2, (Anyv.b false)]) (ja_cons (je_ofI (je_sub (je_neg je_int) (je_anI h_av_5 (je_var 7 rfl)))) (ja_cons (je_ofI (je_add (je_shl' h_sh_3 je_int (je_shl' h_sh_2 je_int (je_lenL rfl t_len (je_var 11 rfl) rdl_dat))) (je_anI h_av_6 (je_var 7 rfl)))) (ja_cons (je_callM av_7 (by exact h_r_no_number_2) c_l_no_number (hr.mono (by decide)) rfl (ja_cons (je_anI h_av_7 (je_var 7 rfl)) ja_nil) perm0 (fun _ _ h => h)) (ja_cons (je_ofB je_bl) ja_nil)))) (by show 4 ≤ sizeLine; decide)) rdl_dat (je_mod (je_var 9 rfl) je_int (by decide +kernel)) h_it__3) ?_
    cases hj_4
    exact js_nilE (TEnt.refl _) ⟨(.keep (.keep (.keep (.keep (.keep (.keep (.keep (.drop (.keep (.keep (.keep (.keep (.keep (.drop Wk.nil)))))))))))))), rfl⟩
  · replace hj_4 := oF hc_8 hj_4
    cases hj_4
    exact js_nilE (TEnt.refl _) ⟨(.keep (.keep (.keep (.keep (.keep (.keep (.keep (.drop (.keep (.keep (.keep (.keep (.keep (.drop Wk.nil)))))))))))))), rfl⟩
  obtain ⟨made_1, h_made_1, hm⟩ := obind hm
  refine js_lput (hw := rfl) (B := (T3 Anyv (List Anyv) Anyv)) 1 (jx_of (je_tup3 (je_var 10 rfl) (je_var 11 rfl) (je_var 12 rfl))) (fun ρ' T' h => ?_)
  obtain ⟨rfl, rfl⟩ := h
  refine ⟨_, _, _, _, _, rfl, (je_var 5 rfl), (je_var 8 rfl), rfl, h_made_1, ?_⟩
  show JSs _ _ [some (Dat many), some (Dat pieces_here), some (Dat ties_here), some (Dat way), some (Dat cell), some (Ref p_made), some (Ref p_ends), none, some (Dat re_1), some (Dat qu), some (Dat z_1), some (Dat z_3), some (Dat z_4), none] [(p_ends, (OL ((emb ties_here : (List Anyv)) : (List Anyv)))), (p_made, (OL (made_1 : (List (T3 Anyv (List Anyv) Anyv)))))] _ _
  refine js_freezeAt 1 5 rfl rfl ?_
  refine js_freezeAt 0 6 rfl rfl ?_
  cases hm
  exact js_last (js_retE (je_list3 (ja_cons (je_ofI (je_var 0 rfl)) (ja_cons (je_var 5 rfl) (ja_cons (je_var 6 rfl) ja_nil)))) (TEnt.refl _) ⟨rfl, rfl⟩)
abbrev s_l_refused : Stmt := top 36
def m_l_refused (many : Anyv) (pieces_here : (List (T3 Anyv (List Anyv) Anyv))) (ties_here : (List Anyv)) : Option Bool :=
  (xbind (m_Board___init___x many pieces_here ties_here) (fun cx cy => (if (decide (cx = Xc.NoBoard)) = true then ((xbind (m_Board___init___x many pieces_here ties_here) (fun cx_1 cy_1 => ((some ((decide (cx_1 = Xc.NoBoard)) && true)).bind fun alone => if (decide (cx_1 = Xc.NoCut) || decide (cx_1 = Xc.NoGoal) || decide (cx_1 = Xc.NoKnot) || decide (cx_1 = Xc.NoLine) || decide (cx_1 = Xc.NoMatch) || decide (cx_1 = Xc.NoName) || decide (cx_1 = Xc.NoSize) || decide (cx_1 = Xc.NoText) || decide (cx_1 = Xc.NoTie)) = true then (some (true && false)) else (some (true && alone)))) fun r_Board_1 => some (true && false))) else (none))) fun r_Board => (xbind (m_Board___init___x many pieces_here ties_here) (fun cx_2 cy_2 => ((some ((decide (cx_2 = Xc.NoBoard)) && true)).bind fun alone_1 => if (decide (cx_2 = Xc.NoCut) || decide (cx_2 = Xc.NoGoal) || decide (cx_2 = Xc.NoKnot) || decide (cx_2 = Xc.NoLine) || decide (cx_2 = Xc.NoMatch) || decide (cx_2 = Xc.NoName) || decide (cx_2 = Xc.NoSize) || decide (cx_2 = Xc.NoText) || decide (cx_2 = Xc.NoTie)) = true then (some (false && false)) else (some (false && alone_1)))) fun r_Board_2 => some (false && false)))
abbrev N_l_refused : List Str := ["_law_many", "_law_pieces_here", "_law_ties_here", "_law_refused_here", "_law_alone", "e"]
theorem sc_l_refused : FnScope N_l_refused ["_law_many", "_law_pieces_here", "_law_ties_here"] (defScope s_l_refused) := ⟨rfl, rfl, rfl, by decide +kernel, rfl, by decide +kernel, by decide +kernel⟩
abbrev sp_l_refused (K : PySem.W.Frag) : Sp := (mSpec (fun a : (Anyv × (List (T3 Anyv (List Anyv) Anyv)) × (List Anyv)) => [Dat a.1, Dat a.2.1, Dat a.2.2]) (fun a => []) (fun a => m_l_refused a.1 a.2.1 a.2.2) (fun a r ρ T => ρ = Dat r ∧ T = [])).sp
theorem ok_l_refused {P : Program} {w : World} {K : PySem.W.Frag} {mg : Str → Option Value} {base : Heap} {f : Addr} {fd : FuncData} (F : FnD K "_law_refused" "_law_refused" s_l_refused f fd) (t_ValueError : mg "ValueError" = none) (t_isinstance : mg "isinstance" = none) (g_NoBoard : mg "NoBoard" = some (.ref (He.ga K "NoBoard"))) (g_FoldError : mg "FoldError" = some (.ref (He.ga K "FoldError"))) (xc_ : ∀ x : Xc, ExcC K (He.ga K x.nm)) (ki_NoBoard : ∀ x : Xc, PySem.W.kitOne K (.ref (He.ga K x.nm)) (.ref (He.ga K "NoBoard")) = some (decide (x = Xc.NoBoard))) (ki_ValueError : ∀ x : Xc, PySem.W.kitOne K (.ref (He.ga K x.nm)) (.type "ValueError") = some true) (g_NoCut : mg "NoCut" = some (.ref (He.ga K "NoCut"))) (g_NoGoal : mg "NoGoal" = some (.ref (He.ga K "NoGoal"))) (g_NoKnot : mg "NoKnot" = some (.ref (He.ga K "NoKnot"))) (g_NoLine : mg "NoLine" = some (.ref (He.ga K "NoLine"))) (g_NoMatch : mg "NoMatch" = some (.ref (He.ga K "NoMatch"))) (g_NoName : mg "NoName" = some (.ref (He.ga K "NoName"))) (g_NoSize : mg "NoSize" = some (.ref (He.ga K "NoSize"))) (g_NoText : mg "NoText" = some (.ref (He.ga K "NoText"))) (g_NoTie : mg "NoTie" = some (.ref (He.ga K "NoTie"))) (kt_NoCut_NoGoal_NoKnot_NoLine_NoMatch_NoName_NoSize_NoText_NoTie : ∀ x : Xc, PySem.W.kitAny K (.ref (He.ga K x.nm)) (List.map Value.ref [He.ga K "NoCut", He.ga K "NoGoal", He.ga K "NoKnot", He.ga K "NoLine", He.ga K "NoMatch", He.ga K "NoName", He.ga K "NoSize", He.ga K "NoText", He.ga K "NoTie"]) = some (decide (x = Xc.NoCut) || decide (x = Xc.NoGoal) || decide (x = Xc.NoKnot) || decide (x = Xc.NoLine) || decide (x = Xc.NoMatch) || decide (x = Xc.NoName) || decide (x = Xc.NoSize) || decide (x = Xc.NoText) || decide (x = Xc.NoTie))) (xm_FoldError : ∀ x : Xc, PySem.W.exmOne K (.ref (He.ga K x.nm)) (.ref (He.ga K "FoldError")) = some true) (xm_NoBoard : ∀ x : Xc, PySem.W.exmOne K (.ref (He.ga K x.nm)) (.ref (He.ga K "NoBoard")) = some (decide (x = Xc.NoBoard))) (c_Board___init___3 : CalI P w K mg base 3 "Board" (He.ga K "Board") ["self", "many", "pieces", "ties"] (sp_Board___init___3 K)) : FnOk P w K mg base (L2N.CX P w) 5 f fd ["_law_many", "_law_pieces_here", "_law_ties_here"] (sp_l_refused K) := by
  have nd := sc_l_refused.nd
  refine fnM (N := N_l_refused) _ _ _ _ F sc_l_refused (fun _ => rfl) fun cdv Ar outer s H E hr a r hm => ?_
  obtain ⟨many, pieces_here, ties_here⟩ := a
  replace hm : m_l_refused many pieces_here ties_here = some r := hm
  unfold m_l_refused at hm
  show JSs _ _ [some (Dat many), some (Dat pieces_here), some (Dat ties_here), none, none, none] [] _ _
  refine js_set 3 nd je_bl ?_
  rcases xbind_of hm with ⟨cx, cy, h_r_Board, hm⟩ | ⟨r_Board, h_r_Board, hm⟩
  · refine js_tryO  rfl rfl  ⟨rfl, by decide, .inl g_NoBoard⟩ (L2N.takes_of rfl rfl rfl rfl) (fun _ _ _ tkW _ => jb_expr (jz_make (T0 := []) (T' := []) (fun pz => (pz, many, pieces_here, ties_here)) (fun _ => h_r_Board) c_Board___init___3 tkW (hr.mono (by decide)) rfl (ja_cons (je_var 0 rfl) (ja_cons (je_var 1 rfl) (ja_cons (je_var 2 rfl) ja_nil))) (fun _ => rfl) (fun _ => rfl) perm0 (fun _ => rfl)) (fun _ _ h => h.elim) (fun _ _ h => h)) (xm_NoBoard cx) (fun hb ae oe pne hze hfe => ?_) (fun hb => ?_)
    · replace hm := oT hb hm
      show JSs _ _ [some (Dat many), some (Dat pieces_here), some (Dat ties_here), some (Dat false), none, none] [] _ _
      refine js_set 3 nd je_bl ?_
      refine js_nil ?_
      show JSs _ _ [some (Dat many), some (Dat pieces_here), some (Dat ties_here), some (Dat true), none, none] [] _ _
      refine js_set 4 nd je_bl ?_
      rcases xbind_of hm with ⟨cx_1, cy_1, h_r_Board_1, hm⟩ | ⟨r_Board_1, h_r_Board_1, hm⟩
      · refine js_tryA 5 rfl rfl nd rfl rfl ⟨rfl, by decide, .inl g_FoldError⟩ (L2N.takes_of rfl rfl rfl rfl) (fun _ _ _ tkW _ => jb_expr (jz_make (T0 := []) (T' := []) (fun pz => (pz, many, pieces_here, ties_here)) (fun _ => h_r_Board_1) c_Board___init___3 tkW (hr.mono (by decide)) rfl (ja_cons (je_var 0 rfl) (ja_cons (je_var 1 rfl) (ja_cons (je_var 2 rfl) ja_nil))) (fun _ => rfl) (fun _ => rfl) perm0 (fun _ => rfl)) (fun _ _ h => h.elim) (fun _ _ h => h)) (xm_FoldError cx_1) (fun _ _ h => h) (fun _ _ h => h) (fun hb_1 ae_1 oe_1 pne_1 hze_1 hfe_1 => ?_) (fun hb_1 => ?_)
        · show JSs _ _ [some (Dat many), some (Dat pieces_here), some (Dat ties_here), some (Dat true), some (Dat false), some (Ref ae_1)] [] _ _
          obtain ⟨alone, e_alone, hm⟩ := obind hm
          refine js_set 4 nd (je_eq (je_andV (je_isE List.mem_cons_self (xc_ cx_1) hze_1 hfe_1 rfl t_isinstance (je_var 5 rfl) (je_cls rfl g_NoBoard) (fun _ h => h) (ki_NoBoard cx_1)) fun _ => (je_and1 (je_isE List.mem_cons_self (xc_ cx_1) hze_1 hfe_1 rfl t_isinstance (je_var 5 rfl) (je_clsB rfl t_ValueError rfl) (fun _ h => h) (ki_ValueError cx_1)))) (Option.some.inj e_alone)) ?_
          refine js_last (js_if (jt_val (je_isET (Ds := [He.ga K "NoCut", He.ga K "NoGoal", He.ga K "NoKnot", He.ga K "NoLine", He.ga K "NoMatch", He.ga K "NoName", He.ga K "NoSize", He.ga K "NoText", He.ga K "NoTie"]) List.mem_cons_self (xc_ cx_1) hze_1 hfe_1 rfl t_isinstance (je_var 5 rfl) (je_tupV (ja_cons (je_cls rfl g_NoCut) (ja_cons (je_cls rfl g_NoGoal) (ja_cons (je_cls rfl g_NoKnot) (ja_cons (je_cls rfl g_NoLine) (ja_cons (je_cls rfl g_NoMatch) (ja_cons (je_cls rfl g_NoName) (ja_cons (je_cls rfl g_NoSize) (ja_cons (je_cls rfl g_NoText) (ja_cons (je_cls rfl g_NoTie) ja_nil))))))))) (by show 9 ≤ sizeLine; decide)) (kt_NoCut_NoGoal_NoKnot_NoLine_NoMatch_NoName_NoSize_NoText_NoTie cx_1))) (fun hc => ?_) (fun hc => ?_))
          · replace hm := oT hc hm
            refine js_set 4 nd je_bl ?_
            refine js_nil ?_
            show JSs _ _ [some (Dat many), some (Dat pieces_here), some (Dat ties_here), some (Dat true), some (Dat false), none] [] _ _
            cases hm
            exact js_last (js_retE (je_andV (je_var 3 rfl) fun _ => (je_and1 (je_var 4 rfl))) (TEnt.refl _) ⟨rfl, rfl⟩)
          · replace hm := oF hc hm
            refine js_nil ?_
            show JSs _ _ [some (Dat many), some (Dat pieces_here), some (Dat ties_here), some (Dat true), some (Dat alone), none] [] _ _
            cases hm
            exact js_last (js_retE (je_andV (je_var 3 rfl) fun _ => (je_and1 (je_var 4 rfl))) (TEnt.refl _) ⟨rfl, rfl⟩)
        · exact nomatch hb_1
      refine js_tryKA 5 rfl rfl nd rfl rfl ⟨rfl, by decide, .inl g_FoldError⟩ (L2N.takes_of rfl rfl rfl rfl) (fun _ _ _ tkW _ => jb_expr (jx_make (fun pz => (pz, many, pieces_here, ties_here)) (fun _ => (okO_of h_r_Board_1)) (calI_ok c_Board___init___3) (hr.mono (by decide)) rfl (ja_cons (je_var 0 rfl) (ja_cons (je_var 1 rfl) (ja_cons (je_var 2 rfl) ja_nil))) (fun _ => rfl) (fun _ => rfl) perm0 (fun _ _ _ h => h.1)) (fun ρ0 T0 h0 => ?_) (fun _ _ z => z.elim))
      obtain ⟨p_board_1, _, ⟨_, rfl⟩, rfl, rfl⟩ := h0
      show JSs _ _ [some (Dat many), some (Dat pieces_here), some (Dat ties_here), some (Dat true), some (Dat false), none] [(p_board_1, (O_Board K r_Board_1))] _ _
      cases hm
      exact js_last (js_retE (je_andV (je_var 3 rfl) fun _ => (je_and1 (je_var 4 rfl))) (TEnt.nil _) ⟨rfl, rfl⟩)
    · replace hm := oF hb hm
      cases hm
  refine js_tryKO  rfl rfl  ⟨rfl, by decide, .inl g_NoBoard⟩ (L2N.takes_of rfl rfl rfl rfl) (fun _ _ _ tkW _ => jb_expr (jx_make (fun pz => (pz, many, pieces_here, ties_here)) (fun _ => (okO_of h_r_Board)) (calI_ok c_Board___init___3) (hr.mono (by decide)) rfl (ja_cons (je_var 0 rfl) (ja_cons (je_var 1 rfl) (ja_cons (je_var 2 rfl) ja_nil))) (fun _ => rfl) (fun _ => rfl) perm0 (fun _ _ _ h => h.1)) (fun ρ0 T0 h0 => ?_) (fun _ _ z => z.elim))
  obtain ⟨p_board, _, ⟨_, rfl⟩, rfl, rfl⟩ := h0
  show JSs _ _ [some (Dat many), some (Dat pieces_here), some (Dat ties_here), some (Dat false), none, none] [(p_board, (O_Board K r_Board))] _ _
  refine js_set 4 nd je_bl ?_
  rcases xbind_of hm with ⟨cx_2, cy_2, h_r_Board_2, hm⟩ | ⟨r_Board_2, h_r_Board_2, hm⟩
  · refine js_tryA 5 rfl rfl nd rfl rfl ⟨rfl, by decide, .inl g_FoldError⟩ (L2N.takes_of rfl rfl rfl rfl) (fun _ _ _ tkW _ => jb_expr (jz_make (T0 := []) (T' := []) (fun pz => (pz, many, pieces_here, ties_here)) (fun _ => h_r_Board_2) c_Board___init___3 tkW (hr.mono (by decide)) rfl (ja_cons (je_var 0 rfl) (ja_cons (je_var 1 rfl) (ja_cons (je_var 2 rfl) ja_nil))) (fun _ => rfl) (fun _ => rfl) perm0 (fun _ => rfl)) (fun _ _ h => h.elim) (fun _ _ h => h)) (xm_FoldError cx_2) (fun _ _ h => h) (fun _ _ h => h) (fun hb_2 ae_2 oe_2 pne_2 hze_2 hfe_2 => ?_) (fun hb_2 => ?_)
    · show JSs _ _ [some (Dat many), some (Dat pieces_here), some (Dat ties_here), some (Dat false), some (Dat false), some (Ref ae_2)] [(p_board, (O_Board K r_Board))] _ _
      obtain ⟨alone_1, e_alone_1, hm⟩ := obind hm
      refine js_set 4 nd (je_eq (je_andV (je_isE List.mem_cons_self (xc_ cx_2) hze_2 hfe_2 rfl t_isinstance (je_var 5 rfl) (je_cls rfl g_NoBoard) (fun _ h => h) (ki_NoBoard cx_2)) fun _ => (je_and1 (je_isE List.mem_cons_self (xc_ cx_2) hze_2 hfe_2 rfl t_isinstance (je_var 5 rfl) (je_clsB rfl t_ValueError rfl) (fun _ h => h) (ki_ValueError cx_2)))) (Option.some.inj e_alone_1)) ?_
      refine js_last (js_if (jt_val (je_isET (Ds := [He.ga K "NoCut", He.ga K "NoGoal", He.ga K "NoKnot", He.ga K "NoLine", He.ga K "NoMatch", He.ga K "NoName", He.ga K "NoSize", He.ga K "NoText", He.ga K "NoTie"]) List.mem_cons_self (xc_ cx_2) hze_2 hfe_2 rfl t_isinstance (je_var 5 rfl) (je_tupV (ja_cons (je_cls rfl g_NoCut) (ja_cons (je_cls rfl g_NoGoal) (ja_cons (je_cls rfl g_NoKnot) (ja_cons (je_cls rfl g_NoLine) (ja_cons (je_cls rfl g_NoMatch) (ja_cons (je_cls rfl g_NoName) (ja_cons (je_cls rfl g_NoSize) (ja_cons (je_cls rfl g_NoText) (ja_cons (je_cls rfl g_NoTie) ja_nil))))))))) (by show 9 ≤ sizeLine; decide)) (kt_NoCut_NoGoal_NoKnot_NoLine_NoMatch_NoName_NoSize_NoText_NoTie cx_2))) (fun hc_1 => ?_) (fun hc_1 => ?_))
      · replace hm := oT hc_1 hm
        refine js_set 4 nd je_bl ?_
        refine js_nil ?_
        show JSs _ _ [some (Dat many), some (Dat pieces_here), some (Dat ties_here), some (Dat false), some (Dat false), none] [(p_board, (O_Board K r_Board))] _ _
        cases hm
        exact js_last (js_retE (je_andV (je_var 3 rfl) fun _ => (je_and1 (je_var 4 rfl))) (TEnt.nil _) ⟨rfl, rfl⟩)
      · replace hm := oF hc_1 hm
        refine js_nil ?_
        show JSs _ _ [some (Dat many), some (Dat pieces_here), some (Dat ties_here), some (Dat false), some (Dat alone_1), none] [(p_board, (O_Board K r_Board))] _ _
        cases hm
        exact js_last (js_retE (je_andV (je_var 3 rfl) fun _ => (je_and1 (je_var 4 rfl))) (TEnt.nil _) ⟨rfl, rfl⟩)
    · exact nomatch hb_2
  refine js_tryKA 5 rfl rfl nd rfl rfl ⟨rfl, by decide, .inl g_FoldError⟩ (L2N.takes_of rfl rfl rfl rfl) (fun _ _ _ tkW _ => jb_expr (jx_make (fun pz => (pz, many, pieces_here, ties_here)) (fun _ => (okO_of h_r_Board_2)) (calI_ok c_Board___init___3) (hr.mono (by decide)) rfl (ja_cons (je_var 0 rfl) (ja_cons (je_var 1 rfl) (ja_cons (je_var 2 rfl) ja_nil))) (fun _ => rfl) (fun _ => rfl) perm0 (fun _ _ _ h => h.1)) (fun ρ0 T0 h0 => ?_) (fun _ _ z => z.elim))
  obtain ⟨p_board_2, _, ⟨_, rfl⟩, rfl, rfl⟩ := h0
  show JSs _ _ [some (Dat many), some (Dat pieces_here), some (Dat ties_here), some (Dat false), some (Dat false), none] [(p_board_2, (O_Board K r_Board_2)), (p_board, (O_Board K r_Board))] _ _
  cases hm
  exact js_last (js_retE (je_andV (je_var 3 rfl) fun _ => (je_and1 (je_var 4 rfl))) (TEnt.nil _) ⟨rfl, rfl⟩)
abbrev s_law : Stmt := top 37
def m_law_b1  (st : (List (T3 Int (List Int) Int))) (x : (T3 Int (List Int) Int)) : Option (List (T3 Int (List Int) Int)) :=
  some (st ++ [(T3.mk x.a ([] : (List Int)) x.c)])
def m_law (script : (List Int)) : Option Bool :=
  ((m_l_cell_at script (0 : Int)).bind fun r_cell_at => (some ((1 : Int) + (r_cell_at % (10 : Int)))).bind fun many => ((m_l_pieces (cutL script (some (5 : Int)) (some (45 : Int))) many).bind fun r_pieces => ((m_l_cell_at script (1 : Int)).bind fun r_cell_at_1 => (m_l_ties r_cell_at_1 many r_pieces).bind fun r_ties => ((m_l_cell_at script (2 : Int)).bind fun r_cell_at_2 => (some (r_cell_at_2 % (8 : Int))).bind fun way => ((if ((decide ((3 : Int) < way)) && (decide ((r_pieces.length : Int) = (0 : Int)))) = true then (((some (way - (4 : Int))).bind fun way_2 => some way_2)) else (some way)).bind fun z => ((m_l_copy r_pieces).bind fun r_copy => ((m_Board___init__ many r_copy r_ties).bind fun r_Board => if (!decide ((Two.mk r_copy r_ties) = (Two.mk r_pieces r_ties))) = true then (some false) else ((foldO m_law_b1 ([] : (List (T3 Int (List Int) Int))) r_copy).bind fun sn => ((m_l_told r_Board many r_pieces r_ties).bind fun r_told => ((if (!r_told) = true then some true else ((m_l_told r_Board many r_pieces r_ties).bind fun r_told_1 => some (!r_told_1)))).bind fun tv => if tv = true then (some false) else if (decide ((0 : Int) < z) && decide (z < (7 : Int))) = true then (((m_l_cell_at script (3 : Int)).bind fun r_cell_at_3 => (m_l_spoilt many r_pieces r_ties z r_cell_at_3).bind fun r_spoilt => ((m_l_refused r_spoilt.a r_spoilt.b r_spoilt.c).bind fun r_refused => if (!r_refused) = true then (some false) else ((m_l_copy r_pieces).bind fun r_copy_1 => (m_Board___init__ many r_copy_1 r_ties).bind fun r_Board_1 => (m_l_told r_Board_1 many r_pieces r_ties).bind fun r_told_2 => some r_told_2)))) else (((m_l_copy r_pieces).bind fun r_copy_2 => (m_Board___init__ many r_copy_2 r_ties).bind fun r_Board_2 => (m_l_told r_Board_2 many r_pieces r_ties).bind fun r_told_3 => some r_told_3)))))))))))
abbrev N_law : List Str := ["_law_script", "_law_many", "_law_pieces_here", "_law_ties_here", "_law_way", "_law_handed", "_law_board", "_law_piece_here", "_law_wrong"]
theorem sc_law : FnScope N_law ["_law_script"] (defScope s_law) := ⟨rfl, rfl, rfl, by decide +kernel, rfl, by decide +kernel, by decide +kernel⟩
abbrev sp_law (K : PySem.W.Frag) : Sp := (mSpec (fun a : (List Int) => [Scr K a]) (fun a => []) (fun a => m_law a) (fun a r ρ T => ρ = Dat r ∧ T = [])).sp
theorem ok_law {P : Program} {w : World} {K : PySem.W.Frag} {mg : Str → Option Value} {base : Heap} {f : Addr} {fd : FuncData} (F : FnD K "law" "law" s_law f fd) (t_len : mg "len" = none) (t_list : mg "list" = none) (c_l_cell_at : Cal P w K mg base 1 "_law_cell_at" ["_law_script", "_law_k"] (sp_l_cell_at K)) (c_l_pieces : Cal P w K mg base 2 "_law_pieces" ["_law_cells", "_law_many"] (sp_l_pieces K)) (c_l_ties : Cal P w K mg base 1 "_law_ties" ["_law_cell", "_law_many", "_law_pieces_here"] (sp_l_ties K)) (c_l_copy : Cal P w K mg base 1 "_law_copy" ["_law_pieces_here"] (sp_l_copy K)) (c_Board___init__ : CalI P w K mg base 3 "Board" (He.ga K "Board") ["self", "many", "pieces", "ties"] (sp_Board___init__ K)) (c_l_told : Cal P w K mg base 2 "_law_told" ["_law_board", "_law_many", "_law_pieces_here", "_law_ties_here"] (sp_l_told K)) (c_l_spoilt : Cal P w K mg base 3 "_law_spoilt" ["_law_many", "_law_pieces_here", "_law_ties_here", "_law_way", "_law_cell"] (sp_l_spoilt K)) (c_l_refused : Cal P w K mg base 5 "_law_refused" ["_law_many", "_law_pieces_here", "_law_ties_here"] (sp_l_refused K)) (c_l_copy_2 : Cal P w K mg base 1 "_law_copy" ["_law_pieces_here"] (sp_l_copy_2 K)) (c_Board___init___2 : CalI P w K mg base 3 "Board" (He.ga K "Board") ["self", "many", "pieces", "ties"] (sp_Board___init___2 K)) : FnOk P w K mg base (L2N.CX P w) 6 f fd ["_law_script"] (sp_law K) := by
  have nd := sc_law.nd
  refine fnM (N := N_law) _ _ _ _ F sc_law (fun _ => rfl) fun cdv Ar outer s H E hr a r hm => ?_
  revert hm; revert a; intro script hm
  replace hm : m_law script = some r := hm
  unfold m_law at hm
  show JSs _ _ [some (Scr K script), none, none, none, none, none, none, none, none] [] _ _
  obtain ⟨r_cell_at, h_r_cell_at, hm⟩ := obind hm
  obtain ⟨many, e_many, hm⟩ := obind hm
  refine js_set 1 nd (je_eq (je_add je_int (je_mod (je_callM (script, (0 : Int)) (by exact h_r_cell_at) c_l_cell_at (hr.mono (by decide)) rfl (ja_cons (je_var 0 rfl) (ja_cons je_int ja_nil)) perm0 (fun _ _ h => h)) je_int (by decide +kernel))) (Option.some.inj e_many)) ?_
  obtain ⟨r_pieces, h_r_pieces, hm⟩ := obind hm
  refine js_set 2 nd (je_callM ((cutL script (some (5 : Int)) (some (45 : Int))), many) (by exact h_r_pieces) c_l_pieces (hr.mono (by decide)) rfl (ja_cons (je_slL (je_var 0 rfl) rdl_scr (jo_of je_int) (jo_of je_int)) (ja_cons (je_var 1 rfl) ja_nil)) perm0 (fun _ _ h => h)) ?_
  obtain ⟨r_cell_at_1, h_r_cell_at_1, hm⟩ := obind hm
  obtain ⟨r_ties, h_r_ties, hm⟩ := obind hm
  refine js_set 3 nd (je_callM (r_cell_at_1, many, r_pieces) (by exact h_r_ties) c_l_ties (hr.mono (by decide)) rfl (ja_cons (je_callM (script, (1 : Int)) (by exact h_r_cell_at_1) c_l_cell_at (hr.mono (by decide)) rfl (ja_cons (je_var 0 rfl) (ja_cons je_int ja_nil)) perm0 (fun _ _ h => h)) (ja_cons (je_var 1 rfl) (ja_cons (je_var 2 rfl) ja_nil))) perm0 (fun _ _ h => h)) ?_
  obtain ⟨r_cell_at_2, h_r_cell_at_2, hm⟩ := obind hm
  obtain ⟨way, e_way, hm⟩ := obind hm
  refine js_set 4 nd (je_eq (je_mod (je_callM (script, (2 : Int)) (by exact h_r_cell_at_2) c_l_cell_at (hr.mono (by decide)) rfl (ja_cons (je_var 0 rfl) (ja_cons je_int ja_nil)) perm0 (fun _ _ h => h)) je_int (by decide +kernel)) (Option.some.inj e_way)) ?_
  obtain ⟨z, hj, hm⟩ := obind hm
  refine js_ifj (Γ' := [some (Scr K script), some (Dat many), some (Dat r_pieces), some (Dat r_ties), some (Dat z), none, none, none, none]) (T' := []) (JTW.jt (jw_and (jt_c (jc_gt (je_var 4 rfl) je_int)) fun _ => (jw_and1 (jt_c (jc_eqS (je_lenL rfl t_len (je_var 2 rfl) rdl_dat) je_int))))) (fun hc => ?_) (fun hc => ?_) ?_
  · replace hj := oT hc hj
    obtain ⟨way_2, e_way_2, hj⟩ := obind hj
    refine js_set 4 nd (je_eq (je_sub (je_var 4 rfl) je_int) (Option.some.inj e_way_2)) ?_
    cases hj
    exact js_nilE (TEnt.refl _) ⟨(.keep (.keep (.keep (.keep (.keep (.drop (.drop (.drop (.drop Wk.nil))))))))), rfl⟩
  · replace hj := oF hc hj
    cases hj
    exact js_nilE (TEnt.refl _) ⟨(.keep (.keep (.keep (.keep (.keep (.drop (.drop (.drop (.drop Wk.nil))))))))), rfl⟩
  obtain ⟨r_copy, h_r_copy, hm⟩ := obind hm
  refine js_setK (xr := nox) 5 nd ?_ (fun _ _ h => h) (fun _ _ z => z.elim)
  refine jx_listR 2 (by show 2 ≤ sizeLine; decide) ?_
  refine jax_cons ?_
  refine jx_le (jx_callM r_pieces (by exact h_r_copy) c_l_copy (hr.mono (by decide)) rfl (ja_cons (je_var 2 rfl) ja_nil) perm0) (fun ρ' T' h => ?_)
  obtain ⟨_, ⟨p_law_n, rfl, rfl⟩, rfl⟩ := h
  refine jax_cons ?_
  refine jx_le (jf_listOf rfl t_list (je_var 3 rfl) rdl_dat) (fun ρ' T' h => ?_)
  obtain ⟨p_new, rfl, rfl⟩ := h
  refine jax_nil ⟨([RefA.mk p_law_n, RefA.mk p_new] : List RefA), rfl, rfl, ?_⟩
  show JSs _ _ [some (Scr K script), some (Dat many), some (Dat r_pieces), some (Dat r_ties), some (Dat z), some (Dat ([RefA.mk p_law_n, RefA.mk p_new] : List RefA)), none, none, none] [(p_new, (OL (r_ties : (List Int)))), (p_law_n, (OP (r_copy : (List (T3 Int (List Int) Int)))))] _ _
  obtain ⟨r_Board, h_r_Board, hm⟩ := obind hm
  refine js_setK 6 nd (jx_make (fun pz => (pz, many, p_law_n, r_copy, p_new, r_ties)) (fun _ => h_r_Board) c_Board___init__ (hr.mono (by decide)) rfl (ja_cons (je_var 1 rfl) (ja_cons (je_ixR (je_var 5 rfl) rfl je_int) (ja_cons (je_ixR (je_var 5 rfl) rfl je_int) ja_nil))) (fun _ => rfl) (fun _ => rfl) (perm2 1 0 rfl rfl) (fun _ _ _ h => h.1)) (fun ρ' T' h => ?_) (fun _ _ z => z.elim)
  obtain ⟨p_board, _, ⟨_, rfl⟩, rfl, rfl⟩ := h
  show JSs _ _ [some (Scr K script), some (Dat many), some (Dat r_pieces), some (Dat r_ties), some (Dat z), some (Dat ([RefA.mk p_law_n, RefA.mk p_new] : List RefA)), some (Ref p_board), none, none] [(p_board, (O_Board K r_Board)), (p_law_n, (OP (r_copy : (List (T3 Int (List Int) Int))))), (p_new, (OL (r_ties : (List Int))))] _ _
  refine js_ifr (jt_c (jc_neD (units_of hr) (je_var 5 rfl) (dpv_refl2 (dpv_deep 1 rfl) (dpv_own 2 rfl)) (je_two2 (ja_cons (je_var 2 rfl) (ja_cons (je_var 3 rfl) ja_nil))) dpv_dat)) (fun hc_1 => ?_) (fun hc_1 => ?_)
  · replace hm := oT hc_1 hm
    cases hm
    exact js_last (js_retE je_bl (TEnt.nil _) ⟨rfl, rfl⟩)
  replace hm := oF hc_1 hm
  obtain ⟨sn, hl, hm⟩ := obind hm
  refine js_forPX (fun (st : (List (T3 Int (List Int) Int))) => st) 1 rfl hl (fun (st : (List (T3 Int (List Int) Int))) => [some (Scr K script), some (Dat many), some (Dat r_pieces), some (Dat r_ties), some (Dat z), some (Dat ([RefA.mk p_law_n, RefA.mk p_new] : List RefA)), some (Ref p_board), none, none]) (fun (st : (List (T3 Int (List Int) Int))) => [(p_board, (O_Board K r_Board)), (p_law_n, (OP (r_copy : (List (T3 Int (List Int) Int))))), (p_new, (OL (r_ties : (List Int))))]) (passOwn rfl) rfl (fun _ => (je_ixR (je_var 5 rfl) rfl je_int)) (.keep (.keep (.keep (.keep (.keep (.keep (.keep (.drop (.drop Wk.nil))))))))) rfl rfl (fun _ => by show 1 < 3; decide) (fun p_it Sh Bh ih x st rr ⟨_, hh, hxh⟩ hf => ⟨_, _, (jg_name 7 nd), ?_⟩) ?_
  · replace hf : m_law_b1 st x = some rr := hf
    unfold m_law_b1 at hf
    show JSs _ _ [some (Scr K script), some (Dat many), some (Dat r_pieces), some (Dat r_ties), some (Dat z), some (Dat ([RefA.mk p_law_n, RefA.mk p_new] : List RefA)), some (Ref p_board), some (TupV [(Dat x.a), (Ref p_it), (Dat x.c)]), none] [(p_it, (OL (x.b : (List Int)))), (p_board, (O_Board K r_Board)), (p_law_n, (OH Sh Bh)), (p_new, (OL (r_ties : (List Int))))] _ _
    refine js_clr 0 rfl (je_ixV (i := 1) (je_var 7 rfl) je_int rfl) ?_
    cases hf
    exact js_nilE (TEnt.refl _) ⟨(.keep (.keep (.keep (.keep (.keep (.keep (.keep (.drop (.drop Wk.nil))))))))), _, rfl, rfl⟩
  show JSs _ _ [some (Scr K script), some (Dat many), some (Dat r_pieces), some (Dat r_ties), some (Dat z), some (Dat ([RefA.mk p_law_n, RefA.mk p_new] : List RefA)), some (Ref p_board), none, none] [(p_board, (O_Board K r_Board)), (p_law_n, (OP (sn : (List (T3 Int (List Int) Int))))), (p_new, (OL (r_ties : (List Int))))] _ _
  refine js_clrP (Z := (T3 Int (List Int) Int)) 1 rfl (fun _ => (je_ixR (je_var 5 rfl) rfl je_int)) ?_
  show JSs _ _ [some (Scr K script), some (Dat many), some (Dat r_pieces), some (Dat r_ties), some (Dat z), some (Dat ([RefA.mk p_law_n, RefA.mk p_new] : List RefA)), some (Ref p_board), none, none] [(p_board, (O_Board K r_Board)), (p_law_n, (OL (([] : (List (T3 Int (List Int) Int))) : (List (T3 Int (List Int) Int))))), (p_new, (OL (r_ties : (List Int))))] _ _
  refine js_clr 2 rfl (je_ixR (je_var 5 rfl) rfl je_int) ?_
  obtain ⟨r_told, h_r_told, hm⟩ := obind hm
  obtain ⟨tv, h_tv, hm⟩ := obind hm
  refine js_ifr (JTW.jt (jw_orO h_tv (jt_not (jt_val (je_callM (p_board, r_Board, many, r_pieces, r_ties) (by exact h_r_told) c_l_told (hr.mono (by decide)) rfl (ja_cons (je_var 6 rfl) (ja_cons (je_var 1 rfl) (ja_cons (je_var 2 rfl) (ja_cons (je_var 3 rfl) ja_nil)))) (perm1 0 rfl) (fun _ _ h => h)))) fun _ hz => by obtain ⟨r_told_1, h_r_told_1, hz⟩ := obind hz; cases hz; exact (jw_or1 (jt_not (jt_val (je_callM (p_board, r_Board, many, r_pieces, r_ties) (by exact h_r_told_1) c_l_told (hr.mono (by decide)) rfl (ja_cons (je_var 6 rfl) (ja_cons (je_var 1 rfl) (ja_cons (je_var 2 rfl) (ja_cons (je_var 3 rfl) ja_nil)))) (perm1 0 rfl) (fun _ _ h => h))))))) (fun hc_2 => ?_) (fun hc_2 => ?_)
  · replace hm := oT hc_2 hm
    cases hm
    exact js_last (js_retE je_bl (TEnt.nil _) ⟨rfl, rfl⟩)
  replace hm := oF hc_2 hm
  refine js_ifd (jt_chain (by exact je_int) (by exact (je_var 4 rfl)) (by exact je_int) fun _ _ _ h1 h2 h3 => pt_chain op_lt op_lt h1 h2 h3) (fun hc_3 => ?_) (fun hc_3 => ?_)
  · replace hm := oT hc_3 hm
    obtain ⟨r_cell_at_3, h_r_cell_at_3, hm⟩ := obind hm
    obtain ⟨r_spoilt, h_r_spoilt, hm⟩ := obind hm
    refine js_set 8 nd (je_callM (many, r_pieces, r_ties, z, r_cell_at_3) (by exact h_r_spoilt) c_l_spoilt (hr.mono (by decide)) rfl (ja_cons (je_var 1 rfl) (ja_cons (je_var 2 rfl) (ja_cons (je_var 3 rfl) (ja_cons (je_var 4 rfl) (ja_cons (je_callM (script, (3 : Int)) (by exact h_r_cell_at_3) c_l_cell_at (hr.mono (by decide)) rfl (ja_cons (je_var 0 rfl) (ja_cons je_int ja_nil)) perm0 (fun _ _ h => h)) ja_nil))))) perm0 (fun _ _ h => h)) ?_
    obtain ⟨r_refused, h_r_refused, hm⟩ := obind hm
    refine js_ifr (jt_not (jt_val (je_callM (r_spoilt.a, r_spoilt.b, r_spoilt.c) (by exact h_r_refused) c_l_refused (hr.mono (by decide)) rfl (ja_cons (je_ixl3a (je_var 8 rfl) je_int) (ja_cons (je_ixl3b (je_var 8 rfl) je_int) (ja_cons (je_ixl3c (je_var 8 rfl) je_int) ja_nil))) perm0 (fun _ _ h => h)))) (fun hc_4 => ?_) (fun hc_4 => ?_)
    · replace hm := oT hc_4 hm
      cases hm
      exact js_last (js_retE je_bl (TEnt.nil _) ⟨rfl, rfl⟩)
    replace hm := oF hc_4 hm
    refine js_nil ?_
    refine js_last (js_retK (xr := nox) ?_ (fun _ _ h => h) (fun _ _ z => z.elim))
    obtain ⟨r_copy_1, h_r_copy_1, hm⟩ := obind hm
    obtain ⟨r_Board_1, h_r_Board_1, hm⟩ := obind hm
    obtain ⟨r_told_2, h_r_told_2, hm⟩ := obind hm
    refine jx_callA c_l_told (hr.mono (by decide)) rfl ?_
    refine jax_cons ?_
    refine jx_le (jx_make (fun pz => (pz, many, r_copy_1, r_ties)) (fun _ => h_r_Board_1) c_Board___init___2 (hr.mono (by decide)) rfl (ja_cons (je_var 1 rfl) (ja_cons (je_callM r_pieces (by exact h_r_copy_1) c_l_copy_2 (hr.mono (by decide)) rfl (ja_cons (je_var 2 rfl) ja_nil) perm0 (fun _ _ h => h)) (ja_cons (je_jf (jf_listOf rfl t_list (je_var 3 rfl) rdl_dat)) ja_nil))) (fun _ => rfl) (fun _ => rfl) perm0 (fun _ _ _ h => h.1)) (fun ρ' T' h => ?_)
    obtain ⟨p_board_1, _, ⟨_, rfl⟩, rfl, rfl⟩ := h
    refine jax_pure (je_var 1 rfl) ?_
    refine jax_pure (je_var 2 rfl) ?_
    refine jax_pure (je_var 3 rfl) ?_
    refine jax_nil ⟨(p_board_1, r_Board_1, many, r_pieces, r_ties), _, _, rfl, h_r_told_2, (perm1 0 rfl), fun ρ' To h => ?_⟩
    obtain ⟨rfl, rfl⟩ := h
    cases hm
    exact ⟨_, (TEnt.nil _), ⟨rfl, rfl⟩⟩
  · replace hm := oF hc_3 hm
    refine js_nil ?_
    refine js_last (js_retK (xr := nox) ?_ (fun _ _ h => h) (fun _ _ z => z.elim))
    obtain ⟨r_copy_2, h_r_copy_2, hm⟩ := obind hm
    obtain ⟨r_Board_2, h_r_Board_2, hm⟩ := obind hm
    obtain ⟨r_told_3, h_r_told_3, hm⟩ := obind hm
    refine jx_callA c_l_told (hr.mono (by decide)) rfl ?_
    refine jax_cons ?_
    refine jx_le (jx_make (fun pz => (pz, many, r_copy_2, r_ties)) (fun _ => h_r_Board_2) c_Board___init___2 (hr.mono (by decide)) rfl (ja_cons (je_var 1 rfl) (ja_cons (je_callM r_pieces (by exact h_r_copy_2) c_l_copy_2 (hr.mono (by decide)) rfl (ja_cons (je_var 2 rfl) ja_nil) perm0 (fun _ _ h => h)) (ja_cons (je_jf (jf_listOf rfl t_list (je_var 3 rfl) rdl_dat)) ja_nil))) (fun _ => rfl) (fun _ => rfl) perm0 (fun _ _ _ h => h.1)) (fun ρ' T' h => ?_)
    obtain ⟨p_board_2, _, ⟨_, rfl⟩, rfl, rfl⟩ := h
    refine jax_pure (je_var 1 rfl) ?_
    refine jax_pure (je_var 2 rfl) ?_
    refine jax_pure (je_var 3 rfl) ?_
    refine jax_nil ⟨(p_board_2, r_Board_2, many, r_pieces, r_ties), _, _, rfl, h_r_told_3, (perm1 0 rfl), fun ρ' To h => ?_⟩
    obtain ⟨rfl, rfl⟩ := h
    cases hm
    exact ⟨_, (TEnt.nil _), ⟨rfl, rfl⟩⟩
/-! LT: what is lit; columns of bits. -/
section
open PySem
structure IsC (F : Nat) (f : Nat → Bool) (c : Int) : Prop where
  ex : ∃ n : Nat, c = n ∧ n < 2 ^ F ∧ ∀ j, j < F → n.testBit j = f j
section
variable {F : Nat} {f g : Nat → Bool} {c d : Int}
theorem IsC.mk' {n : Nat} (h : n < 2 ^ F) (h2 : ∀ j, j < F → n.testBit j = f j) : IsC F f n := ⟨n, rfl, h, h2⟩
theorem IsC.uniq (h : IsC F f c) (h' : IsC F f d) : c = d := by
  obtain ⟨n, rfl, h1, h2⟩ := h.ex
  obtain ⟨m, rfl, h3, h4⟩ := h'.ex
  congr 1
  apply Nat.eq_of_testBit_eq
  intro j
  by_cases hj : j < F
  · rw [h2 j hj, h4 j hj]
  · have hp : 2 ^ F ≤ 2 ^ j := Nat.pow_le_pow_right (by decide) (by omega)
    rw [Nat.testBit_lt_two_pow (by omega), Nat.testBit_lt_two_pow (by omega)]
theorem IsC.congr (h : IsC F f c) (e : ∀ j, j < F → f j = g j) : IsC F g c := by
  obtain ⟨n, rfl, h1, h2⟩ := h.ex
  exact .mk' h1 fun j hj => (h2 j hj).trans (e j hj)
theorem IsC.nn (h : IsC F f c) : 0 ≤ c := by obtain ⟨n, rfl, h1, h2⟩ := h.ex; omega
theorem IsC.lt (h : IsC F f c) : c < 2 ^ F := by obtain ⟨n, rfl, h1, h2⟩ := h.ex; exact_mod_cast h1
theorem IsC.zero : IsC F (fun _ => false) 0 := .mk' (n := 0) (Nat.two_pow_pos F) fun j _ => Nat.zero_testBit j
theorem IsC.full : IsC F (fun _ => true) (2 ^ F - 1) := by
  have h := Nat.two_pow_pos F
  have : (2 : Int) ^ F - 1 = ((2 ^ F - 1 : Nat) : Int) := by
    rw [Int.natCast_sub (by omega)]
    norm_cast
  rw [this]
  exact .mk' (by omega) fun j hj => by rw [Nat.testBit_two_pow_sub_one]; simp [hj]
theorem IsC.and (h : IsC F f c) (h' : IsC F g d) : IsC F (fun j => f j && g j) (Builtin.bitAnd c d) := by
  obtain ⟨n, rfl, h1, h2⟩ := h.ex
  obtain ⟨m, rfl, h3, h4⟩ := h'.ex
  rw [and_nat]
  exact .mk' (Nat.lt_of_le_of_lt Nat.and_le_left h1) fun j hj => by rw [Nat.testBit_and, h2 j hj, h4 j hj]
theorem IsC.or (h : IsC F f c) (h' : IsC F g d) : IsC F (fun j => f j || g j) (Builtin.bitOr c d) := by
  obtain ⟨n, rfl, h1, h2⟩ := h.ex
  obtain ⟨m, rfl, h3, h4⟩ := h'.ex
  rw [or_nat]
  exact .mk' (Nat.or_lt_two_pow h1 h3) fun j hj => by rw [Nat.testBit_or, h2 j hj, h4 j hj]
theorem IsC.xor (h : IsC F f c) (h' : IsC F g d) : IsC F (fun j => f j ^^ g j) (Builtin.bitXor c d) := by
  obtain ⟨n, rfl, h1, h2⟩ := h.ex
  obtain ⟨m, rfl, h3, h4⟩ := h'.ex
  rw [xor_nat]
  exact .mk' (Nat.xor_lt_two_pow h1 h3) fun j hj => by rw [Nat.testBit_xor, h2 j hj, h4 j hj]
theorem IsC.not (h : IsC F f c) : IsC F (fun j => !f j) (Builtin.bitXor (2 ^ F - 1) c) := (IsC.full.xor h).congr fun j _ => by simp
/-- a column grown bit by bit -/
theorem IsC.grow (h : IsC F f c) : IsC (F + 1) f c ∨ IsC (F + 1) f (c + 2 ^ F) := by
  obtain ⟨n, rfl, h1, h2⟩ := h.ex
  have hp : 2 ^ (F + 1) = 2 * 2 ^ F := by rw [Nat.pow_succ]; omega
  by_cases hf : f F = false
  · refine .inl (.mk' (by omega) fun j hj => ?_)
    by_cases hj2 : j = F
    · subst hj2; rw [hf, Nat.testBit_lt_two_pow h1]
    · exact h2 j (by omega)
  · have hf : f F = true := by simpa using hf
    refine .inr ?_
    have e : (n : Int) + 2 ^ F = ((n + 2 ^ F : Nat) : Int) := by norm_cast
    rw [e]
    refine .mk' (by omega) fun j hj => ?_
    rw [Nat.add_comm]
    by_cases hj2 : j = F
    · subst hj2; rw [hf, Nat.testBit_two_pow_add_eq, Nat.testBit_lt_two_pow h1]; rfl
    · rw [Nat.testBit_two_pow_add_gt (by omega)]; exact h2 j (by omega)
theorem IsC.nil : IsC 0 f 0 := .mk' (n := 0) (by decide) fun j hj => absurd hj (by omega)
theorem IsC.put (h : IsC F f c) (b : Bool) (hb : f F = b) : IsC (F + 1) f (if b = true then Builtin.bitOr c (2 ^ F) else c) := by
  obtain ⟨n, rfl, h1, h2⟩ := h.ex
  have hp : 2 ^ (F + 1) = 2 * 2 ^ F := by rw [Nat.pow_succ]; omega
  cases b with
  | false =>
    refine .mk' (by omega) fun j hj => ?_
    by_cases hj2 : j = F
    · subst hj2; rw [hb, Nat.testBit_lt_two_pow h1]
    · exact h2 j (by omega)
  | true =>
    have e : Builtin.bitOr (n : Int) (2 ^ F) = ((n ||| 2 ^ F : Nat) : Int) := by
      have := or_nat n (2 ^ F)
      rw [← this]; norm_cast
    rw [if_pos rfl, e]
    refine .mk' (Nat.or_lt_two_pow (by omega) (by omega)) fun j hj => ?_
    rw [Nat.testBit_or, Nat.testBit_two_pow]
    by_cases hj2 : j = F
    · subst hj2; simp [hb]
    · rw [h2 j (by omega)]
      have : ¬ F = j := fun z => hj2 z.symm
      simp [this]
end
end

/-! LK: columns of knots, generic. -/
section
open PySem
section
variable {F : Nat} {g : Int → Int} {fl : Int → Nat → Bool}
theorem fold_col {op : Int → Int → Int} {h : Bool → Bool → Bool} (ho : ∀ f f' c d, IsC F f c → IsC F f' d → IsC F (fun j => h (f j) (f' j)) (op c d)) : ∀ (ts : List Int) (f : Nat → Bool) (c : Int), IsC F f c → (∀ t ∈ ts, IsC F (fl t) (g t)) →
    IsC F (fun j => (ts.map fun t => fl t j).foldl h (f j)) ((ts.map g).foldl op c)
  | [], f, c, hc, _ => hc
  | t :: ts, f, c, hc, ht => fold_col ho ts _ _ (ho _ _ _ _ hc (ht t (List.mem_cons_self ..))) fun x hx => ht x (List.mem_cons_of_mem _ hx)
theorem foldl_or : ∀ (bs : List Bool) (b : Bool), bs.foldl (· || ·) b = (b || bs.any id)
  | [], b => by simp
  | c :: bs, b => by rw [List.foldl_cons, foldl_or bs]; simp [Bool.or_assoc]
theorem mul_full {F : Nat} (hF : F ≤ 1024) {k : Int} (hk : k = 0 ∨ k = 1) : mulO (2 ^ F - 1) k = some ((2 ^ F - 1) * k) := by
  refine when_ok ?_
  obtain ⟨n, e, h, _⟩ := (IsC.full (F := F)).ex
  rw [e]
  unfold CMulY
  have h1 : (n : Int).natAbs.log2 < 1025 := by
    by_cases h0 : n = 0
    · subst h0; decide
    · exact (Nat.log2_lt (by omega)).mpr (Nat.lt_of_lt_of_le h (Nat.pow_le_pow_right (by decide) (by omega)))
  have h2 : k.natAbs.log2 = 0 := by rcases hk with rfl | rfl <;> decide
  omega
end
theorem bit_test (x i : Nat) : (Builtin.bitAnd ((x : Int) / 2 ^ i) 1 = 1) ↔ x.testBit i = true := by
  rw [bitAnd_m1]
  have : (x : Int) / 2 ^ i = ((x / 2 ^ i : Nat) : Int) := by norm_cast
  rw [this, Nat.testBit_eq_decide_div_mod_eq]
  simp
  omega
end

/-! LI: columns of inputs by doubling; the program's knot_columns and column. -/
section
open PySem
theorem IsC.double {W : Nat} {f : Nat → Bool} {c : Int} (h : IsC W f c) (hf : ∀ j, j < W → f (j + W) = f j) : IsC (2 * W) f (Builtin.bitOr c (c * 2 ^ W)) := by
  obtain ⟨n, rfl, h1, h2⟩ := h.ex
  have e : (n : Int) * 2 ^ W = ((n * 2 ^ W : Nat) : Int) := by norm_cast
  rw [e, or_nat]
  have hp : 2 ^ (2 * W) = 2 ^ W * 2 ^ W := by rw [← Nat.pow_add]; congr 1; omega
  have hpos := Nat.two_pow_pos W
  refine .mk' (Nat.or_lt_two_pow ?_ ?_) fun j hj => ?_
  · rw [hp]; exact Nat.lt_of_lt_of_le h1 (Nat.le_mul_of_pos_left _ hpos)
  · rw [hp]; exact Nat.mul_lt_mul_of_pos_right h1 hpos
  · rw [Nat.testBit_or, Nat.mul_comm, Nat.testBit_two_pow_mul]
    by_cases q : j < W
    · rw [h2 j q, decide_eq_false (by omega)]; simp
    · obtain ⟨k, rfl⟩ : ∃ k, j = k + W := ⟨j - W, by omega⟩
      rw [decide_eq_true (by omega), Nat.add_sub_cancel, h2 k (by omega), hf k (by omega), Nat.testBit_lt_two_pow (Nat.lt_of_lt_of_le h1 (Nat.pow_le_pow_right (by decide) (by omega)))]
      simp
theorem bit_add {at_ h : Nat} (hh : at_ < h) (j : Nat) : (j + 2 ^ h).testBit at_ = j.testBit at_ := by
  rw [Nat.add_comm]
  exact Nat.testBit_two_pow_add_gt hh j
/-- the first block -/
theorem block_ok (a : Nat) : IsC (2 * 2 ^ a) (fun j => j.testBit a) ((2 ^ (2 ^ a) - 1) * 2 ^ (2 ^ a)) := by
  obtain ⟨n, e, h1, h2⟩ := (IsC.full (F := 2 ^ a)).ex
  rw [e]
  have hpos := Nat.two_pow_pos (2 ^ a)
  have e2 : (n : Int) * 2 ^ (2 ^ a) = ((n * 2 ^ (2 ^ a) : Nat) : Int) := by norm_cast
  have hp : 2 ^ (2 * 2 ^ a) = 2 ^ (2 ^ a) * 2 ^ (2 ^ a) := by rw [← Nat.pow_add]; congr 1; omega
  rw [e2]
  refine .mk' (by rw [hp]; exact Nat.mul_lt_mul_of_pos_right h1 hpos) fun j hj => ?_
  rw [Nat.mul_comm, Nat.testBit_two_pow_mul]
  by_cases q : j < 2 ^ a
  · rw [decide_eq_false (by omega), Nat.testBit_lt_two_pow q]; rfl
  · obtain ⟨k, rfl⟩ : ∃ k, j = 2 ^ a + k := ⟨j - 2 ^ a, by omega⟩
    rw [decide_eq_true (by omega), show 2 ^ a + k - 2 ^ a = k by omega, h2 k (by omega), Nat.testBit_two_pow_add_eq, Nat.testBit_lt_two_pow (by omega)]
    rfl
theorem IsC.bits {F : Nat} {f : Nat → Bool} {c : Int} (h : IsC F f c) : Builtin.Int.intBits c ≤ F := by
  obtain ⟨n, rfl, h1, _⟩ := h.ex
  unfold Builtin.Int.intBits
  split
  · omega
  · rename_i h0
    have h0 : n ≠ 0 := by intro z; subst z; simp at h0
    have := (Nat.log2_lt h0).mpr h1
    rw [Int.natAbs_natCast]
    omega
theorem shlO_C {F : Nat} {f : Nat → Bool} {c k : Int} (h : IsC F f c) (hF : F ≤ 100000) (h0 : 0 ≤ k) (hk : k ≤ 100000) : shlO c k = some (c * 2 ^ k.toNat) := by
  refine shlO_eq ⟨h0, ?_⟩
  have := h.bits
  have : (100000 : Int) + 100000 ≤ 2 ^ 27 := by decide
  omega
theorem pow_c (h : Nat) : (2 : Int) ^ ((h : Int)).toNat = ((2 ^ h : Nat) : Int) := by
  rw [Int.toNat_natCast]; norm_cast
theorem pz (h : Nat) : (0 : Int) < ((2 ^ h : Nat) : Int) := by exact_mod_cast Nat.two_pow_pos h
theorem pow_le {a : Nat} (h : a ≤ 10) : 2 ^ a ≤ 1024 := Nat.pow_le_pow_right (by decide) h
/-- the start of an input's column -/
theorem start_ok {a : Nat} (ha : a ≤ 10) {Q : Int → Prop} {k : Int → Int → Option Int} (h : ∀ c, IsC (2 ^ (a + 1)) (fun j => j.testBit a) c → Ok (k ((2 ^ a : Nat) : Int) c) Q) :
    Ok ((shlO (1 : Int) (a : Int)).bind fun sh => (shlO (1 : Int) sh).bind fun sh_1 => (shlO (sh_1 - (1 : Int)) sh).bind fun sh_2 => k sh sh_2) Q := by
  have hp := pow_le ha
  have hz := pz a
  refine ok_at (shlO_1 (by omega) (by omega)) ?_
  rw [pow_c]
  refine ok_at (shlO_1 (by omega) (by omega)) ?_
  rw [Int.toNat_natCast]
  refine ok_at (shlO_C (IsC.full (F := 2 ^ a)) (by omega) (by omega) (by omega)) ?_
  rw [Int.toNat_natCast]
  refine h _ ?_
  have := block_ok a
  rwa [show 2 * 2 ^ a = 2 ^ (a + 1) by rw [Nat.pow_succ]; omega] at this
theorem step_ok {a h : Nat} (ha : a < h) {c : Int} (hc : IsC (2 ^ h) (fun j => j.testBit a) c) : IsC (2 ^ (h + 1)) (fun j => j.testBit a) (Builtin.bitOr c (c * 2 ^ (2 ^ h))) := by
  have := hc.double fun j _ => bit_add ha j
  rwa [show 2 * 2 ^ h = 2 ^ (h + 1) by rw [Nat.pow_succ]; omega] at this
end

/-! LP: the laws' book of pairs (a dict), lights by it. -/
section
open PySem
def b2i (b : Bool) : Int := if b = true then 1 else 0
theorem b2i_mod (b : Bool) (t : Int) : (b2i b + t) % 2 = b2i (b ^^ decide (t % 2 = 1)) := by
  unfold b2i
  cases b <;> by_cases h : t % 2 = 1 <;> simp [h] <;> omega
theorem b2i_mul (a b : Bool) : b2i a * b2i b = b2i (a && b) := by cases a <;> cases b <;> rfl
theorem IsC.bit {F : Nat} {f : Nat → Bool} {c : Int} (h : IsC F f c) {j : Nat} (hj : j < F) : Builtin.bitAnd (c / 2 ^ j) 1 = b2i (f j) := by
  obtain ⟨n, rfl, h1, h2⟩ := h.ex
  have e := bit_test n j
  rw [h2 j hj] at e
  have hm : Builtin.bitAnd ((n : Int) / 2 ^ j) 1 = 0 ∨ Builtin.bitAnd ((n : Int) / 2 ^ j) 1 = 1 := by rw [bitAnd_m1]; omega
  cases hf : f j with
  | true => rw [hf] at e; exact e.mpr rfl
  | false =>
    rw [hf] at e
    rcases hm with h | h
    · exact h
    · exact absurd (e.mp h) (by simp)
end

/-! LY: boards: pieces, lights, columns, depths. -/
section
open PySem
abbrev Pc := T3 Int (List Int) Int
/-- the number that the first m truths of f make -/
def numF : Nat → (Nat → Bool) → Nat
  | 0, _ => 0
  | m + 1, f => numF m f + (if f m = true then 2 ^ m else 0)
theorem numF_lt : ∀ (m : Nat) (f : Nat → Bool), numF m f < 2 ^ m
  | 0, _ => by unfold numF; decide
  | m + 1, f => by
    have := numF_lt m f
    unfold numF
    rw [Nat.pow_succ]
    split <;> omega
theorem numF_bit : ∀ (m : Nat) (f : Nat → Bool) (k : Nat), k < m → (numF m f).testBit k = f k
  | m + 1, f, k, h => by
    have hl := numF_lt m f
    unfold numF
    by_cases q : k = m
    · subst q
      cases hf : f k with
      | true =>
        rw [if_pos rfl, Nat.add_comm, Nat.testBit_two_pow_add_eq, Nat.testBit_lt_two_pow hl]
        rfl
      | false => rw [if_neg (by simp), Nat.add_zero, Nat.testBit_lt_two_pow hl]
    · have ih := numF_bit m f k (by omega)
      split
      · rw [Nat.add_comm, Nat.testBit_two_pow_add_gt (by omega)]
        exact ih
      · exact ih
theorem numF_is {m j : Nat} (hj : j < 2 ^ m) (f : Nat → Bool) : numF m f = j ↔ ∀ k, k < m → f k = j.testBit k := by
  constructor
  · rintro rfl k hk
    exact (numF_bit m f k hk).symm
  · intro h
    apply Nat.eq_of_testBit_eq
    intro k
    by_cases q : k < m
    · rw [numF_bit m f k q]
      exact h k q
    · have e : 2 ^ m ≤ 2 ^ k := Nat.pow_le_pow_right (by decide) (by omega)
      rw [Nat.testBit_lt_two_pow (Nat.lt_of_lt_of_le (numF_lt m f) e), Nat.testBit_lt_two_pow (Nat.lt_of_lt_of_le hj e)]
theorem numF_congr {m : Nat} {f g : Nat → Bool} (h : ∀ k, k < m → f k = g k) : numF m f = numF m g := (numF_is (numF_lt m g) f).mpr fun k hk => (h k hk).trans (numF_bit m g k hk).symm
/-- numbers that are there ahead of the i-th piece -/
def Here (many : Int) (rs : List Pc) (i : Nat) (x : Int) : Prop := (1 ≤ x ∧ x ≤ many) ∨ ∃ (j : Nat) (r : Pc), j < i ∧ rs[j]? = some r ∧ r.a = x
structure PGood (many : Int) (rs : List Pc) : Prop where
  m1 : 1 ≤ many
  asc : ∀ (i : Nat) (r : Pc), rs[i]? = some r → many < r.a ∧ r.a < 1000 ∧ ∀ (j : Nat) (r' : Pc), j < i → rs[j]? = some r' → r'.a < r.a
  cut : ∀ (i : Nat) (r : Pc), rs[i]? = some r → 1 ≤ r.b.length ∧ r.b.length ≤ 6 ∧ r.b.Pairwise (· < ·) ∧ ∀ c ∈ r.b, Here many rs i c
  tab : ∀ (i : Nat) (r : Pc), rs[i]? = some r → 0 ≤ r.c ∧ r.c < 2 ^ (2 ^ r.b.length)
section
variable {many : Int} {rs : List Pc}
theorem PGood.nil (h : 1 ≤ many) : PGood many [] := ⟨h, fun i r h => by simp at h, fun i r h => by simp at h, fun i r h => by simp at h⟩
theorem Here.mono {i i' : Nat} (h : i ≤ i') {x : Int} (hx : Here many rs i x) : Here many rs i' x := hx.imp_right fun ⟨j, r, a, b⟩ => ⟨j, r, by omega, b⟩
theorem Here.pos (g : PGood many rs) {i : Nat} {x : Int} (h : Here many rs i x) : 1 ≤ x ∧ x < 1001 + many := by
  rcases h with h | ⟨j, r, _, h, rfl⟩
  · omega
  · have := g.asc j r h
    have := g.m1
    omega
theorem Here.lt (g : PGood many rs) {i : Nat} {r : Pc} (hr : rs[i]? = some r) {x : Int} (h : Here many rs i x) : x < r.a := by
  have := g.asc i r hr
  rcases h with h | ⟨j, r', hj, h, rfl⟩
  · omega
  · exact this.2.2 j r' hj h
theorem Here.app {i : Nat} (hi : i ≤ rs.length) {qs : List Pc} {x : Int} : Here many (rs ++ qs) i x ↔ Here many rs i x := by
  unfold Here
  refine or_congr_right ⟨fun ⟨j, r, a, b, c⟩ => ⟨j, r, a, ?_, c⟩, fun ⟨j, r, a, b, c⟩ => ⟨j, r, a, ?_, c⟩⟩
  · rwa [List.getElem?_append_left (by omega)] at b
  · rwa [List.getElem?_append_left (by omega)]
theorem Here.succ {i : Nat} {r : Pc} (hr : rs[i]? = some r) {x : Int} : Here many rs (i + 1) x ↔ Here many rs i x ∨ x = r.a := by
  constructor
  · rintro (h | ⟨j, r', hj, h, rfl⟩)
    · exact .inl (.inl h)
    · by_cases q : j < i
      · exact .inl (.inr ⟨j, r', q, h, rfl⟩)
      · have : j = i := by omega
        subst this
        rw [hr] at h
        cases h
        exact .inr rfl
  · rintro (h | rfl)
    · exact h.mono (by omega)
    · exact .inr ⟨i, r, by omega, hr, rfl⟩
theorem PGood.snoc (g : PGood many rs) {r : Pc} (h1 : many < r.a) (h2 : r.a < 1000) (h3 : ∀ q ∈ rs, q.a < r.a) (h4 : 1 ≤ r.b.length ∧ r.b.length ≤ 6 ∧ r.b.Pairwise (· < ·) ∧ ∀ c ∈ r.b, Here many rs rs.length c) (h5 : 0 ≤ r.c ∧ r.c < 2 ^ (2 ^ r.b.length)) : PGood many (rs ++ [r]) := by
  have at_ : ∀ (i : Nat) (q : Pc), (rs ++ [r])[i]? = some q → (i < rs.length ∧ rs[i]? = some q) ∨ (i = rs.length ∧ q = r) := fun i q h => by
    by_cases hi : i < rs.length
    · rw [List.getElem?_append_left hi] at h
      exact .inl ⟨hi, h⟩
    · have := (List.getElem?_eq_some_iff.mp h).1
      rw [List.length_append, List.length_singleton] at this
      have : i = rs.length := by omega
      subst this
      rw [List.getElem?_append_right (by omega), Nat.sub_self] at h
      cases h
      exact .inr ⟨rfl, rfl⟩
  refine ⟨g.m1, fun i q h => ?_, fun i q h => ?_, fun i q h => ?_⟩
  · rcases at_ i q h with ⟨hi, h⟩ | ⟨rfl, rfl⟩
    · have := g.asc i q h
      refine ⟨this.1, this.2.1, fun j r' hj hr' => this.2.2 j r' hj ?_⟩
      rwa [List.getElem?_append_left (by omega)] at hr'
    · refine ⟨h1, h2, fun j r' hj hr' => h3 r' ?_⟩
      rw [List.getElem?_append_left hj] at hr'
      exact List.mem_of_getElem? hr'
  · rcases at_ i q h with ⟨hi, h⟩ | ⟨rfl, rfl⟩
    · have := g.cut i q h
      exact ⟨this.1, this.2.1, this.2.2.1, fun c hc => (Here.app (by omega)).mpr (this.2.2.2 c hc)⟩
    · exact ⟨h4.1, h4.2.1, h4.2.2.1, fun c hc => (Here.app (Nat.le_refl _)).mpr (h4.2.2.2 c hc)⟩
  · rcases at_ i q h with ⟨hi, h⟩ | ⟨rfl, rfl⟩
    · exact g.tab i q h
    · exact h5
theorem PGood.take (g : PGood many rs) (n : Nat) : PGood many (rs.take n) := by
  have at_ : ∀ (i : Nat) (q : Pc), (rs.take n)[i]? = some q → i < n ∧ rs[i]? = some q := fun i q h => by
    rw [List.getElem?_take] at h
    split at h
    · exact ⟨‹_›, h⟩
    · cases h
  refine ⟨g.m1, fun i q h => ?_, fun i q h => ?_, fun i q h => g.tab i q (at_ i q h).2⟩
  · obtain ⟨hi, h⟩ := at_ i q h
    have := g.asc i q h
    exact ⟨this.1, this.2.1, fun j r' hj hr' => this.2.2 j r' hj (at_ j r' hr').2⟩
  · obtain ⟨hi, h⟩ := at_ i q h
    have := g.cut i q h
    refine ⟨this.1, this.2.1, this.2.2.1, fun c hc => (this.2.2.2 c hc).imp_right fun ⟨j, r, a, b, e⟩ => ⟨j, r, a, ?_, e⟩⟩
    rw [List.getElem?_take, if_pos (by omega)]
    exact b
/-! what is lit -/
def baseV (many : Int) (n : Nat) : Int → Bool := fun x => decide (1 ≤ x ∧ x ≤ many) && n.testBit (x - 1).toNat
def stepV (v : Int → Bool) (r : Pc) : Int → Bool := fun x => if x = r.a then r.c.toNat.testBit (numF r.b.length fun k => v (r.b.getD k 0)) else v x
def evalV (many : Int) (rs : List Pc) (n : Nat) : Int → Bool := rs.foldl stepV (baseV many n)
theorem evalV_succ {i : Nat} {r : Pc} (hr : rs[i]? = some r) (n : Nat) : evalV many (rs.take (i + 1)) n = stepV (evalV many (rs.take i) n) r := by
  unfold evalV
  rw [List.take_succ, hr, List.foldl_append]
  rfl
theorem getD_mem {xs : List Int} {k : Nat} (h : k < xs.length) : xs.getD k 0 ∈ xs := by
  rw [List.getD_eq_getElem?_getD, List.getElem?_eq_getElem h]
  exact List.getElem_mem h
/-! how deep -/
def deepL (a : Int) (ds : List Int) : Int := ds.foldl (fun a d => max a (d + 1)) a
def stepD (D : Int → Int) (r : Pc) : Int → Int := fun x => if x = r.a then deepL 1 (r.b.map D) else D x
def evalD (rs : List Pc) : Int → Int := rs.foldl stepD fun _ => 0
theorem evalD_succ {i : Nat} {r : Pc} (hr : rs[i]? = some r) : evalD (rs.take (i + 1)) = stepD (evalD (rs.take i)) r := by
  unfold evalD
  rw [List.take_succ, hr, List.foldl_append]
  rfl
theorem deepL_max : ∀ (ds : List Int) (a : Int), deepL (1 + a) ds = 1 + ds.foldl max a
  | [], a => rfl
  | d :: ds, a => by
    show deepL (max (1 + a) (d + 1)) ds = 1 + ds.foldl max (max a d)
    rw [← deepL_max ds (max a d)]
    congr 1
    omega
theorem deepL_rng {B : Int} : ∀ (ds : List Int) (a : Int), 1 ≤ a → a ≤ B → (∀ d ∈ ds, d + 1 ≤ B) → 1 ≤ deepL a ds ∧ deepL a ds ≤ B
  | [], a, h1, h2, _ => ⟨h1, h2⟩
  | d :: ds, a, h1, h2, h => deepL_rng ds (max a (d + 1)) (by omega) (by have := h d (by simp); omega) fun x hx => h x (List.mem_cons_of_mem _ hx)
theorem evalD_rng : ∀ (i : Nat), i ≤ rs.length → ∀ x, 0 ≤ evalD (rs.take i) x ∧ evalD (rs.take i) x ≤ i
  | 0, _, x => by rw [List.take_zero]; exact ⟨Int.le_refl _, Int.le_refl _⟩
  | i + 1, h, x => by
    have ih := evalD_rng i (by omega)
    have hr : rs[i]? = some (rs[i]'(by omega)) := List.getElem?_eq_getElem (by omega)
    rw [evalD_succ hr]
    unfold stepD
    split
    · have := deepL_rng (B := (i : Int) + 1) ((rs[i]'(by omega)).b.map (evalD (rs.take i))) 1 (by omega) (by omega) fun d hd => by
        obtain ⟨y, _, rfl⟩ := List.mem_map.mp hd
        have := ih y
        omega
      omega
    · have := ih x
      omega
end
end

/-! NA: numbers, tables, ties, boards as texts. -/
section
open PySem TL
def sI (i : Int) : Str := Str.ofString (toString i)
theorem tl_sI (n : Nat) : tl (sI (n : Int)) = numL n := tl_num n
theorem num1000 : ∀ n : Nat, n < 1000 → (numL n).length ≤ 3 ∧ 1 ≤ (numL n).length ∧ (∀ c ∈ numL n, 48 ≤ c ∧ c ≤ 57) ∧ ((numL n)[0]? = some 48 → (numL n).length = 1) := by
  have h : (List.range 1000).all (fun n => decide ((numL n).length ≤ 3) && (decide (1 ≤ (numL n).length) && ((numL n).all (fun c => decide (48 ≤ c) && decide (c ≤ 57)) && (!decide ((numL n)[0]? = some 48) || decide ((numL n).length = 1))))) = true := by decide +kernel
  intro n hn
  have := List.all_eq_true.mp h n (List.mem_range.mpr hn)
  simp only [Bool.and_eq_true, decide_eq_true_eq, Bool.or_eq_true, Bool.not_eq_true', decide_eq_false_iff_not, List.all_eq_true] at this
  exact ⟨this.1, this.2.1, this.2.2.1, fun z => this.2.2.2.resolve_left fun w => w z⟩
theorem sI_len {i : Int} (h0 : 0 ≤ i) (h : i < 1000) : (sI i).length ≤ 3 ∧ 1 ≤ (sI i).length := by
  obtain ⟨n, rfl⟩ := Int.eq_ofNat_of_zero_le h0
  have := num1000 n (by omega)
  rw [len_tl, tl_sI]
  exact ⟨this.1, this.2.1⟩
theorem strO_ok {i : Int} (h0 : 0 ≤ i) (h : i < 1000) : strO i = some (sI i) := when_ok (Nat.lt_of_le_of_lt (Nat.log2_le_self _) (by omega))
theorem tl_inj1 {x y : Str} (h : tl x = tl y) : x = y := by
  have := map_tl_inj (l := [x]) (m := [y]) (by simp [h])
  injection this
theorem tl_nil : tl ("" : Str) = [] := by decide +kernel
theorem nil_app (x : Str) : ("" : Str) ++ x = x := tl_inj1 (by rw [tl_append, tl_nil]; rfl)
theorem joinL_snoc (S x : List Nat) : ∀ ps : List (List Nat), ps ≠ [] → joinL S (ps ++ [x]) = joinL S ps ++ (S ++ x)
  | [], h => absurd rfl h
  | [p], _ => rfl
  | p :: q :: r, _ => by
    show p ++ (S ++ joinL S ((q :: r) ++ [x])) = (p ++ (S ++ joinL S (q :: r))) ++ (S ++ x)
    rw [joinL_snoc S x (q :: r) (by simp)]
    simp [List.append_assoc]
theorem tl_joinT (y : Str) (ps : List Str) : tl (Txt.join y ps) = joinL (tl y) (ps.map tl) := by rw [join_eq, tl_join]
theorem join_snoc (y x : Str) {ws : List Str} (h : ws ≠ []) : Txt.join y (ws ++ [x]) = Txt.join y ws ++ y ++ x := by
  apply tl_inj1
  rw [tl_joinT, tl_append, tl_append, tl_joinT, List.map_append, List.map_cons, List.map_nil, joinL_snoc _ _ _ (by simpa using h), List.append_assoc]
theorem join_one (y x : Str) : Txt.join y [x] = x := by
  apply tl_inj1
  rw [tl_joinT]
  rfl
theorem join_two (y a : Str) {b : Str} {ws : List Str} : Txt.join y (a :: b :: ws) = a ++ y ++ Txt.join y (b :: ws) := by
  apply tl_inj1
  rw [tl_joinT, tl_append, tl_append, tl_joinT, List.append_assoc]
  rfl
theorem joinE_snoc (x : Str) : ∀ ws : List Str, Txt.join ("" : Str) (ws ++ [x]) = Txt.join ("" : Str) ws ++ x
  | [] => by
    show Txt.join ("" : Str) [x] = Txt.join ("" : Str) [] ++ x
    rw [join_one]
    exact (nil_app x).symm
  | w :: ws => by
    rw [join_snoc _ _ (by simp)]
    apply tl_inj1
    rw [tl_append, tl_append, tl_append, tl_nil, List.append_nil]
theorem joinL_nil : ∀ ps : List (List Nat), joinL [] ps = ps.flatten
  | [] => rfl
  | [p] => by simp [joinL]
  | p :: q :: r => by
    show p ++ ([] ++ joinL [] (q :: r)) = _
    rw [joinL_nil (q :: r)]
    rfl
theorem sum_len {ws : List Str} {m : Nat} (h : ∀ x ∈ ws, x.length ≤ m) : (ws.map (·.length)).sum ≤ m * ws.length := by
  induction ws with
  | nil => simp
  | cons x ws ih =>
    have h1 := h x (List.mem_cons_self ..)
    have h2 := ih fun y hy => h y (List.mem_cons_of_mem _ hy)
    rw [List.map_cons, List.sum_cons, List.length_cons, Nat.mul_add]
    omega
theorem join_len (y : Str) {ws : List Str} {m : Nat} (h : ∀ x ∈ ws, x.length ≤ m) : (Txt.join y ws).length ≤ m * ws.length + ws.length * y.length := by
  have h1 := StrLaws.join_length_le y ws
  have h2 := sum_len h
  rw [join_eq]
  omega
theorem joinO_ok (y : Str) {ws : List Str} {m : Nat} (h : ∀ x ∈ ws, x.length ≤ m) (hm : m ≤ 1000) (hl : ws.length ≤ 2000) (hy : y.length ≤ 10) : joinO y ws = some (Txt.join y ws) := by
  have h2 := sum_len h
  have h3 : m * ws.length ≤ 1000 * 2000 := Nat.mul_le_mul hm hl
  have h4 : ws.length * y.length ≤ 2000 * 10 := Nat.mul_le_mul hl hy
  exact when_ok (by omega)
theorem lens : (" " : Str).length = 1 ∧ ("" : Str).length = 0 ∧ ("-" : Str).length = 1 ∧ (" is " : Str).length = 4 ∧ (" of " : Str).length = 4 ∧ ("board " : Str).length = 6 ∧ ("out " : Str).length = 4 ∧ ("of" : Str).length = 2 ∧ ("is" : Str).length = 2 := by decide +kernel
/-- the signs of a table -/
def bitL (m n : Nat) : List Str := (List.range m).map fun i => sI ((n / 2 ^ i % 2 : Nat) : Int)
def bitsT (m n : Nat) : Str := Txt.join ("" : Str) (bitL m n)
theorem bitL_len (m n : Nat) : ∀ x ∈ bitL m n, x.length ≤ 1 := fun x hx => by
  obtain ⟨i, _, rfl⟩ := List.mem_map.mp hx
  have : n / 2 ^ i % 2 < 2 := Nat.mod_lt _ (by decide)
  rw [len_tl, tl_sI, numL_lt (by omega)]
  exact Nat.le_refl _
theorem bitL_succ (m n : Nat) : bitL (m + 1) n = bitL m n ++ [sI ((n / 2 ^ m % 2 : Nat) : Int)] := by
  unfold bitL
  rw [List.range_succ, List.map_append]
  rfl
/-- the line of a piece -/
def lineT (r : T3 Int (List Int) Int) : Str := Txt.join (" " : Str) (sI r.a :: ("of" : Str) :: r.b.map sI) ++ " is " ++ bitsT (2 ^ r.b.length) r.c.toNat
def tieT (t : Int) : Str := (if t % 2 = 1 then ("-" : Str) else "") ++ sI (t / 2)
def linesT (many : Int) (P : List (T3 Int (List Int) Int)) (ties : List Int) : List Str := (("board " : Str) ++ sI many) :: P.map lineT ++ [("out " : Str) ++ Txt.join (" " : Str) (ties.map tieT)]
structure Pz (r : T3 Int (List Int) Int) : Prop where
  a0 : 0 ≤ r.a
  a1 : r.a < 1000
  b0 : r.b ≠ []
  b6 : r.b.length ≤ 6
  bv : ∀ v ∈ r.b, 0 ≤ v ∧ v < 1000
  c0 : 0 ≤ r.c
theorem pw6 {r : T3 Int (List Int) Int} (h : Pz r) : 2 ^ r.b.length ≤ 64 := by
  have := Nat.pow_le_pow_right (n := 2) (by decide) h.b6
  exact this
theorem lineT_len {r : T3 Int (List Int) Int} (h : Pz r) : (lineT r).length ≤ 200 := by
  have l := lens
  have p := pw6 h
  unfold lineT bitsT
  have h1 := join_len (" " : Str) (ws := sI r.a :: ("of" : Str) :: r.b.map sI) (m := 3) fun x hx => by
    rcases List.mem_cons.mp hx with rfl | hx
    · exact (sI_len h.a0 h.a1).1
    · rcases List.mem_cons.mp hx with rfl | hx
      · omega
      · obtain ⟨v, hv, rfl⟩ := List.mem_map.mp hx
        exact (sI_len (h.bv v hv).1 (h.bv v hv).2).1
  have h2 := join_len ("" : Str) (bitL_len (2 ^ r.b.length) r.c.toNat)
  have h3 : (bitL (2 ^ r.b.length) r.c.toNat).length = 2 ^ r.b.length := by unfold bitL; simp
  have h6 := h.b6
  simp only [List.length_cons, List.length_map] at h1
  rw [lens.1] at h1
  rw [lens.2.1, h3] at h2
  rw [slen_app, slen_app]
  omega
theorem tieT_len {t : Int} (h0 : 0 ≤ t) (h : t < 2000) : (tieT t).length ≤ 4 := by
  have l := lens
  have := (sI_len (i := t / 2) (by omega) (by omega)).1
  unfold tieT
  rw [slen_app]
  split <;> omega
theorem linesT_len (many : Int) (P : List (T3 Int (List Int) Int)) (ties : List Int) : (linesT many P ties).length = P.length + 2 := by unfold linesT; simp
/-! signs that can be held against one another -/
def Asc (x : Str) : Prop := ∀ c ∈ tl x, c < 128
theorem Asc.app {a b : Str} (ha : Asc a) (hb : Asc b) : Asc (a ++ b) := fun c hc => by
  rw [tl_append] at hc
  rcases List.mem_append.mp hc with h | h
  · exact ha c h
  · exact hb c h
theorem asc_joinL {S : List Nat} (hS : ∀ c ∈ S, c < 128) : ∀ {ps : List (List Nat)}, (∀ p ∈ ps, ∀ c ∈ p, c < 128) → ∀ c ∈ joinL S ps, c < 128
  | [], _, c, hc => by cases hc
  | [p], h, c, hc => h p (by simp) c hc
  | p :: q :: r, h, c, hc => by
    rcases List.mem_append.mp (show c ∈ p ++ (S ++ joinL S (q :: r)) from hc) with h1 | h1
    · exact h p (by simp) c h1
    · rcases List.mem_append.mp h1 with h2 | h2
      · exact hS c h2
      · exact asc_joinL hS (fun p hp => h p (List.mem_cons_of_mem _ hp)) c h2
theorem asc_join {y : Str} (hy : Asc y) {ws : List Str} (h : ∀ x ∈ ws, Asc x) : Asc (Txt.join y ws) := fun c hc => by
  rw [tl_joinT] at hc
  exact asc_joinL hy (fun p hp => by obtain ⟨x, hx, rfl⟩ := List.mem_map.mp hp; exact h x hx) c hc
theorem asc_sI {i : Int} (h0 : 0 ≤ i) (h : i < 1000) : Asc (sI i) := fun c hc => by
  obtain ⟨n, rfl⟩ := Int.eq_ofNat_of_zero_le h0
  rw [tl_sI] at hc
  have := (num1000 n (by omega)).2.2.1 c hc
  omega
theorem asc_words : ∀ w ∈ [(" " : Str), "", "-", " is ", " of ", "board ", "out ", "of", "is"], Asc w := by
  have h : ∀ w ∈ [(" " : Str), "", "-", " is ", " of ", "board ", "out ", "of", "is"], (w.cps.toList.all fun c => decide (c < 128)) = true := by decide +kernel
  exact fun w hw c hc => of_decide_eq_true (List.all_eq_true.mp (h w hw) c hc)
theorem asc_lok {x : Str} (h : Asc x) : Dpv.lok x = true := by
  show x.cps.all (· < 0x110000) = true
  rw [← Array.all_toList, List.all_eq_true]
  intro n hn
  have := h n hn
  exact decide_eq_true (by omega)
theorem asc_line {r : T3 Int (List Int) Int} (h : Pz r) : Asc (lineT r) := by
  unfold lineT bitsT
  refine ((asc_join (asc_words _ (by simp)) fun x hx => ?_).app (asc_words _ (by simp))).app (asc_join (asc_words _ (by simp)) fun x hx => ?_)
  · rcases List.mem_cons.mp hx with rfl | hx
    · exact asc_sI h.a0 h.a1
    · rcases List.mem_cons.mp hx with rfl | hx
      · exact asc_words _ (by simp)
      · obtain ⟨v, hv, rfl⟩ := List.mem_map.mp hx
        exact asc_sI (h.bv v hv).1 (h.bv v hv).2
  · obtain ⟨i, _, rfl⟩ := List.mem_map.mp hx
    have : r.c.toNat / 2 ^ i % 2 < 2 := Nat.mod_lt _ (by decide)
    exact asc_sI (by omega) (by omega)
theorem asc_tie {t : Int} (h0 : 0 ≤ t) (h : t < 2000) : Asc (tieT t) := by
  unfold tieT
  refine Asc.app ?_ (asc_sI (by omega) (by omega))
  split
  · exact asc_words _ (by simp)
  · exact asc_words _ (by simp)
theorem lines_lok {many : Int} {P : List (T3 Int (List Int) Int)} {ties : List Int} (m0 : 0 ≤ many) (m1 : many < 1000) (hP : ∀ r ∈ P, Pz r) (ht : ∀ t ∈ ties, 0 ≤ t ∧ t < 2000) : Dpv.lok (linesT many P ties) = true := List.all_eq_true.mpr fun x hx => asc_lok (by
  unfold linesT at hx
  rcases List.mem_append.mp hx with hx | hx
  · rcases List.mem_cons.mp hx with rfl | hx
    · exact (asc_words _ (by simp)).app (asc_sI m0 m1)
    · obtain ⟨r, hr, rfl⟩ := List.mem_map.mp hx
      exact asc_line (hP r hr)
  · rw [List.mem_singleton] at hx
    subst hx
    refine (asc_words _ (by simp)).app (asc_join (asc_words _ (by simp)) fun y hy => ?_)
    obtain ⟨t, h, rfl⟩ := List.mem_map.mp hy
    exact asc_tie (ht t h).1 (ht t h).2)
theorem eqO_self {A : Type} [Rp A] [Dpv A] [DecidableEq A] {x : A} (h : Dpv.lok x = true) : eqO x x = some true := by
  unfold eqO
  rw [when_ok ⟨h, h⟩, decide_eq_true rfl]
end

/-! NB: boards made, where no labels are. -/
section
open PySem
theorem ints_atL {a x : Int} {n i : Nat} (h : (intsFrom a n)[i]? = some x) : i < n ∧ x = a + i := by
  have hi := (List.getElem?_eq_some_iff.mp h).1
  rw [length_intsFrom] at hi
  unfold G.intsFrom at h
  rw [List.getElem?_map, List.getElem?_range hi] at h
  exact ⟨hi, (Option.some.inj h).symm⟩
theorem rise_ix {cs : List Int} (h : cs.Pairwise (· < ·)) {a b : Nat} {x y : Int} (hx : cs[a]? = some x) (hy : cs[b]? = some y) (lt : x < y) : a < b := by
  obtain ⟨ha, ex⟩ := List.getElem?_eq_some_iff.mp hx
  obtain ⟨hb, ey⟩ := List.getElem?_eq_some_iff.mp hy
  rcases Nat.lt_trichotomy a b with q | q | q
  · exact q
  · subst q; rw [ex] at ey; omega
  · have := List.pairwise_iff_getElem.mp h b a hb ha q
    omega
theorem rise_val {cs : List Int} (h : cs.Pairwise (· < ·)) {a b : Nat} {x y : Int} (hx : cs[a]? = some x) (hy : cs[b]? = some y) (lt : a < b) : x < y := by
  obtain ⟨ha, ex⟩ := List.getElem?_eq_some_iff.mp hx
  obtain ⟨hb, ey⟩ := List.getElem?_eq_some_iff.mp hy
  have := List.pairwise_iff_getElem.mp h a b ha hb lt
  omega
theorem every_is {n : Int} (h0 : 0 ≤ n) (h1 : n ≤ 10) : m_every_lighting n = some (2 ^ ((2 : Nat) ^ n.toNat) - 1) := by
  unfold m_every_lighting
  have h2 : (2 : Nat) ^ n.toNat ≤ 2 ^ 10 := Nat.pow_le_pow_right (by decide) (by omega)
  have e2 : ((2 : Int) ^ n.toNat) = ((2 ^ n.toNat : Nat) : Int) := by rw [Int.natCast_pow]; rfl
  rw [shlO_1 h0 (by omega), Option.bind_some, e2]
  generalize (2 : Nat) ^ n.toNat = N at h2
  rw [shlO_1 (by omega) (by omega), Option.bind_some, Int.toNat_natCast]
theorem sortI_rise {xs : List Int} (h : xs.Nodup) : (sortI xs).Pairwise (· < ·) := by
  have h2 := (sortI_perm xs).nodup_iff.mpr h
  have h1 := sortI_le xs
  exact (h1.and h2).imp fun h => by omega
variable {many : Int} {ties : List Int}
abbrev PcT := T3 Int (List Int) Int
theorem check_ok {c : List Int} {here : List (Int × Bool)} (h1 : 0 < c.length) (h6 : c.length ≤ 6) (rise : c.Pairwise (· < ·)) (hp : ∀ v ∈ c, 0 < v ∧ (dget here v).isSome = true) : m_check_cut c here = some () := by
  suffices h : Ok (m_check_cut c here) fun _ => True by obtain ⟨_, e, _⟩ := h; exact e
  unfold m_check_cut
  refine ok_F (by rw [decide_eq_true (by omega), decide_eq_true (by omega)]; rfl) (ok_bind (ok_fold (fun i (st : Int) => ∀ v, v ∈ c.drop i → st < v) (fun v hv => (hp v (by simpa using hv)).1) fun i x st hx h => ?_) fun _ _ => ok_some trivial)
  have hi := (List.getElem?_eq_some_iff.mp hx).1
  have hd : c.drop i = x :: c.drop (i + 1) := by
    rw [List.drop_eq_getElem_cons hi, (List.getElem?_eq_some_iff.mp hx).2]
  have hxm := List.mem_of_getElem? hx
  have hlt : st < x := h x (by rw [hd]; simp)
  unfold m_check_cut_b1 m_is_whole
  refine ok_bs (ok_F ?_ (ok_some fun v hv => ?_))
  · rw [decide_eq_false (by omega), (hp x hxm).2]; rfl
  · have : (c.drop i).Pairwise (· < ·) := rise.sublist (List.drop_sublist _ _)
    rw [hd] at this
    exact (List.pairwise_cons.mp this).1 v hv
theorem board_ok (hm : 1 ≤ many) (m10 : many ≤ 10) {P : List PcT} (hl : P.length ≤ 10000) (rise : (P.map (·.a)).Pairwise (· < ·)) (hr : ∀ r ∈ P, many < r.a ∧ r.a < 1000 ∧ 0 < r.b.length ∧ r.b.length ≤ 6 ∧ r.b.Pairwise (· < ·) ∧ (∃ n : Nat, r.c = n ∧ n < 2 ^ 2 ^ r.b.length))
    (hc : ∀ r ∈ P, ∀ v ∈ r.b, 1 ≤ v ∧ v < r.a ∧ (many < v → ∃ r' ∈ P, r'.a = v)) (ht : ∀ t ∈ ties, 0 ≤ t ∧ (many < t / 2 → ∃ r ∈ P, r.a = t / 2)) (h0 : ties ≠ []) (htl : ties.length ≤ 10000) : m_Board___init__ many P ties = some ⟨many, P, ties⟩ := by
  suffices h : Ok (m_Board___init__ many P ties) fun B => B = ⟨many, P, ties⟩ by obtain ⟨b, e, rfl⟩ := h; exact e
  unfold m_Board___init__ m_is_whole
  refine ok_bs (ok_F (by rw [decide_eq_true hm, decide_eq_true m10]; rfl) (ok_at (rngO_0 (by omega) (by omega)) ?_))
  refine ok_bind (ok_fold (fun i (d : List (Int × Bool)) => d.length ≤ i ∧ ∀ x, (dget d x).isSome = true ↔ 1 ≤ x ∧ x ≤ i) ⟨Nat.le_refl _, fun x => ⟨fun h => (by simp [dget] at h), fun h => (by omega)⟩⟩ fun i x d hx ⟨d1, d2⟩ => ?_) fun d ⟨d1, d2⟩ => ?_
  · obtain ⟨hi, rfl⟩ := ints_atL hx
    unfold m_Board___init___b1
    have := dput_len d (0 + (i : Int) + 1) true
    refine ok_at (dputO_eq (by omega)) (ok_some ⟨by omega, fun x => ?_⟩)
    rw [dget_put]
    by_cases q : 0 + (i : Int) + 1 = x
    · rw [if_pos q]; simp; omega
    · rw [if_neg q, d2 x]; omega
  · rw [length_intsFrom] at d1 d2
    refine ok_bind (ok_fold (fun i (st : Int × List (Int × Bool) × List PcT) => st.1 < 1000 ∧ (∀ j, i ≤ j → ∀ r, P[j]? = some r → st.1 < r.a) ∧ st.2.1.length ≤ 10 + i ∧ (∀ x, (dget st.2.1 x).isSome = true ↔ (1 ≤ x ∧ x ≤ many) ∨ ∃ j r, j < i ∧ P[j]? = some r ∧ r.a = x) ∧ st.2.2 = P.take i) ⟨by show many < 1000; omega, fun j _ r hj => (hr r (List.mem_of_getElem? hj)).1, by show d.length ≤ 10 + 0; omega, fun x => ?_, rfl⟩ fun i r st hx ⟨i1, i2, i3, i4, i5⟩ => ?_) fun st ⟨_, _, _, i4, i5⟩ => ?_
    · show (dget d x).isSome = true ↔ _
      rw [d2 x]
      constructor
      · intro h; exact .inl (by omega)
      · rintro (h | ⟨j, _, hj, _⟩)
        · omega
        · omega
    · obtain ⟨last, here, rows⟩ := st
      have i5 : rows = P.take i := i5
      subst i5
      have i3 : here.length ≤ 10 + i := i3
      have hrm := List.mem_of_getElem? hx
      obtain ⟨r1, r2, r3, r4, r5, n, r6, r7⟩ := hr r hrm
      have hi := (List.getElem?_eq_some_iff.mp hx).1
      have hlast := i2 i (Nat.le_refl _) r hx
      have hdl := dput_len here r.a true
      have et : P.take i ++ [r] = P.take (i + 1) := by rw [List.take_add_one, hx]; rfl
      have later : ∀ {j j' : Nat} {q q' : PcT}, P[j]? = some q → P[j']? = some q' → q.a < q'.a → j < j' := fun {j j' q q'} h1 h2 lt => rise_ix rise (by rw [List.getElem?_map, h1]; rfl) (by rw [List.getElem?_map, h2]; rfl) lt
      have after : ∀ {j j' : Nat} {q q' : PcT}, P[j]? = some q → P[j']? = some q' → j < j' → q.a < q'.a := fun {j j' q q'} h1 h2 lt => rise_val rise (by rw [List.getElem?_map, h1]; rfl) (by rw [List.getElem?_map, h2]; rfl) lt
      unfold m_Board___init___b2 m_is_whole
      refine ok_bs (ok_F (by rw [decide_eq_true hlast, decide_eq_true r2]; rfl) (ok_at (check_ok r3 r4 r5 fun v hv => ?_) (ok_bs (ok_bind (P := fun t : Bool => t = false) (ok_F rfl (ok_at (every_is (by omega) (by omega)) (ok_some ?_))) fun t ht => ok_F ht (ok_at (appO_eq (by rw [List.length_take]; omega)) (ok_at (dputO_eq (by show here.length < _; omega)) (ok_some ⟨r2, fun j hj q hq => after hx hq (by omega), by show (dput here r.a true).length ≤ _; omega, fun x => ?_, ?_⟩)))))))
      · obtain ⟨c1, c2, c3⟩ := hc r hrm v hv
        refine ⟨by omega, (i4 v).mpr ?_⟩
        by_cases q : v ≤ many
        · exact .inl ⟨c1, q⟩
        · obtain ⟨r', hr', e⟩ := c3 (by omega)
          obtain ⟨j, hj⟩ := List.mem_iff_getElem?.mp hr'
          exact .inr ⟨j, r', later hj hx (by omega), hj, e⟩
      · rw [Int.toNat_natCast, r6]
        have e2 : ((2 : Int) ^ ((2 : Nat) ^ r.b.length)) = ((2 ^ 2 ^ r.b.length : Nat) : Int) := by rw [Int.natCast_pow]; rfl
        rw [e2, decide_eq_true (by omega), decide_eq_true (by omega)]
        rfl
      · show (dget (dput here r.a true) x).isSome = true ↔ _
        rw [dget_put]
        by_cases q : r.a = x
        · rw [if_pos q]
          exact ⟨fun _ => .inr ⟨i, r, by omega, hx, q⟩, fun _ => rfl⟩
        · rw [if_neg q]
          refine (i4 x).trans ⟨fun h => h.imp_right fun ⟨j, q', a, b, c⟩ => ⟨j, q', by omega, b, c⟩, fun h => h.imp_right fun ⟨j, q', a, b, c⟩ => ⟨j, q', ?_, b, c⟩⟩
          by_cases z : j = i
          · subst z
            rw [hx] at b
            cases b
            exact absurd c q
          · omega
      · exact et
    · rw [List.take_length] at i5
      refine ok_bind (ok_fold (fun i (es : List Int) => es = ties.take i) rfl fun i t es hx e => ?_) fun es e => ?_
      · subst e
        have htm := List.mem_of_getElem? hx
        have et : ties.take i ++ [t] = ties.take (i + 1) := by rw [List.take_add_one, hx]; rfl
        have hi := (List.getElem?_eq_some_iff.mp hx).1
        obtain ⟨t0, t1⟩ := ht t htm
        unfold m_Board___init___b3 m_is_whole
        refine ok_bs (ok_F ?_ (ok_at (appO_eq (by rw [List.length_take]; omega)) (ok_some et)))
        show (!true || (!decide (t / 2 ^ (1 : Int).toNat = 0) && !(dget st.2.1 (t / 2 ^ (1 : Int).toNat)).isSome)) = false
        have e2 : t / 2 ^ (1 : Int).toNat = t / 2 := rfl
        rw [e2]
        by_cases z : t / 2 = 0
        · rw [decide_eq_true z]; rfl
        · have : (dget st.2.1 (t / 2)).isSome = true := (i4 _).mpr (by
            by_cases q : t / 2 ≤ many
            · exact .inl ⟨by omega, q⟩
            · obtain ⟨r, hr', e⟩ := t1 (by omega)
              obtain ⟨j, hj⟩ := List.mem_iff_getElem?.mp hr'
              exact .inr ⟨j, r, (List.getElem?_eq_some_iff.mp hj).1, hj, e⟩)
          rw [this, decide_eq_false z]; rfl
      · rw [List.take_length] at e
        subst e
        refine ok_F (decide_eq_false h0) (ok_some ?_)
        rw [i5]
end

/-! NC: boards grown piece by piece. -/
section
open PySem
/-- the numbers that may stand in the next cut -/
def known (many : Int) (P : List PcT) : List Int := intsFrom 1 many.toNat ++ P.map (·.a)
structure Grown (many : Int) (P : List PcT) : Prop where
  m1 : 1 ≤ many
  rise : (P.map (·.a)).Pairwise (· < ·)
  pc : ∀ r ∈ P, many < r.a ∧ r.a < 1000 ∧ 0 < r.b.length ∧ r.b.length ≤ 6 ∧ r.b.Pairwise (· < ·) ∧ (∃ n : Nat, r.c = n ∧ n < 2 ^ 2 ^ r.b.length)
  cl : ∀ r ∈ P, ∀ v ∈ r.b, 1 ≤ v ∧ v < r.a ∧ (many < v → ∃ r' ∈ P, r'.a = v)
theorem known_mem {many : Int} {P : List PcT} {v : Int} (h : v ∈ known many P) (g : Grown many P) : 1 ≤ v ∧ v < 1000 ∧ (many < v → ∃ r ∈ P, r.a = v) ∨ (1 ≤ v ∧ v ≤ many) := by
  unfold known at h
  rcases List.mem_append.mp h with h | h
  · have := mem_intsFrom.mp h
    exact .inr (by omega)
  · obtain ⟨r, hr, rfl⟩ := List.mem_map.mp h
    have := g.pc r hr
    have := g.m1
    exact .inl ⟨by omega, by omega, fun _ => ⟨r, hr, rfl⟩⟩
theorem known_len {many : Int} {P : List PcT} (g : Grown many P) : ((known many P).length : Int) = many + P.length := by
  have := g.m1
  unfold known
  rw [List.length_append, length_intsFrom, List.length_map]
  omega
theorem known_app (many : Int) (P : List PcT) (r : PcT) : known many (P ++ [r]) = known many P ++ [r.a] := by
  unfold known
  rw [List.map_append, List.append_assoc]
  rfl
theorem known_rise {many : Int} {P : List PcT} (g : Grown many P) : (known many P).Pairwise (· < ·) := by
  unfold known
  rw [List.pairwise_append]
  refine ⟨?_, g.rise, fun x hx y hy => ?_⟩
  · refine List.pairwise_iff_getElem.mpr fun i j hi hj lt => ?_
    have e1 : (intsFrom 1 many.toNat)[i]? = some ((intsFrom 1 many.toNat)[i]) := List.getElem?_eq_getElem hi
    have e2 : (intsFrom 1 many.toNat)[j]? = some ((intsFrom 1 many.toNat)[j]) := List.getElem?_eq_getElem hj
    have := (ints_atL e1).2
    have := (ints_atL e2).2
    omega
  · have := mem_intsFrom.mp hx
    obtain ⟨r, hr, rfl⟩ := List.mem_map.mp hy
    have := g.pc r hr
    have := g.m1
    omega
/-- the last number that there is -/
theorem known_last {many : Int} {P : List PcT} (g : Grown many P) : ∃ x, atI (known many P) (-1) = some x ∧ many ≤ x ∧ x < 1000 + many ∧ (∀ v ∈ known many P, v ≤ x) ∧ x ∈ known many P := by
  have hm := g.m1
  have hl := known_len g
  have hne : known many P ≠ [] := fun e => by rw [e] at hl; simp at hl; omega
  obtain ⟨ks, x, e⟩ : ∃ ks x, known many P = ks ++ [x] := ⟨(known many P).dropLast, (known many P).getLast hne, (List.dropLast_concat_getLast hne).symm⟩
  have rise := known_rise g
  have mem : ∀ v, v ∈ known many P ↔ v ∈ ks ∨ v = x := fun v => by rw [e, List.mem_append, List.mem_singleton]
  have hxm := (mem x).mpr (.inr rfl)
  have top : ∀ v ∈ known many P, v ≤ x := fun v hv => by
    rcases (mem v).mp hv with h | h
    · rw [e, List.pairwise_append] at rise
      have := rise.2.2 v h x (by simp)
      omega
    · omega
  have hmk : many ∈ known many P := by
    unfold known
    exact List.mem_append_left _ (mem_intsFrom.mpr (by omega))
  refine ⟨x, ?_, top many hmk, ?_, top, hxm⟩
  · have hkl : (known many P).length = ks.length + 1 := by rw [e, List.length_append, List.length_singleton]
    unfold atI ixN
    rw [if_neg (by decide), if_pos (by omega), e]
    show (ks ++ [x])[_]? = some x
    rw [show ((-1 : Int) + (((ks ++ [x]).length : Nat) : Int)).toNat = ks.length by rw [← e]; omega, List.getElem?_append_right (Nat.le_refl _), Nat.sub_self]
    rfl
  · rcases known_mem hxm g with h | h <;> omega
theorem Grown.nil {many : Int} (h : 1 ≤ many) : Grown many [] := ⟨h, .nil, fun r hr => (by cases hr), fun r hr => (by cases hr)⟩
theorem Grown.push {many : Int} {P : List PcT} (g : Grown many P) {r : PcT} (h0 : ∀ v ∈ known many P, v < r.a) (h1 : r.a < 1000) (b0 : 0 < r.b.length) (b6 : r.b.length ≤ 6) (br : r.b.Pairwise (· < ·)) (bk : ∀ v ∈ r.b, v ∈ known many P) (hc : ∃ n : Nat, r.c = n ∧ n < 2 ^ 2 ^ r.b.length) : Grown many (P ++ [r]) := by
  have hm := g.m1
  have hmr : many < r.a := h0 many (List.mem_append_left _ (mem_intsFrom.mpr (by omega)))
  refine ⟨hm, ?_, fun x hx => ?_, fun x hx v hv => ?_⟩
  · rw [List.map_append, List.pairwise_append]
    refine ⟨g.rise, by simp, fun x hx y hy => ?_⟩
    have : y = r.a := by simpa using hy
    subst this
    exact h0 x (List.mem_append_right _ hx)
  · rcases List.mem_append.mp hx with hx | hx
    · exact g.pc x hx
    · rw [List.mem_singleton] at hx
      subst hx
      exact ⟨hmr, h1, b0, b6, br, hc⟩
  · rcases List.mem_append.mp hx with hx | hx
    · obtain ⟨a, b, c⟩ := g.cl x hx v hv
      exact ⟨a, b, fun h => by obtain ⟨r', h1, h2⟩ := c h; exact ⟨r', List.mem_append_left _ h1, h2⟩⟩
    · rw [List.mem_singleton] at hx
      subst hx
      have hk := bk v hv
      have lt := h0 v hk
      rcases known_mem hk g with ⟨a, _, c⟩ | ⟨a, c⟩
      · exact ⟨a, lt, fun h => by obtain ⟨r', h1, h2⟩ := c h; exact ⟨r', List.mem_append_left _ h1, h2⟩⟩
      · exact ⟨a, lt, fun h => by omega⟩
theorem Grown.pz {many : Int} {P : List PcT} (g : Grown many P) : ∀ r ∈ P, Pz r := fun r hr => by
  obtain ⟨a, b, c, d, e, n, f, _⟩ := g.pc r hr
  have hm := g.m1
  exact ⟨by omega, b, fun z => by rw [z] at c; simp at c, d, fun v hv => by have := g.cl r hr v hv; omega, by omega⟩
theorem Grown.len {many : Int} {P : List PcT} (g : Grown many P) : P.length ≤ 1000 := by
  have nd : (P.map (·.a)).Nodup := g.rise.imp fun h => by omega
  have h1 := List.Nodup.length_le_of_subset (l₂ := intsFrom 0 1000) nd fun x hx => by
    obtain ⟨r, hr, rfl⟩ := List.mem_map.mp hx
    have := g.pc r hr
    have := g.m1
    exact mem_intsFrom.mpr (by omega)
  rwa [List.length_map, length_intsFrom] at h1
theorem Grown.made {many : Int} {P : List PcT} (g : Grown many P) (m10 : many ≤ 10) {ties : List Int} (ht : ∀ t ∈ ties, 0 ≤ t ∧ (t / 2 = 0 ∨ t / 2 ∈ known many P)) (h0 : ties ≠ []) (hl : ties.length ≤ 10000) : m_Board___init__ many P ties = some ⟨many, P, ties⟩ := by
  have := g.len
  refine board_ok g.m1 m10 (by omega) g.rise g.pc g.cl (fun t h => ⟨(ht t h).1, fun h2 => ?_⟩) h0 hl
  have hm := g.m1
  rcases (ht t h).2 with e | e
  · omega
  · rcases known_mem e g with ⟨_, _, c⟩ | ⟨_, c⟩
    · exact c h2
    · omega
end

/-! NE: columns of boards (from k35). -/
section
open PySem
theorem shl2 {many : Nat} (hm : many ≤ 10) : shlO 1 (many : Int) = some ((2 ^ many : Nat) : Int) := by
  have hp := pow_le hm
  have hz := pz many
  exact (shlO_1 (by omega) (by omega)).trans (by rw [pow_c])
theorem shl4 {many : Nat} (hm : many ≤ 10) : shlO 1 ((2 ^ many : Nat) : Int) = some (2 ^ (2 ^ many)) := by
  have hp := pow_le hm
  have hz := pz many
  exact (shlO_1 (by omega) (by omega)).trans (by rw [Int.toNat_natCast])
theorem bit_nat (x i : Nat) : Builtin.bitAnd ((x : Int) / 2 ^ i) 1 = b2i (x.testBit i) := by
  have e := bit_test x i
  have hm : Builtin.bitAnd ((x : Int) / 2 ^ i) 1 = 0 ∨ Builtin.bitAnd ((x : Int) / 2 ^ i) 1 = 1 := by rw [bitAnd_m1]; omega
  cases hf : x.testBit i with
  | true => exact e.mpr hf
  | false =>
    rcases hm with h | h
    · exact h
    · rw [e.mp h] at hf; cases hf
theorem shl_bit (b : Bool) {x : Nat} (hx : x ≤ 100000) : shlO (b2i b) (x : Int) = some (((if b = true then 2 ^ x else 0 : Nat)) : Int) := by
  cases b with
  | true => exact (shlO_1 (by omega) (by omega)).trans (by rw [Int.toNat_natCast]; simp)
  | false =>
    show shlO 0 (x : Int) = some 0
    have := shlO_C (IsC.zero (F := 1)) (by omega) (k := (x : Int)) (by omega) (by omega)
    rw [this]
    simp
section
variable {many : Nat} {rs : List Pc}
theorem rs_len (g : PGood (many : Int) rs) : (rs.length : Int) ≤ 1000 := by
  have : ∀ (i : Nat) (r : Pc), rs[i]? = some r → (many : Int) + i < r.a := by
    intro i
    induction i with
    | zero => intro r h; have := g.asc 0 r h; omega
    | succ i ih =>
      intro r h
      have hi := (List.getElem?_eq_some_iff.mp h).1
      have h' : rs[i]? = some (rs[i]'(by omega)) := List.getElem?_eq_getElem (by omega)
      have := ih _ h'
      have := (g.asc (i + 1) r h).2.2 i _ (by omega) h'
      omega
  by_cases q : rs.length = 0
  · omega
  · have h' : rs[rs.length - 1]? = some (rs[rs.length - 1]'(by omega)) := List.getElem?_eq_getElem (by omega)
    have := this _ _ h'
    have := (g.asc _ _ h').2.1
    omega
theorem base0 (n : Nat) : baseV (many : Int) n 0 = false := by unfold baseV; simp
theorem baseI (n : Nat) {i : Nat} (h : i < many) : baseV (many : Int) n ((i : Int) + 1) = n.testBit i := by
  unfold baseV
  rw [decide_eq_true (show 1 ≤ (i : Int) + 1 ∧ (i : Int) + 1 ≤ many by omega), show ((i : Int) + 1 - 1).toNat = i by omega]
  rfl
def BT (many : Int) (rs : List Pc) (t : Int) : Prop := 0 ≤ t ∧ (t / 2 = 0 ∨ Here many rs rs.length (t / 2))
end
theorem logW {k m : Nat} (hk : k + 3 ≤ m) {c x : Int} (h : x.natAbs ≤ 4 * c.natAbs + 4) (hc : c.natAbs.log2 < k) : x.natAbs.log2 < m := by
  by_cases hx : x.natAbs = 0
  · rw [hx]
    have : Nat.log2 0 = 0 := by decide
    omega
  have h2 : c.natAbs < 2 ^ k := by
    by_cases hz : c.natAbs = 0
    · rw [hz]; exact Nat.two_pow_pos _
    · exact (Nat.log2_lt hz).mp hc
  have h3 : x.natAbs < 2 ^ (k + 3) := by
    rw [Nat.pow_add]
    have := Nat.two_pow_pos k
    omega
  have h4 := (Nat.log2_lt hx).mpr h3
  omega
theorem lgW {j : Int} (h : j.natAbs < 2 ^ 200) : j.natAbs.log2 < 50000000 := Nat.lt_trans (log2_small h) (by decide)
theorem mulW {i j : Int} (h1 : i.natAbs.log2 < 50000000) (h2 : j.natAbs < 2 ^ 200) : mulO i j = some (i * j) := when_ok (by
  have := log2_small h2
  unfold CMulY
  omega)
theorem Grown.good {many : Int} {P : List PcT} (g : Grown many P) : PGood many P := by
  have late : ∀ {i j : Nat} {r r' : PcT}, P[i]? = some r → P[j]? = some r' → r'.a < r.a → j < i := fun {i j r r'} h1 h2 lt => rise_ix g.rise (by rw [List.getElem?_map, h2]; rfl) (by rw [List.getElem?_map, h1]; rfl) lt
  refine ⟨g.m1, fun i r hr => ?_, fun i r hr => ?_, fun i r hr => ?_⟩
  · obtain ⟨a, b, _⟩ := g.pc r (List.mem_of_getElem? hr)
    exact ⟨a, b, fun j r' lt h => rise_val g.rise (by rw [List.getElem?_map, h]; rfl) (by rw [List.getElem?_map, hr]; rfl) lt⟩
  · obtain ⟨_, _, c, d, e, _⟩ := g.pc r (List.mem_of_getElem? hr)
    refine ⟨c, d, e, fun v hv => ?_⟩
    obtain ⟨v1, v2, v3⟩ := g.cl r (List.mem_of_getElem? hr) v hv
    by_cases q : v ≤ many
    · exact .inl ⟨v1, q⟩
    · obtain ⟨r', h1, h2⟩ := v3 (by omega)
      obtain ⟨j, hj⟩ := List.mem_iff_getElem?.mp h1
      exact .inr ⟨j, r', late hr hj (by omega), hj, h2⟩
  · obtain ⟨_, _, _, _, _, n, e, h⟩ := g.pc r (List.mem_of_getElem? hr)
    have e2 : ((2 : Int) ^ ((2 : Nat) ^ r.b.length)) = ((2 ^ 2 ^ r.b.length : Nat) : Int) := by rw [Int.natCast_pow]; rfl
    exact ⟨by omega, by rw [e2]; omega⟩
theorem known_here {many : Int} {P : List PcT} {v : Int} (h : v ∈ known many P) (g : Grown many P) : Here many P P.length v := by
  rcases known_mem h g with ⟨h1, h2, h3⟩ | h
  · by_cases q : v ≤ many
    · exact .inl ⟨h1, q⟩
    · obtain ⟨r, hr, e⟩ := h3 (by omega)
      obtain ⟨j, hj⟩ := List.mem_iff_getElem?.mp hr
      exact .inr ⟨j, r, (List.getElem?_eq_some_iff.mp hj).1, hj, e⟩
  · exact .inl h
end

section
open PySem
theorem cell_at (ns : List Int) (hb : ∀ z ∈ ns, Builtin.Int.intBits z ≤ 1048576) {k : Int} (h : 0 ≤ k) : Ok (m_l_cell_at ns k) fun c => c.natAbs.log2 < 1048577 := by
  unfold m_l_cell_at
  refine ok_if (fun q => ?_) fun _ => ok_some (by decide)
  refine ok_bind (ok_mem (P := fun c => c.natAbs.log2 < 1048577) h (by simpa using q) fun c hc => ?_) fun c h => ok_some h
  have := hb c hc
  unfold Builtin.Int.intBits at this
  split at this
  · rename_i e
    have e : c = 0 := by simpa using e
    subst e; decide
  · omega
section
variable {many : Nat} {rs : List Pc}
/-- the numbers that are there -/
def thr (many : Nat) (rs : List Pc) : List Int := G.intsFrom 1 many ++ rs.map (·.a)
theorem thr_len : (thr many rs).length = many + rs.length := by unfold thr; rw [List.length_append, length_intsFrom, List.length_map]
theorem thr_mem {x : Int} : x ∈ thr many rs ↔ Here (many : Int) rs rs.length x := by
  unfold thr Here
  rw [List.mem_append, mem_intsFrom, List.mem_map]
  refine or_congr ⟨fun h => by omega, fun h => by omega⟩ ⟨fun ⟨r, h1, h2⟩ => ?_, fun ⟨j, r, _, h1, h2⟩ => ⟨r, List.mem_of_getElem? h1, h2⟩⟩
  obtain ⟨j, hj⟩ := List.mem_iff_getElem?.mp h1
  exact ⟨j, r, (List.getElem?_eq_some_iff.mp hj).1, hj, h2⟩
theorem thr_snoc {r : Pc} : thr many (rs ++ [r]) = thr many rs ++ [r.a] := by unfold thr; rw [List.map_append, List.append_assoc]; rfl
/-- made so far: at the last number L -/
structure Made (many : Nat) (rs : List Pc) (L : Int) : Prop where
  g : PGood (many : Int) rs
  last : ∃ us, thr many rs = us ++ [L]
  top : ∀ x ∈ thr many rs, x ≤ L
  bd : L ≤ many + 20 * rs.length
theorem Made.nil (h1 : 1 ≤ many) : Made many [] many := by
  refine ⟨.nil (by omega), ⟨G.intsFrom 1 (many - 1), ?_⟩, fun x hx => ?_, by simp⟩
  · unfold thr
    rw [List.map_nil, List.append_nil, show many = many - 1 + 1 by omega, intsFrom_succ, show many - 1 + 1 - 1 = many - 1 by omega]
    congr 2
    omega
  · have := thr_mem.mp hx
    rcases this with h | ⟨j, _, hj, _⟩
    · omega
    · exact absurd hj (by simp)
theorem Made.snoc {L : Int} (h : Made many rs L) (hr : rs.length < 40) (hmm : many ≤ 10) {r : Pc} (h1 : L < r.a) (h2 : r.a ≤ L + 20) (h4 : 1 ≤ r.b.length ∧ r.b.length ≤ 6 ∧ r.b.Pairwise (· < ·) ∧ ∀ c ∈ r.b, c ∈ thr many rs) (h5 : 0 ≤ r.c ∧ r.c < 2 ^ (2 ^ r.b.length)) : Made many (rs ++ [r]) r.a := by
  have hb := h.bd
  have hmL : (many : Int) ≤ L := h.top many (thr_mem.mpr (.inl ⟨h.g.m1, by omega⟩))
  refine ⟨h.g.snoc (by omega) (by omega) (fun q hq => ?_) ⟨h4.1, h4.2.1, h4.2.2.1, fun c hc => thr_mem.mp (h4.2.2.2 c hc)⟩ h5, ⟨_, thr_snoc⟩, fun x hx => ?_, by rw [List.length_append, List.length_singleton]; push_cast; omega⟩
  · have := h.top q.a (by unfold thr; exact List.mem_append_right _ (List.mem_map_of_mem hq))
    omega
  · rw [thr_snoc] at hx
    rcases List.mem_append.mp hx with hx | hx
    · have := h.top x hx; omega
    · have : x = r.a := by simpa using hx
      omega
theorem Made.at {L : Int} (h : Made many rs L) : atI (thr many rs) (-1) = some L := by
  obtain ⟨us, e⟩ := h.last
  rw [e]
  exact atI_last _ _
theorem set_ok {T xs : List Int} (h1 : 1 ≤ xs.length) (h6 : xs.length ≤ 6) (hx : ∀ x ∈ xs, x ∈ T) : Ok (setI xs) fun cs => 1 ≤ cs.length ∧ cs.length ≤ 6 ∧ cs.Pairwise (· < ·) ∧ ∀ c ∈ cs, c ∈ T := by
  refine ⟨_, when_ok (by omega), ?_⟩
  have hm : ∀ x, x ∈ sortI (uniq xs) ↔ x ∈ xs := fun x => (sortI_perm _).mem_iff.trans mem_uniq
  have hn := (sortI_perm (uniq xs)).nodup_iff.mpr (nodup_uniq xs)
  refine ⟨?_, ?_, ((sortI_le (uniq xs)).and hn).imp fun h => by omega, fun c hc => hx c ((hm c).mp hc)⟩
  · obtain ⟨x, hxm⟩ : ∃ x, x ∈ xs := List.exists_mem_of_length_pos h1
    exact List.length_pos_of_mem ((hm x).mpr hxm)
  · have := List.Nodup.length_le_of_subset hn fun x hx => (hm x).mp hx
    show (sortI (uniq xs)).length ≤ 6
    omega
theorem tab_ok {k : Nat} (hk : k ≤ 6) (z : Int) {Q : Int → Prop} {f : Int → Option Int} (h : ∀ r, 0 ≤ r → r < 2 ^ (2 ^ k) → Q r) (hf : ∀ sh, f sh = modO z sh) : Ok ((shlO 1 (k : Int)).bind fun sh => (shlO 1 sh).bind f) Q := by
  refine ok_at (shl2 (by omega)) (ok_at (shl4 (by omega)) ?_)
  rw [hf]
  have hp : (0 : Int) < 2 ^ (2 ^ k) := by exact_mod_cast Nat.two_pow_pos (2 ^ k)
  exact ok_mod hp h
theorem cut_ok {L : Int} (h : Made many rs L) (hmm : many ≤ 10) (hr : rs.length ≤ 40) (cell : Int) : Ok (m_l_cut cell (thr many rs)) fun cs => 1 ≤ cs.length ∧ cs.length ≤ 6 ∧ cs.Pairwise (· < ·) ∧ ∀ c ∈ cs, c ∈ thr many rs := by
  have hm := h.g.m1
  have hl : ((thr many rs).length : Int) = many + rs.length := by rw [thr_len]; push_cast; rfl
  unfold m_l_cut
  refine ok_bs (ok_bs (ok_at (rngO_0 (by omega) (by omega)) ?_))
  obtain ⟨gf, ez, hg⟩ := mapB_ok (xs := G.intsFrom 0 (1 + cell % 6).toNat) (f := fun (x : Int) => (mulO (1 + cell / 6 % 5) x).bind fun pr => (modO (cell / 30 + pr) ((thr many rs).length : Int)).bind fun re => (atI (thr many rs) (((thr many rs).length : Int) - 1 - re)).bind fun it_ => some it_) (P := fun _ z => z ∈ thr many rs) (by rw [length_intsFrom]; omega) fun x hx => by
    have hx := mem_intsFrom.mp hx
    refine ok_at (mulW (lgW (j := 1 + cell / 6 % 5) (by omega)) (by omega)) (ok_bind (ok_mod (by omega) fun r r0 r1 => (⟨r0, r1⟩ : 0 ≤ r ∧ r < ((thr many rs).length : Int))) fun r ⟨r0, r1⟩ => ok_bind (ok_mem (P := fun y => y ∈ thr many rs) (by omega) (by omega) fun y hy => hy) fun y hy => ok_some hy)
  refine ok_at ez (ok_bind (set_ok (T := thr many rs) (by rw [List.length_map, length_intsFrom]; omega) (by rw [List.length_map, length_intsFrom]; omega) fun x hx => ?_) fun cs hcs => ok_some hcs)
  obtain ⟨y, hy, rfl⟩ := List.mem_map.mp hx
  exact hg y hy
theorem piece_ok {L : Int} (h : Made many rs L) (hmm : many ≤ 10) (hr : rs.length ≤ 40) (cell : Int) : Ok (m_l_piece cell (thr many rs)) fun r => L < r.a ∧ r.a ≤ L + 20 ∧ (1 ≤ r.b.length ∧ r.b.length ≤ 6 ∧ r.b.Pairwise (· < ·) ∧ ∀ c ∈ r.b, c ∈ thr many rs) ∧ 0 ≤ r.c ∧ r.c < 2 ^ (2 ^ r.b.length) := by
  have hm := h.g.m1
  have hl : ((thr many rs).length : Int) = many + rs.length := by rw [thr_len]; push_cast; rfl
  unfold m_l_piece
  refine ok_at h.at (ok_bs (ok_bs (ok_bs (ok_bs (ok_at (rngO_0 (by omega) (by omega)) ?_)))))
  refine ok_bind (ok_fold (fun i (s : Int × List Int) => s.2.length = i ∧ ∀ x ∈ s.2, x ∈ thr many rs) ⟨rfl, fun x hx => by cases hx⟩ fun i x s hx ⟨l1, hs⟩ => ?_) fun s ⟨l1, hs⟩ => ?_
  · unfold m_l_piece_b1
    have hi := (List.getElem?_eq_some_iff.mp hx).1
    rw [length_intsFrom] at hi
    refine ok_bind (ok_mod (by omega) fun r r0 r1 => (⟨r0, r1⟩ : 0 ≤ r ∧ r < ((thr many rs).length : Int))) fun r ⟨r0, r1⟩ => ok_bind (ok_mem (P := fun y => y ∈ thr many rs) r0 r1 fun y hy => hy) fun y hy => ok_at (appO_eq (by omega)) (ok_at (divO_small (by omega) (by omega)) (ok_some ⟨by show (s.2 ++ [y]).length = i + 1; rw [List.length_append, l1]; rfl, fun z hz => ?_⟩))
    rcases List.mem_append.mp hz with hz | hz
    · exact hs z hz
    · have : z = y := by simpa using hz
      exact this ▸ hy
  · rw [length_intsFrom] at l1
    refine ok_bind (set_ok (T := thr many rs) (by omega) (by omega) hs) fun cs hcs => ?_
    have hp : (0 : Int) < 2 ^ (2 ^ cs.length) := by exact_mod_cast Nat.two_pow_pos (2 ^ cs.length)
    refine ok_at (shl2 (by omega)) (ok_at (shl4 (by omega)) (ok_at (modO_eq hp) (ok_some ⟨?_, ?_, hcs, emod_rng _ hp⟩)))
    · show L < L + 1 + cell % 20
      omega
    · show L + 1 + cell % 20 ≤ L + 20
      omega
theorem pieces_ok (hmm : many ≤ 10) (h1 : 1 ≤ many) {cells : List Int} (hl : cells.length ≤ 40) (hc : ∀ c ∈ cells, c.natAbs.log2 < 1048577) : Ok (m_l_pieces cells many) fun rs => PGood (many : Int) rs ∧ rs.length ≤ 40 := by
  unfold m_l_pieces
  refine ok_at (rngO_0 (by omega) (by omega)) (ok_at (mapB_eq (g := fun x => x + 1) (by rw [length_intsFrom]; omega) fun x _ => rfl) ?_)
  have e0 : (G.intsFrom 0 ((many : Nat) : Int).toNat).map (fun x => x + 1) = thr many [] := by
    unfold thr G.intsFrom
    rw [List.map_nil, List.append_nil, List.map_map, Int.toNat_natCast]
    exact List.map_congr_left fun i _ => by show (0 : Int) + (i : Int) + 1 = 1 + (i : Int); omega
  rw [e0]
  refine ok_bind (ok_fold (fun i (s : List Pc × List Int) => ∃ rs L, s = (rs, thr many rs) ∧ Made many rs L ∧ rs.length = i) ⟨[], many, rfl, .nil h1, rfl⟩ fun i x s hx ⟨rs, L, e, h, hi⟩ => ?_) fun s ⟨rs, L, e, h, hi⟩ => ok_some (by subst e; exact ⟨h.g, show rs.length ≤ 40 by omega⟩)
  subst e
  have hlen := (List.getElem?_eq_some_iff.mp hx).1
  have hxc := hc x (List.mem_of_getElem? hx)
  have hm := h.g.m1
  have hb := h.bd
  have hmL : (many : Int) ≤ L := h.top many (thr_mem.mpr (.inl ⟨h.g.m1, by omega⟩))
  have tl := thr_len (many := many) (rs := rs)
  unfold m_l_pieces_b1
  refine ok_if (fun _ => ?_) fun _ => ?_
  · refine ok_bind (piece_ok (rs := rs) h hmm (by omega) (x / 2)) fun r ⟨a1, a2, a3, a4⟩ => ok_at (appO_eq (show rs.length < 16777216 by omega)) (ok_at (atI_last rs r) (ok_at (appO_eq (by show (thr many rs).length < _; omega)) (ok_some ⟨rs ++ [r], r.a, by rw [thr_snoc], h.snoc (by omega) hmm a1 a2 a3 a4, by rw [List.length_append, hi]; rfl⟩)))
  · refine ok_bs (ok_at h.at ?_)
    have hm3 : x / 2 % 3 / 2 = 0 ∨ x / 2 % 3 / 2 = 1 := by omega
    have hm20 := emod_rng (x / 2 / 3) (show (0 : Int) < 20 by decide)
    have hmul : mulO (x / 2 % 3 / 2) (x / 2 / 3 % 20) = some (x / 2 % 3 / 2 * (x / 2 / 3 % 20)) := mulW (lgW (j := x / 2 % 3 / 2) (by omega)) (by omega)
    refine ok_at hmul (ok_bs ?_)
    have hprod : 0 ≤ x / 2 % 3 / 2 * (x / 2 / 3 % 20) ∧ x / 2 % 3 / 2 * (x / 2 / 3 % 20) ≤ 19 := by
      rcases hm3 with e | e <;> rw [e] <;> omega
    generalize x / 2 % 3 / 2 * (x / 2 / 3 % 20) = pr at hprod
    generalize hkn : L + 1 + pr = kn
    have hkr : 2 ≤ kn ∧ kn ≤ 1000 := by omega
    refine ok_bind (cut_ok (rs := rs) h hmm (by omega) _) fun cs hcs => ?_
    have hkl : kn.natAbs < 2 ^ 200 := by omega
    have hx2 : (x / 2).natAbs.log2 < 50000000 := logW (k := 1048577) (by omega) (c := x) (by have := Int.natAbs_ediv_le_natAbs x 2; omega) hxc
    refine ok_at (mulW (lgW (j := (1000000000000000000000 : Int)) (by decide +kernel)) hkl) ?_
    refine ok_at (mulW hx2 (by omega)) (ok_at (mulW (lgW hkl) hkl) ?_)
    have hkk : kn * kn ≤ 1000000 ∧ 0 ≤ kn * kn := by
      constructor
      · have := Int.mul_le_mul hkr.2 hkr.2 (by omega) (by omega); omega
      · exact Int.mul_nonneg (by omega) (by omega)
    refine ok_at (mulW (lgW (j := kn * kn * 69621) (by omega)) (by decide +kernel)) (ok_bs ?_)
    have hp : (0 : Int) < 2 ^ (2 ^ cs.length) := by exact_mod_cast Nat.two_pow_pos (2 ^ cs.length)
    refine ok_at (shl2 (by omega)) (ok_at (shl4 (by omega)) (ok_at (modO_eq hp) ?_))
    generalize hv : (x / 2 * (48271 + 1000000000000000000000 * kn) + kn * kn * 69621 * 100000000000) / 7 % 2 ^ 2 ^ cs.length = v
    have hvr : 0 ≤ v ∧ v < 2 ^ (2 ^ cs.length) := hv ▸ emod_rng _ hp
    refine ok_at (appO_eq (by show rs.length < _; omega)) (ok_at (appO_eq (by show (thr many rs).length < _; omega)) (ok_some ⟨rs ++ [⟨kn, cs, v⟩], kn, ?_, h.snoc (r := ⟨kn, cs, v⟩) (by omega) hmm (by show L < kn; omega) (by show kn ≤ L + 20; omega) hcs hvr, by rw [List.length_append, hi]; rfl⟩))
    rw [thr_snoc]
theorem ties_ok (g : PGood (many : Int) rs) (hmm : many ≤ 10) (hl : rs.length ≤ 1000) (cell : Int) : Ok (m_l_ties cell many rs) fun ts => (∀ t ∈ ts, BT (many : Int) rs t) ∧ ts.length ≤ 16 ∧ ts ≠ [] := by
  have hm := g.m1
  unfold m_l_ties
  refine ok_at (rngO_0 (by omega) (by omega)) (ok_at (mapB_eq (g := id) (by rw [length_intsFrom]; omega) fun x _ => rfl) (ok_at (mapB_eq (g := fun r : Pc => r.a) (by omega) fun x _ => rfl) ?_))
  rw [List.map_id]
  have hlen : (G.intsFrom 0 ((many : Int) + 1).toNat ++ rs.map fun r : Pc => r.a).length = many + 1 + rs.length := by rw [List.length_append, length_intsFrom, List.length_map]; omega
  refine ok_at (when_ok (by rw [sizeLine_eq, length_intsFrom, List.length_map]; omega)) ?_
  have hmem : ∀ x ∈ G.intsFrom 0 ((many : Int) + 1).toNat ++ rs.map fun r : Pc => r.a, x = 0 ∨ Here (many : Int) rs rs.length x := fun x hx => by
    rcases List.mem_append.mp hx with hx | hx
    · have hx := mem_intsFrom.mp hx
      by_cases q : x = 0
      · exact .inl q
      · exact .inr (.inl (by omega))
    · exact .inr (thr_mem.mp (by unfold thr; exact List.mem_append_right _ hx))
  generalize G.intsFrom 0 ((many : Int) + 1).toNat ++ rs.map (fun r : Pc => r.a) = ct at hlen hmem
  refine ok_at (rngO_0 (by omega) (by omega)) (ok_bind (ok_fold (fun i (ts : List Int) => ts.length = i ∧ ∀ t ∈ ts, BT (many : Int) rs t) ⟨rfl, fun t ht => by cases ht⟩ fun i x ts hx ⟨l1, hts⟩ => ?_) fun ts ⟨l1, hts⟩ => ok_some ⟨hts, ?_, ?_⟩)
  · have hi := (List.getElem?_eq_some_iff.mp hx).1
    rw [length_intsFrom] at hi
    unfold m_l_ties_b1
    refine ok_bind (ok_mod (by omega) fun r r0 r1 => (⟨r0, r1⟩ : 0 ≤ r ∧ r < (ct.length : Int))) fun r hr => ok_bind (P := fun z => 0 ≤ z ∧ z < (ct.length : Int)) (ok_if (fun _ => ok_bind (ok_mod (i := cell / 16 + x) (j := min (ct.length : Int) 5) (by omega) fun r r0 r1 => (⟨r0, r1⟩ : 0 ≤ r ∧ r < min (ct.length : Int) 5)) fun r hr => ok_bs (ok_some (by omega))) fun _ => ok_some hr) fun z hz => ok_bind (ok_mem (P := fun y => y = 0 ∨ Here (many : Int) rs rs.length y) hz.1 hz.2 hmem) fun y hy => ok_at (appO_eq (by omega)) (ok_some ⟨by rw [List.length_append, l1]; rfl, fun t ht => ?_⟩)
    rcases List.mem_append.mp ht with ht | ht
    · exact hts t ht
    · have : t = 2 * y + (cell / 5 + x) % 2 := by simpa using ht
      have hy0 : 0 ≤ y := by
        rcases hy with rfl | hy
        · exact Int.le_refl _
        · have := hy.pos g; omega
      refine ⟨by omega, ?_⟩
      rw [show t / 2 = y by omega]
      exact hy
  · rw [length_intsFrom] at l1
    omega
  · rw [length_intsFrom] at l1
    intro e
    rw [e] at l1
    simp at l1
    omega
end
theorem map_T3 {rs : List Pc} (hl : rs.length ≤ 1000) : mapB (fun (x : Pc) => some (T3.mk x.a x.b x.c)) rs = some rs :=
  (mapB_eq (g := id) (by omega) fun x _ => rfl).trans (by rw [List.map_id])
end
section
open PySem
theorem xb_ok {C R M β : Type} {r : R} {f : C → M → Option β} {k : R → Option β} : xbind (some (.ok r)) f k = k r := rfl
theorem xb_ex {C R M β : Type} {c : C} {m : M} {f : C → M → Option β} {k : R → Option β} : xbind (some (.ex c m)) f k = f c m := rfl
theorem foldC_of {S R α : Type} {f : S → α → Option S} {g : S → α → Option (Ctl S R)} (h : ∀ s x r, f s x = some r → g s x = some (.go r)) : ∀ (xs : List α) (s r : S), foldO f s xs = some r → ∀ ys, foldC g s (xs ++ ys) = foldC g r ys
  | [], s, r, e, ys => by cases e; rfl
  | x :: xs, s, r, e, ys => by
    have e : (f s x).bind (fun s' => foldO f s' xs) = some r := e
    cases q : f s x with
    | none => rw [q] at e; cases e
    | some s' =>
      rw [q] at e
      show ((g s x).bind fun | .go s' => foldC g s' (xs ++ ys) | .brk s' => some (.go s') | .ret r => some (.ret r)) = _
      rw [h _ _ _ q]
      exact foldC_of h xs s' r e ys
theorem foldC_all' {S R α : Type} {f : S → α → Option S} {g : S → α → Option (Ctl S R)} (h : ∀ s x r, f s x = some r → g s x = some (.go r)) {xs : List α} {s r : S} (e : foldO f s xs = some r) : foldC g s xs = some (.go r) := by
  have := foldC_of h xs s r e []
  rw [List.append_nil] at this
  exact this
theorem foldC_ret {S R α : Type} {g : S → α → Option (Ctl S R)} {s : S} {x : α} {r : R} (h : g s x = some (.ret r)) (ys : List α) : foldC g s (x :: ys) = some (.ret r) := by
  show ((g s x).bind fun | .go s' => foldC g s' ys | .brk s' => some (.go s') | .ret r => some (.ret r)) = _
  rw [h]
  rfl
theorem foldC_go {S R α : Type} {g : S → α → Option (Ctl S R)} {s s' : S} {x : α} (h : g s x = some (.go s')) {ys : List α} : foldC g s (x :: ys) = foldC g s' ys := by
  show ((g s x).bind fun | .go s' => foldC g s' ys | .brk s' => some (.go s') | .ret r => some (.ret r)) = _
  rw [h]
  rfl
theorem Grown.ahead {many : Int} {A B : List PcT} (g : Grown many (A ++ B)) : Grown many A := by
  refine ⟨g.m1, ?_, fun r hr => g.pc r (List.mem_append_left _ hr), fun r hr v hv => ?_⟩
  · have := g.rise
    rw [List.map_append] at this
    exact (List.pairwise_append.mp this).1
  · obtain ⟨h1, h2, h3⟩ := g.cl r (List.mem_append_left _ hr) v hv
    refine ⟨h1, h2, fun h => ?_⟩
    obtain ⟨r', hr', e⟩ := h3 h
    rcases List.mem_append.mp hr' with z | z
    · exact ⟨r', z, e⟩
    · have p := g.rise
      rw [List.map_append] at p
      have := (List.pairwise_append.mp p).2.2 _ (List.mem_map_of_mem hr) _ (List.mem_map_of_mem z)
      omega
structure Stands (many : Int) (A : List PcT) (st : Int × List (Int × Bool) × List PcT) : Prop where
  top : ∀ v ∈ known many A, v ≤ st.1
  lt : st.1 < 1000
  ln : st.2.1.length ≤ 10 + A.length
  here : ∀ x, (dget st.2.1 x).isSome = true ↔ x ∈ known many A
  rows : st.2.2 = A
theorem known_iff {many : Int} {A : List PcT} {x : Int} : x ∈ known many A ↔ (1 ≤ x ∧ x ≤ many) ∨ ∃ r ∈ A, r.a = x := by
  unfold known
  rw [List.mem_append, mem_intsFrom, List.mem_map]
  constructor
  · rintro (h | h)
    · exact .inl (by omega)
    · exact .inr h
  · rintro (h | h)
    · exact .inl (by omega)
    · exact .inr h
theorem stands_ok {many : Int} {A : List PcT} (g : Grown many A) (m10 : many ≤ 10) : Ok ((rngO (0 : Int) many).bind fun rg => (foldO m_Board___init___b1 ([] : (List (Int × Bool))) rg).bind fun sn => foldO m_Board___init___b2 (many, sn, ([] : (List PcT))) A) (Stands many A) := by
  have hm := g.m1
  have hl := g.len
  have rise := g.rise
  have hr := g.pc
  have hc := g.cl
  refine ok_at (rngO_0 (by omega) (by omega)) ?_
  refine ok_bind (ok_fold (fun i (d : List (Int × Bool)) => d.length ≤ i ∧ ∀ x, (dget d x).isSome = true ↔ 1 ≤ x ∧ x ≤ i) ⟨Nat.le_refl _, fun x => ⟨fun h => (by simp [dget] at h), fun h => (by omega)⟩⟩ fun i x d hx ⟨d1, d2⟩ => ?_) fun d ⟨d1, d2⟩ => ?_
  · obtain ⟨hi, rfl⟩ := ints_atL hx
    unfold m_Board___init___b1
    have := dput_len d (0 + (i : Int) + 1) true
    refine ok_at (dputO_eq (by omega)) (ok_some ⟨by omega, fun x => ?_⟩)
    rw [dget_put]
    by_cases q : 0 + (i : Int) + 1 = x
    · rw [if_pos q]; simp; omega
    · rw [if_neg q, d2 x]; omega
  · rw [length_intsFrom] at d1 d2
    have later : ∀ {j j' : Nat} {q q' : PcT}, A[j]? = some q → A[j']? = some q' → q.a < q'.a → j < j' := fun {j j' q q'} h1 h2 lt => rise_ix rise (by rw [List.getElem?_map, h1]; rfl) (by rw [List.getElem?_map, h2]; rfl) lt
    have after : ∀ {j j' : Nat} {q q' : PcT}, A[j]? = some q → A[j']? = some q' → j < j' → q.a < q'.a := fun {j j' q q'} h1 h2 lt => rise_val rise (by rw [List.getElem?_map, h1]; rfl) (by rw [List.getElem?_map, h2]; rfl) lt
    suffices key : Ok (foldO m_Board___init___b2 (many, d, ([] : List PcT)) A) fun st => (many ≤ st.1 ∧ ∀ j, j < A.length → ∀ r, A[j]? = some r → r.a ≤ st.1) ∧ st.1 < 1000 ∧ (∀ j, A.length ≤ j → ∀ r, A[j]? = some r → st.1 < r.a) ∧ st.2.1.length ≤ 10 + A.length ∧ (∀ x, (dget st.2.1 x).isSome = true ↔ (1 ≤ x ∧ x ≤ many) ∨ ∃ j r, j < A.length ∧ A[j]? = some r ∧ r.a = x) ∧ st.2.2 = A.take A.length by
      obtain ⟨st, e, i0, i1, _, i3, i4, i5⟩ := key
      refine ⟨st, e, fun v hv => ?_, i1, i3, fun x => ?_, by rw [i5, List.take_length]⟩
      · rcases known_iff.mp hv with h | ⟨r, hr, e⟩
        · omega
        · obtain ⟨j, hj⟩ := List.mem_iff_getElem?.mp hr
          have := i0.2 j (List.getElem?_eq_some_iff.mp hj).1 r hj
          omega
      · refine (i4 x).trans (known_iff.trans ⟨fun h => h.imp_right fun ⟨r, hr, e⟩ => ?_, fun h => h.imp_right fun ⟨j, r, _, hj, e⟩ => ⟨r, List.mem_of_getElem? hj, e⟩⟩).symm
        obtain ⟨j, hj⟩ := List.mem_iff_getElem?.mp hr
        exact ⟨j, r, (List.getElem?_eq_some_iff.mp hj).1, hj, e⟩
    refine ok_fold (fun i (st : Int × List (Int × Bool) × List PcT) => (many ≤ st.1 ∧ ∀ j, j < i → ∀ r, A[j]? = some r → r.a ≤ st.1) ∧ st.1 < 1000 ∧ (∀ j, i ≤ j → ∀ r, A[j]? = some r → st.1 < r.a) ∧ st.2.1.length ≤ 10 + i ∧ (∀ x, (dget st.2.1 x).isSome = true ↔ (1 ≤ x ∧ x ≤ many) ∨ ∃ j r, j < i ∧ A[j]? = some r ∧ r.a = x) ∧ st.2.2 = A.take i) ⟨⟨Int.le_refl _, fun j h => absurd h (Nat.not_lt_zero _)⟩, by show many < 1000; omega, fun j _ r hj => (hr r (List.mem_of_getElem? hj)).1, by show d.length ≤ 10 + 0; omega, fun x => ?_, rfl⟩ fun i r st hx ⟨i0, i1, i2, i3, i4, i5⟩ => ?_
    · show (dget d x).isSome = true ↔ _
      rw [d2 x]
      constructor
      · intro h; exact .inl (by omega)
      · rintro (h | ⟨j, _, hj, _⟩)
        · omega
        · omega
    · obtain ⟨last, here, rows⟩ := st
      have i5 : rows = A.take i := i5
      subst i5
      have i3 : here.length ≤ 10 + i := i3
      have hrm := List.mem_of_getElem? hx
      obtain ⟨r1, r2, r3, r4, r5, n, r6, r7⟩ := hr r hrm
      have hi := (List.getElem?_eq_some_iff.mp hx).1
      have hlast := i2 i (Nat.le_refl _) r hx
      have hdl := dput_len here r.a true
      have et : A.take i ++ [r] = A.take (i + 1) := by rw [List.take_add_one, hx]; rfl
      unfold m_Board___init___b2 m_is_whole
      refine ok_bs (ok_F (by rw [decide_eq_true hlast, decide_eq_true r2]; rfl) (ok_at (check_ok r3 r4 r5 fun v hv => ?_) (ok_bs (ok_bind (P := fun t : Bool => t = false) (ok_F rfl (ok_at (every_is (by omega) (by omega)) (ok_some ?_))) fun t ht => ok_F ht (ok_at (appO_eq (by rw [List.length_take]; omega)) (ok_at (dputO_eq (by show here.length < _; omega)) (ok_some ⟨⟨by show many ≤ r.a; omega, fun j hj q hq => ?_⟩, r2, fun j hj q hq => after hx hq (by omega), by show (dput here r.a true).length ≤ _; omega, fun x => ?_, ?_⟩)))))))
      · obtain ⟨c1, c2, c3⟩ := hc r hrm v hv
        refine ⟨by omega, (i4 v).mpr ?_⟩
        by_cases q : v ≤ many
        · exact .inl ⟨c1, q⟩
        · obtain ⟨r', hr', e⟩ := c3 (by omega)
          obtain ⟨j, hj⟩ := List.mem_iff_getElem?.mp hr'
          exact .inr ⟨j, r', later hj hx (by omega), hj, e⟩
      · rw [Int.toNat_natCast, r6]
        have e2 : ((2 : Int) ^ ((2 : Nat) ^ r.b.length)) = ((2 ^ 2 ^ r.b.length : Nat) : Int) := by rw [Int.natCast_pow]; rfl
        rw [e2, decide_eq_true (by omega), decide_eq_true (by omega)]
        rfl
      · show q.a ≤ r.a
        by_cases z : j = i
        · subst z
          rw [hx] at hq
          cases hq
          exact Int.le_refl _
        · have := after hq hx (by omega)
          omega
      · show (dget (dput here r.a true) x).isSome = true ↔ _
        rw [dget_put]
        by_cases q : r.a = x
        · rw [if_pos q]
          exact ⟨fun _ => .inr ⟨i, r, by omega, hx, q⟩, fun _ => rfl⟩
        · rw [if_neg q]
          refine (i4 x).trans ⟨fun h => h.imp_right fun ⟨j, q', a, b, c⟩ => ⟨j, q', by omega, b, c⟩, fun h => h.imp_right fun ⟨j, q', a, b, c⟩ => ⟨j, q', ?_, b, c⟩⟩
          by_cases z : j = i
          · subst z
            rw [hx] at b
            cases b
            exact absurd c q
          · omega
      · exact et
theorem at_n {A : Type} {xs ys : List A} {y : A} {j : Int} (h : j = xs.length) : atI (xs ++ y :: ys) j = some y := by
  rw [atI_nn _ (by omega), show j.toNat = xs.length by omega, List.getElem?_append_right (Nat.le_refl _), Nat.sub_self]
  rfl
theorem lput_n {A : Type} {xs ys : List A} {y z : A} {j : Int} (h : j = xs.length) : lputO (xs ++ y :: ys) j z = some (xs ++ z :: ys) := by
  rw [lputO_in (by omega) (by rw [List.length_append, List.length_cons]; omega), show j.toNat = xs.length by omega, List.set_append_right _ _ (Nat.le_refl _), Nat.sub_self]
  rfl
theorem good_grown {many : Int} {rs : List Pc} (g : PGood many rs) : Grown many rs := by
  refine ⟨g.m1, ?_, fun r hr => ?_, fun r hr v hv => ?_⟩
  · rw [List.pairwise_map, List.pairwise_iff_getElem]
    intro i j hi hj hij
    exact (g.asc j _ (List.getElem?_eq_getElem hj)).2.2 i _ hij (List.getElem?_eq_getElem hi)
  · obtain ⟨i, hi⟩ := List.mem_iff_getElem?.mp hr
    obtain ⟨a1, a2, _⟩ := g.asc i r hi
    obtain ⟨b1, b2, b3, _⟩ := g.cut i r hi
    obtain ⟨c1, c2⟩ := g.tab i r hi
    obtain ⟨n, en⟩ := Int.eq_ofNat_of_zero_le c1
    exact ⟨a1, a2, b1, b2, b3, n, en, by rw [en] at c2; exact_mod_cast c2⟩
  · obtain ⟨i, hi⟩ := List.mem_iff_getElem?.mp hr
    obtain ⟨_, _, _, b4⟩ := g.cut i r hi
    have h := b4 v hv
    have lt := Here.lt g hi h
    have ps := Here.pos g h
    refine ⟨ps.1, lt, fun hm => ?_⟩
    rcases h with h | ⟨j, r', _, hj, e⟩
    · omega
    · exact ⟨r', List.mem_of_getElem? hj, e⟩
theorem bt_known {many : Int} {rs : List Pc} {t : Int} (h : BT many rs t) : 0 ≤ t ∧ (t / 2 = 0 ∨ t / 2 ∈ known many rs) := ⟨h.1, h.2.imp_right fun z => known_iff.mpr (z.imp id fun ⟨j, r, _, hj, e⟩ => ⟨r, List.mem_of_getElem? hj, e⟩)⟩
/-! ### told -/
theorem all_true {A : Type} (l : List A) : (l.map fun _ => true).all id = true := List.all_eq_true.mpr fun x hx => by
  obtain ⟨_, _, rfl⟩ := List.mem_map.mp hx
  rfl
theorem told_ok {many : Int} {P : List Pc} {ts : List Int} (g : Grown many P) (hl : ts.length ≤ 1000) : m_l_told ⟨many, P, ts⟩ many P ts = some true := by
  have hP := g.len
  suffices h : Ok (m_l_told ⟨many, P, ts⟩ many P ts) fun b => b = true by obtain ⟨b, e, rfl⟩ := h; exact e
  unfold m_l_told
  refine ok_at (a := P) (by unfold m_Board_pieces; rw [map_T3 hP]; rfl) (ok_at (a := ts) rfl (ok_at (a := true) rfl (ok_F (by simp) ?_)))
  refine ok_at (a := .go ()) (foldC_unit fun r hr => ?_) (ok_el ?_)
  · unfold m_l_told_b1
    have h6 : r.b.length ≤ 6 := (g.pc r hr).2.2.2.1
    have e1 : extO ([r.a, r.c] : List Int) r.b = some ([r.a, r.c] ++ r.b) := when_ok (by rw [sizeLine_eq]; show 2 + r.b.length ≤ _; omega)
    have e2 : mapB (fun (x_1 : Int) => ((m_l_whole x_1).bind fun r_whole_1 => some r_whole_1)) ([r.a, r.c] ++ r.b) = some (([r.a, r.c] ++ r.b).map fun _ => true) := mapB_eq (by rw [List.length_append]; show 2 + r.b.length ≤ _; omega) fun x _ => rfl
    rw [if_neg (by decide), e1, Option.bind_some, e2, Option.bind_some, all_true, if_neg (by decide)]
  · have e3 : mapB (fun (x_2 : Int) => ((m_l_whole x_2).bind fun r_whole_2 => some r_whole_2)) ts = some (ts.map fun _ => true) := mapB_eq (by omega) fun x _ => rfl
    refine ok_bind (P := fun t : Bool => t = false) (ok_F rfl (ok_bind (P := fun t : Bool => t = false) (ok_F (by simp) (ok_at e3 (ok_some (by rw [all_true]; rfl)))) fun t ht => ok_some ht)) fun t ht => ok_F ht ?_
    refine ok_bind (ok_fold (fun i (st : List Pc) => True) trivial fun i r st hr _ => ?_) fun st _ => ok_at (appO_eq (by show ts.length < _; omega)) (ok_some rfl)
    have h6 : r.b.length ≤ 6 := (g.pc r (List.mem_of_getElem? hr)).2.2.2.1
    unfold m_l_told_b2
    exact ok_at (appO_eq (by omega)) (ok_some trivial)
theorem copy_ok {P : List Pc} (hl : P.length ≤ 1000) : m_l_copy P = some P := by
  unfold m_l_copy
  rw [map_T3 hl]
  rfl
/-! ### refused -/
def emP (r : Pc) : T3 Anyv (List Anyv) Anyv := ⟨.i r.a, r.b.map .i, .i r.c⟩
theorem copy3_ok {P : List Pc} (hl : P.length ≤ 1000) : m_l_copy_3 P = some (P.map emP) := by
  unfold m_l_copy_3
  have e : mapB (fun (x : Pc) => some (T3.mk (Anyv.i x.a) (emb x.b : List Anyv) (Anyv.i x.c))) P = some (P.map emP) := mapB_eq (by omega) fun x _ => rfl
  rw [e]
  rfl
theorem emb_ints (xs : List Int) : (emb xs : List Anyv) = xs.map .i := rfl
theorem refused_ok {m : Anyv} {P : List (T3 Anyv (List Anyv) Anyv)} {ts : List Anyv} (h : m_Board___init___x m P ts = some (.ex Xc.NoBoard ())) : m_l_refused m P ts = some true := by
  unfold m_l_refused
  rw [h, xb_ex, if_pos (decide_eq_true rfl), xb_ex]
  decide
def Wh (x : Anyv) : Bool := x.isI && !x.isB
theorem wh_i (v : Int) : m_is_whole_2 (.i v) = some true := rfl
theorem wh_no {x : Anyv} (h : Wh x = false) : m_is_whole_2 x = some false := congrArg some h
theorem cut_x {c : List Int} {here : List (Int × Bool)} (h : m_check_cut c here = some ()) : m_check_cut_x (c.map .i) here = some (.ok ()) := by
  unfold m_check_cut at h
  unfold m_check_cut_x
  rw [List.length_map]
  split at h
  · cases h
  · rename_i q
    rw [if_neg q]
    obtain ⟨sn, e, _⟩ := Option.bind_eq_some_iff.mp h
    have key : ∀ (xs : List Int) (s r : Int), foldO (m_check_cut_b1 here) s xs = some r → ∀ ys, foldC (m_check_cut_x_b1 here) s (xs.map Anyv.i ++ ys) = foldC (m_check_cut_x_b1 here) r ys := by
      intro xs
      induction xs with
      | nil => intro s r e ys; cases e; rfl
      | cons x xs ih =>
        intro s r e ys
        have e : (m_check_cut_b1 here s x).bind (fun s' => foldO (m_check_cut_b1 here) s' xs) = some r := e
        obtain ⟨s', e1, e2⟩ := Option.bind_eq_some_iff.mp e
        rw [List.map_cons, List.cons_append, foldC_go (s' := s') ?_]
        · exact ih s' r e2 ys
        · unfold m_check_cut_b1 m_is_whole at e1
          unfold m_check_cut_x_b1
          rw [wh_i]
          show Option.bind (if (!true) = true then _ else Option.bind (some x) _) _ = _
          rw [if_neg (by decide), Option.bind_some]
          rw [Option.bind_some] at e1
          split at e1
          · cases e1
          · rename_i q
            cases e1
            by_cases q1 : x ≤ s
            · exact absurd (by rw [decide_eq_true q1]; rfl) q
            · rw [decide_eq_false q1, if_neg (by decide)]
              cases q2 : (dget here x).isSome with
              | false => exact absurd (by rw [q2]; simp) q
              | true =>
                show Option.bind (Option.bind (some (!(dget here x).isSome)) _) _ = _
                rw [q2]
                rfl
    have := key c 0 sn e []
    rw [List.append_nil] at this
    rw [this]
    rfl
theorem b2_x {s : Int × List (Int × Bool) × List Pc} {x : Pc} {r : Int × List (Int × Bool) × List Pc} (h : m_Board___init___b2 s x = some r) : m_Board___init___x_b2 s (emP x) = some (.go r) := by
  unfold m_Board___init___b2 m_is_whole at h
  unfold m_Board___init___x_b2
  rw [Option.bind_some] at h
  split at h
  · cases h
  · rename_i q
    have q : (decide (s.1 < x.a) && decide (x.a < (1000 : Int))) = true := by
      cases z : (decide (s.1 < x.a) && decide (x.a < (1000 : Int))) with
      | true => rfl
      | false => exact absurd (by rw [z]; rfl) q
    obtain ⟨u, e, h⟩ := Option.bind_eq_some_iff.mp h
    rw [Option.bind_some, if_neg (by decide)] at h
    obtain ⟨tv, e2, h⟩ := Option.bind_eq_some_iff.mp h
    obtain ⟨ev, e3, e4⟩ := Option.bind_eq_some_iff.mp e2
    have e4 : tv = !(decide ((0 : Int) ≤ x.c) && decide (x.c ≤ ev)) := (Option.some.inj e4).symm
    show Option.bind (some true) _ = _
    rw [Option.bind_some, if_neg (by decide)]
    show Option.bind (Option.bind (some x.a) _) _ = _
    rw [Option.bind_some, Option.bind_some, q, if_neg (by decide)]
    show xbind (m_check_cut_x (x.b.map .i) s.2.1) _ _ = _
    rw [cut_x e, xb_ok]
    show Option.bind (some true) _ = _
    rw [Option.bind_some, if_neg (by decide)]
    show Option.bind (Option.bind (m_every_lighting ((x.b.map Anyv.i).length : Int)) fun ev => Option.bind (some x.c) _) _ = _
    rw [List.length_map, e3, Option.bind_some, Option.bind_some, Option.bind_some, ← e4]
    split at h
    · cases h
    · rename_i q2
      rw [if_neg q2]
      obtain ⟨rows, e5, h⟩ := Option.bind_eq_some_iff.mp h
      obtain ⟨d, e6, h⟩ := Option.bind_eq_some_iff.mp h
      cases h
      show Option.bind (some x.a) _ = _
      rw [Option.bind_some]
      show Option.bind (allI (x.b.map Anyv.i)) _ = _
      rw [allI_map, Option.bind_some]
      show Option.bind (some x.c) _ = _
      rw [Option.bind_some, e5, Option.bind_some]
      show Option.bind (some x.a) _ = _
      rw [Option.bind_some, e6]
      rfl
theorem fold_x {P : List Pc} : ∀ (s r : Int × List (Int × Bool) × List Pc), foldO m_Board___init___b2 s P = some r → ∀ ys, foldC m_Board___init___x_b2 s (P.map emP ++ ys) = foldC m_Board___init___x_b2 r ys := by
  induction P with
  | nil => intro s r e ys; cases e; rfl
  | cons x xs ih =>
    intro s r e ys
    have e : (m_Board___init___b2 s x).bind (fun s' => foldO m_Board___init___b2 s' xs) = some r := e
    obtain ⟨s', e1, e2⟩ := Option.bind_eq_some_iff.mp e
    rw [List.map_cons, List.cons_append, foldC_go (b2_x e1)]
    exact ih s' r e2 ys
/-- the number of inputs is none -/
theorem x_many {m : Anyv} (h : Wh m = false ∨ ∃ v, m = .i v ∧ (v < 1 ∨ 10 < v)) (P : List (T3 Anyv (List Anyv) Anyv)) (ts : List Anyv) : m_Board___init___x m P ts = some (.ex Xc.NoBoard ()) := by
  unfold m_Board___init___x
  rcases h with h | ⟨v, rfl, h⟩
  · rw [wh_no h]
    rfl
  · rw [wh_i, Option.bind_some]
    show Option.bind (if (!true) = true then _ else Option.bind (some v) _) _ = _
    rw [if_neg (by decide), Option.bind_some, Option.bind_some, if_pos]
    by_cases q : (1 : Int) ≤ v
    · rw [decide_eq_false (p := v ≤ 10) (by omega), Bool.and_false]; rfl
    · rw [decide_eq_false q, Bool.false_and]; rfl
theorem x_at {many : Int} {A : List Pc} (g : Grown many A) (m10 : many ≤ 10) (B : List (T3 Anyv (List Anyv) Anyv)) (ts : List Anyv) : ∃ st, Stands many A st ∧ m_Board___init___x (.i many) (A.map emP ++ B) ts = (foldC m_Board___init___x_b2 st B).bind fun cv => cv.el (fun sn_1 => ((foldC (m_Board___init___x_b3 sn_1) ([] : (List Int)) ts).bind fun cv_1 => cv_1.el (fun sn_2 => if (decide (sn_2 = ([] : (List Int)))) = true then (some (Rz.ex Xc.NoBoard ())) else some (Rz.ok (S_Board.mk many sn_1.2.2 sn_2))) (fun q__ => some q__))) (fun q__ => some q__) := by
  have hm := g.m1
  obtain ⟨st, e, hs⟩ := stands_ok g m10
  obtain ⟨rg, e1, e⟩ := Option.bind_eq_some_iff.mp e
  obtain ⟨d, e2, e⟩ := Option.bind_eq_some_iff.mp e
  refine ⟨st, hs, ?_⟩
  have e2 : foldO m_Board___init___x_b1 ([] : (List (Int × Bool))) rg = some d := e2
  unfold m_Board___init___x
  rw [wh_i, Option.bind_some]
  show Option.bind (if (!true) = true then _ else Option.bind (some many) _) _ = _
  rw [if_neg (by decide), Option.bind_some, Option.bind_some, decide_eq_true hm, decide_eq_true m10, if_neg (by decide)]
  show Option.bind (some many) _ = _
  rw [Option.bind_some]
  show Option.bind (some many) _ = _
  rw [Option.bind_some, e1, Option.bind_some, e2, Option.bind_some]
  show Option.bind (some many) _ = _
  rw [Option.bind_some, fold_x _ _ e B]
end
section
open PySem
theorem cut_tail {A : Type} (x : A) (ws : List A) : cutL (x :: ws) (some 1) none = ws := by
  unfold cutL
  rw [show HT.sIx (x :: ws).length 0 (some 1) = 1 by rw [show (some (1 : Int)) = some ((1 : Nat) : Int) from rfl, HT.sIx_nat, List.length_cons]; omega, HT.sIx_none]
  show (ws).take ((x :: ws).length - 1) = ws
  rw [List.length_cons, Nat.add_sub_cancel, List.take_length]
theorem cut_but {A : Type} (xs : List A) (y : A) : cutL (xs ++ [y]) none (some (-1)) = xs := by
  unfold cutL
  have h1 : HT.sIx (xs ++ [y]).length 0 none = 0 := by unfold HT.sIx; simp
  have h2 : HT.sIx (xs ++ [y]).length (xs ++ [y]).length (some (-1)) = xs.length := by unfold HT.sIx; simp; omega
  rw [h1, h2]
  simp
end
section
open PySem
theorem ret_of {many : Int} {A : List Pc} {B : List (T3 Anyv (List Anyv) Anyv)} {ts : List Anyv} (g : Grown many A) (m10 : many ≤ 10) {r : T3 Anyv (List Anyv) Anyv} (h : ∀ st, Stands many A st → m_Board___init___x_b2 st r = some (.ret (.ex Xc.NoBoard ()))) : m_Board___init___x (.i many) (A.map emP ++ r :: B) ts = some (.ex Xc.NoBoard ()) := by
  obtain ⟨st, hs, e⟩ := x_at g m10 (r :: B) ts
  rw [e, foldC_ret (h st hs)]
  rfl
/-- a knot that has no place -/
theorem bad_knot {st : Int × List (Int × Bool) × List Pc} {r : T3 Anyv (List Anyv) Anyv} (h : Wh r.a = false ∨ ∃ v, r.a = .i v ∧ (v ≤ st.1 ∨ 1000 ≤ v)) : m_Board___init___x_b2 st r = some (.ret (.ex Xc.NoBoard ())) := by
  unfold m_Board___init___x_b2
  rcases h with h | ⟨v, e, h⟩
  · rw [wh_no h]
    rfl
  · rw [e, wh_i, Option.bind_some]
    show Option.bind (if (!true) = true then _ else Option.bind (some v) _) _ = _
    rw [if_neg (by decide), Option.bind_some, Option.bind_some, if_pos]
    by_cases q : st.1 < v
    · rw [decide_eq_false (p := v < 1000) (by omega), Bool.and_false]; rfl
    · rw [decide_eq_false q, Bool.false_and]; rfl
/-- behind a knot: as its cut and its table are -/
theorem past_knot {st : Int × List (Int × Bool) × List Pc} {v : Int} {b : List Anyv} {c : Anyv} (h : m_check_cut_x b st.2.1 = some (.ex Xc.NoBoard ()) ∨ m_check_cut_x b st.2.1 = some (.ok ()) ∧ b.length ≤ 6 ∧ (Wh c = false ∨ ∃ z, c = .i z ∧ (z < 0 ∨ 2 ^ 2 ^ b.length ≤ z))) : m_Board___init___x_b2 st ⟨.i v, b, c⟩ = some (.ret (.ex Xc.NoBoard ())) := by
  by_cases q : st.1 < v ∧ v < 1000
  · unfold m_Board___init___x_b2
    show Option.bind (some true) _ = _
    rw [Option.bind_some, if_neg (by decide)]
    show Option.bind (Option.bind (some v) _) _ = _
    rw [Option.bind_some, Option.bind_some, decide_eq_true q.1, decide_eq_true q.2, if_neg (by decide)]
    rcases h with h | ⟨h, hl, h2⟩
    · show xbind (m_check_cut_x b st.2.1) _ _ = _
      rw [h, xb_ex]
    · show xbind (m_check_cut_x b st.2.1) _ _ = _
      rw [h, xb_ok]
      rcases h2 with h2 | ⟨z, rfl, h2⟩
      · show Option.bind (m_is_whole_2 c) _ = _
        rw [wh_no h2]
        rfl
      · show Option.bind (some true) _ = _
        rw [Option.bind_some, if_neg (by decide)]
        show Option.bind (Option.bind (m_every_lighting (b.length : Int)) fun ev => Option.bind (some z) _) _ = _
        rw [every_is (by omega) (by omega), Option.bind_some, Option.bind_some, Option.bind_some, if_pos]
        have e2 : ((2 : Int) ^ ((2 : Nat) ^ ((b.length : Int)).toNat)) = ((2 ^ 2 ^ b.length : Nat) : Int) := by rw [Int.natCast_pow, Int.toNat_natCast]; rfl
        have e3 : ((2 : Int) ^ ((2 : Nat) ^ b.length)) = ((2 ^ 2 ^ b.length : Nat) : Int) := by rw [Int.natCast_pow]; rfl
        rw [e3] at h2
        rw [e2]
        have hp := Nat.two_pow_pos (2 ^ b.length)
        by_cases z0 : (0 : Int) ≤ z
        · rw [decide_eq_false (p := z ≤ _) (by omega), Bool.and_false]; rfl
        · rw [decide_eq_false z0, Bool.false_and]; rfl
  · exact bad_knot (.inr ⟨v, rfl, by omega⟩)
/-! cuts that are none -/
theorem cut_len {c : List Anyv} {here : List (Int × Bool)} (h : c.length = 0 ∨ 6 < c.length) : m_check_cut_x c here = some (.ex Xc.NoBoard ()) := by
  unfold m_check_cut_x
  rw [if_pos]
  rcases h with h | h
  · rw [decide_eq_false (p := (1 : Int) ≤ (c.length : Int)) (by omega)]; rfl
  · rw [decide_eq_false (p := (c.length : Int) ≤ 6) (by omega), Bool.and_false]; rfl
theorem step_i (here : List (Int × Bool)) (s v : Int) : m_check_cut_x_b1 here s (.i v) = if (decide (v ≤ s) || !(dget here v).isSome) = true then some (.ret (.ex Xc.NoBoard ())) else some (.go v) := by
  unfold m_check_cut_x_b1
  show Option.bind (some true) _ = _
  rw [Option.bind_some, if_neg (by decide)]
  show Option.bind (Option.bind (some v) _) _ = _
  rw [Option.bind_some]
  by_cases q : v ≤ s
  · rw [decide_eq_true q]
    rfl
  · rw [decide_eq_false q, if_neg (by decide)]
    show Option.bind (Option.bind (some (!(dget here v).isSome)) _) _ = _
    cases (dget here v).isSome <;> rfl
theorem cut_run (here : List (Int × Bool)) : ∀ (c : List Int) (s : Int), 0 ≤ s → (∀ v ∈ c, s < v ∧ (dget here v).isSome = true) → c.Pairwise (· < ·) → ∃ r, s ≤ r ∧ (∀ u ∈ c, u ≤ r) ∧ ∀ ys, foldC (m_check_cut_x_b1 here) s (c.map Anyv.i ++ ys) = foldC (m_check_cut_x_b1 here) r ys
  | [], s, _, _, _ => ⟨s, Int.le_refl _, fun u hu => (by cases hu), fun ys => rfl⟩
  | v :: c, s, h0, h, p => by
    obtain ⟨h1, h2⟩ := h v (List.mem_cons_self ..)
    obtain ⟨r, r1, r2, r3⟩ := cut_run here c v (by omega) (fun u hu => ⟨(List.pairwise_cons.mp p).1 u hu, (h u (List.mem_cons_of_mem _ hu)).2⟩) (List.pairwise_cons.mp p).2
    refine ⟨r, by omega, fun u hu => ?_, fun ys => ?_⟩
    · rcases List.mem_cons.mp hu with rfl | hu
      · exact r1
      · exact r2 u hu
    · rw [List.map_cons, List.cons_append, foldC_go (s' := v) (by rw [step_i, decide_eq_false (by omega), h2]; rfl)]
      exact r3 ys
def YB (here : List (Int × Bool)) (c : List Int) (y : Anyv) : Prop := Wh y = false ∨ ∃ v, y = .i v ∧ (v ≤ 0 ∨ (∃ u ∈ c, v ≤ u) ∨ (dget here v).isSome = false)
theorem cut_bad {here : List (Int × Bool)} {c : List Int} (hc : ∀ v ∈ c, 0 < v ∧ (dget here v).isSome = true) (rise : c.Pairwise (· < ·)) {y : Anyv} (hy : YB here c y) (ys : List Anyv) : m_check_cut_x (c.map Anyv.i ++ y :: ys) here = some (.ex Xc.NoBoard ()) := by
  unfold m_check_cut_x
  by_cases q : (!(decide ((1 : Int) ≤ ((c.map Anyv.i ++ y :: ys).length : Int)) && decide (((c.map Anyv.i ++ y :: ys).length : Int) ≤ 6))) = true
  · rw [if_pos q]
  · rw [if_neg q]
    obtain ⟨r, r1, r2, r3⟩ := cut_run here c 0 (Int.le_refl _) hc rise
    rw [r3, foldC_ret (r := .ex Xc.NoBoard ()) ?_]
    · rfl
    rcases hy with hy | ⟨v, rfl, hy⟩
    · unfold m_check_cut_x_b1
      rw [wh_no hy]
      rfl
    · rw [step_i, if_pos]
      rcases hy with h | ⟨u, hu, h⟩ | h
      · rw [decide_eq_true (by omega)]; rfl
      · have := r2 u hu
        rw [decide_eq_true (by omega)]; rfl
      · rw [h]; simp
theorem no_number_ok (cell : Int) : Ok (m_l_no_number cell) fun x => Wh x = false := by
  have h8 := emod_rng cell (show (0 : Int) < 8 by decide)
  unfold m_l_no_number
  refine ok_bind (ok_mem (P := fun x => Wh x = false) h8.1 (by show _ < (8 : Int); omega) fun x hx => ?_) fun x hx => ok_some hx
  simp only [List.mem_cons, List.not_mem_nil, or_false] at hx
  rcases hx with rfl | rfl | rfl | rfl | rfl | rfl | rfl | rfl <;> rfl
theorem far_rng (x : Int) : 0 ≤ x % 1000000000000000000000000000000 := (emod_rng x (by decide)).1
theorem wrong_knot_ok (last : Int) {many : Int} (m1 : 1 ≤ many) (cell : Int) : Ok (m_l_wrong_knot (.i last) many cell) fun x => Wh x = false ∨ ∃ v, x = .i v ∧ (v ≤ many ∨ v = last ∨ 1000 ≤ v) := by
  have h5 := emod_rng cell (show (0 : Int) < 5 by decide)
  have hf := far_rng (cell / 5)
  unfold m_l_wrong_knot
  refine ok_bs ?_
  generalize cell / 5 % 1000000000000000000000000000000 = far at hf
  have hr := emod_rng far (show (0 : Int) < many + 1 by omega)
  refine ok_at (modO_eq (by omega)) (ok_bind (no_number_ok _) fun _ _ => ok_at (modO_eq (by omega)) (ok_bind (no_number_ok _) fun z hz => ok_bind (ok_mem (P := fun x => Wh x = false ∨ ∃ v, x = .i v ∧ (v ≤ many ∨ v = last ∨ 1000 ≤ v)) h5.1 (by show _ < (5 : Int); omega) fun x hx => ?_) fun x hx => ok_some hx))
  simp only [List.mem_cons, List.not_mem_nil, or_false] at hx
  rcases hx with rfl | rfl | rfl | rfl | rfl
  · exact .inr ⟨_, rfl, .inl (by omega)⟩
  · exact .inr ⟨_, rfl, .inr (.inl rfl)⟩
  · exact .inr ⟨_, rfl, .inr (.inr (by omega))⟩
  · exact .inr ⟨_, rfl, .inl (by omega)⟩
  · exact .inl hz
structure HereOk (here : List (Int × Bool)) (c : List Int) (a : Int) : Prop where
  cut : ∀ v ∈ c, 0 < v ∧ (dget here v).isSome = true
  a0 : (dget here a).isSome = false
  a1 : (dget here (a + 1)).isSome = false
  far : ∀ v, 1000 ≤ v → (dget here v).isSome = false
theorem wrong_cut_ok {c : List Int} (c1 : 1 ≤ c.length) (c6 : c.length ≤ 6) (rise : c.Pairwise (· < ·)) (a cell : Int) : Ok (m_l_wrong_cut (c.map Anyv.i) (.i a) cell) fun c' => ∀ here, HereOk here c a → m_check_cut_x c' here = some (.ex Xc.NoBoard ()) := by
  have h9 := emod_rng cell (show (0 : Int) < 9 by decide)
  have hf := far_rng (cell / 9)
  have ex : ∀ {xs ys : List Anyv}, xs.length + ys.length ≤ 100 → extO xs ys = some (xs ++ ys) := fun h => when_ok (by rw [sizeLine_eq]; omega)
  obtain ⟨us, z, ec⟩ : ∃ us z, c = us ++ [z] := ⟨c.dropLast, c.getLast (fun e => by rw [e] at c1; simp at c1), (List.dropLast_concat_getLast _).symm⟩
  unfold m_l_wrong_cut
  refine ok_bs ?_
  generalize cell / 9 % 1000000000000000000000000000000 = far at hf
  refine ok_if (fun q => ?_) fun q => ok_if (fun q2 => ?_) fun q2 => ?_
  · have q := of_decide_eq_true q
    have el : atI (c.map Anyv.i) (-(1 : Int)) = some (.i z) := by rw [ec, List.map_append]; exact atI_last _ _
    have eu : allI (c.map Anyv.i ++ [Anyv.i z]) = some (c ++ [z]) := by
      have := allI_map (c ++ [z])
      rwa [List.map_append] at this
    refine ok_at el (ok_at (ex (by rw [List.length_map]; simp; omega)) (ok_at eu ?_))
    refine ok_bind (ok_mem (P := fun x : List Int => x.length = 0 ∨ 6 < x.length ∨ x = c ++ [z]) h9.1 (by show _ < (3 : Int); omega) fun x hx => ?_) fun x hx => ok_some fun here hh => ?_
    · simp only [List.mem_cons, List.not_mem_nil, or_false] at hx
      rcases hx with rfl | rfl | rfl
      · exact .inl rfl
      · exact .inr (.inl (by decide))
      · exact .inr (.inr rfl)
    · rw [emb_ints]
      rcases hx with h | h | rfl
      · exact cut_len (.inl (by rw [List.length_map]; exact h))
      · exact cut_len (.inr (by rw [List.length_map]; exact h))
      · rw [List.map_append]
        exact cut_bad hh.cut rise (.inr ⟨z, rfl, .inr (.inl ⟨z, by rw [ec]; simp, Int.le_refl _⟩)⟩) []
  · rw [Bool.and_eq_true, List.length_map] at q2
    have q2 := of_decide_eq_true q2.2
    match c, q2, rise, c6 with
    | x :: y :: r, _, rise, c6 =>
      have e1 : cutL ((x :: y :: r).map Anyv.i) (some 1) none = (y :: r).map Anyv.i := cut_tail _ _
      have e2 : cutL ((x :: y :: r).map Anyv.i) none (some 1) = [Anyv.i x] := by rw [List.map_cons, cut_to _ (by decide) (by rw [List.length_cons]; omega)]; rfl
      rw [e1, e2]
      refine ok_at (ex (by rw [List.length_map]; simp at c6 ⊢; omega)) (ok_some fun here hh => ?_)
      have p := List.pairwise_cons.mp rise
      exact cut_bad (fun v hv => hh.cut v (List.mem_cons_of_mem _ hv)) p.2 (.inr ⟨x, rfl, .inr (.inl ⟨y, List.mem_cons_self .., by have := p.1 y (List.mem_cons_self ..); omega⟩)⟩) []
  · have q := of_decide_eq_false q
    have h7 := emod_rng (cell % 9) (show (0 : Int) < 7 by decide)
    refine ok_at (a := a) rfl (ok_bind (no_number_ok _) fun _ _ => ok_at (a := a) rfl (ok_bind (no_number_ok _) fun w hw => ok_bind (ok_mem (P := fun y => ∀ here, HereOk here c a → ∀ c', YB here c' y) h7.1 (by show _ < (7 : Int); omega) fun y hy here hh c' => ?_) fun y hy => ?_))
    · simp only [List.mem_cons, List.not_mem_nil, or_false] at hy
      rcases hy with rfl | rfl | rfl | rfl | rfl | rfl | rfl
      · exact .inr ⟨_, rfl, .inl (Int.le_refl _)⟩
      · exact .inr ⟨_, rfl, .inr (.inr hh.a0)⟩
      · exact .inr ⟨_, rfl, .inr (.inr hh.a0)⟩
      · exact .inr ⟨_, rfl, .inr (.inr hh.a1)⟩
      · exact .inr ⟨_, rfl, .inl (by omega)⟩
      · exact .inr ⟨_, rfl, .inr (.inr (hh.far _ (by omega)))⟩
      · exact .inl hw
    · refine ok_if (fun _ => ?_) fun _ => ?_
      · obtain ⟨x, r, er⟩ := List.exists_cons_of_ne_nil (l := c) fun e => by rw [e] at c1; simp at c1
        have e1 : cutL (c.map Anyv.i) (some 1) none = r.map Anyv.i := by rw [er]; exact cut_tail _ _
        have rl : r.length + 1 = c.length := by rw [er]; rfl
        rw [e1]
        refine ok_at (ex (by rw [List.length_map]; simp; omega)) (ok_some fun here hh => ?_)
        exact cut_bad (c := []) (fun v hv => by cases hv) .nil (hy here hh []) _
      · have e1 : cutL (c.map Anyv.i) none (some (-(1 : Int))) = us.map Anyv.i := by
          rw [ec, List.map_append]
          exact cut_but _ _
        have rl : us.length + 1 = c.length := by rw [ec]; simp
        rw [e1]
        refine ok_at (ex (by rw [List.length_map]; simp; omega)) (ok_some fun here hh => ?_)
        have hs : us.Pairwise (· < ·) := by
          rw [ec] at rise
          exact (List.pairwise_append.mp rise).1
        exact cut_bad (fun v hv => hh.cut v (by rw [ec]; exact List.mem_append_left _ hv)) hs (hy here hh us) []
/-! ties that are none -/
theorem absent_ok (knots : List Int) : ∀ (n : Nat) (st : Int), (knots.filter fun k => decide (st ≤ k)).length < n → Ok (whileO (m_l_wrong_tie_t1 knots) m_l_wrong_tie_w1 n st) fun r => st ≤ r ∧ r ∉ knots
  | 0, st, h => by omega
  | n + 1, st, h => by
    unfold whileO
    refine ok_at (a := decide (st ∈ knots)) rfl ?_
    by_cases q : st ∈ knots
    · rw [decide_eq_true q]
      refine ok_at (a := st + 1) rfl ?_
      have hl : (knots.filter fun k => decide (st + 1 ≤ k)).length < (knots.filter fun k => decide (st ≤ k)).length := by
        have key : ∀ l : List Int, (l.filter fun k => decide (st + 1 ≤ k)).length ≤ (l.filter fun k => decide (st ≤ k)).length ∧ (st ∈ l → (l.filter fun k => decide (st + 1 ≤ k)).length < (l.filter fun k => decide (st ≤ k)).length) := by
          intro l
          induction l with
          | nil => exact ⟨Nat.le_refl _, fun h => by cases h⟩
          | cons x l ih =>
            rw [List.filter_cons, List.filter_cons]
            by_cases a : st + 1 ≤ x
            · rw [if_pos (decide_eq_true a), if_pos (decide_eq_true (by omega))]
              refine ⟨by simpa using ih.1, fun h => ?_⟩
              rcases List.mem_cons.mp h with e | h
              · omega
              · simpa using ih.2 h
            · rw [if_neg (by simpa using a)]
              by_cases b : st ≤ x
              · rw [if_pos (decide_eq_true b)]
                have := ih.1
                exact ⟨by rw [List.length_cons]; omega, fun _ => by rw [List.length_cons]; omega⟩
              · rw [if_neg (by simpa using b)]
                refine ⟨ih.1, fun h => ?_⟩
                rcases List.mem_cons.mp h with e | h
                · omega
                · exact ih.2 h
        exact (key knots).2 q
      obtain ⟨r, e, r1, r2⟩ := absent_ok knots n (st + 1) (by omega)
      exact ⟨r, e, by omega, r2⟩
    · rw [decide_eq_false q]
      exact ok_some ⟨Int.le_refl _, q⟩
def TB (many : Int) (P : List Pc) (x : Anyv) : Prop := Wh x = false ∨ ∃ t, x = .i t ∧ t / 2 ≠ 0 ∧ t / 2 ∉ known many P
theorem wrong_tie_ok {many : Int} {P : List Pc} (g : Grown many P) (m10 : many ≤ 10) (cell : Int) : Ok (m_l_wrong_tie many P cell) (TB many P) := by
  have h4 := emod_rng cell (show (0 : Int) < 4 by decide)
  have hf := far_rng (cell / 4)
  have m1 := g.m1
  have hP := g.len
  have k1000 : ∀ v, v < 0 ∨ 1000 ≤ v → v ∉ known many P := fun v h hm => by
    rcases known_iff.mp hm with h | ⟨r, hr, e⟩
    · omega
    · obtain ⟨a, b, _⟩ := g.pc r hr
      omega
  have ek : mapB (fun (x : Pc) => some x.a) P = some (P.map (·.a)) := mapB_eq (by omega) fun x _ => rfl
  unfold m_l_wrong_tie
  refine ok_at ek (ok_bs (ok_bind (absent_ok _ _ _ (Nat.lt_of_le_of_lt (List.length_filter_le _ _) (by rw [List.length_map]; omega))) fun ab ⟨a1, a2⟩ => ok_bs ?_))
  generalize cell / 4 % 1000000000000000000000000000000 = far at hf
  refine ok_bind (no_number_ok _) fun _ _ => ok_bind (no_number_ok _) fun z hz => ok_bind (ok_mem (P := TB many P) h4.1 (by show _ < (4 : Int); omega) fun x hx => ?_) fun x hx => ok_some hx
  simp only [List.mem_cons, List.not_mem_nil, or_false] at hx
  rcases hx with rfl | rfl | rfl | rfl
  · refine .inr ⟨_, rfl, by omega, fun h => ?_⟩
    rw [show (2 * ab + far % 2) / 2 = ab by omega] at h
    rcases known_iff.mp h with h | ⟨r, hr, e⟩
    · omega
    · exact a2 (e ▸ List.mem_map_of_mem hr)
  · exact .inr ⟨_, rfl, by omega, k1000 _ (.inr (by omega))⟩
  · exact .inr ⟨_, rfl, by omega, k1000 _ (.inl (by omega))⟩
  · exact .inl hz
theorem x_ties {many : Int} {P : List Pc} (g : Grown many P) (m10 : many ≤ 10) {ts : List Anyv} (hl : ts.length ≤ 1000) (ha : ∀ x ∈ ts, Wh x = false ∨ ∃ t, x = .i t) (hb : ts = [] ∨ ∃ x ∈ ts, TB many P x) : m_Board___init___x (.i many) (P.map emP) ts = some (.ex Xc.NoBoard ()) := by
  obtain ⟨st, hs, e⟩ := x_at g m10 [] ts
  rw [List.append_nil] at e
  rw [e]
  show (foldC (m_Board___init___x_b3 st) ([] : List Int) ts).bind _ = _
  rcases hb with rfl | hb
  · rfl
  have key : ∀ (l : List Anyv) (s : List Int), s.length + l.length ≤ 1000 → (∀ x ∈ l, Wh x = false ∨ ∃ t, x = .i t) → (∃ x ∈ l, TB many P x) → foldC (m_Board___init___x_b3 st) s l = some (.ret (.ex Xc.NoBoard ())) := by
    intro l
    induction l with
    | nil => intro s _ _ ⟨x, h, _⟩; cases h
    | cons x l ih =>
      intro s hl ha hb
      rw [List.length_cons] at hl
      have no : ∀ y, Wh y = false → m_Board___init___x_b3 st s y = some (.ret (.ex Xc.NoBoard ())) := fun y h => by
        unfold m_Board___init___x_b3
        rw [wh_no h]
        rfl
      rcases ha x (List.mem_cons_self ..) with h | ⟨t, rfl⟩
      · exact foldC_ret (no x h) _
      · have step : m_Board___init___x_b3 st s (.i t) = if ((!decide (t / 2 = 0)) && !(dget st.2.1 (t / 2)).isSome) = true then some (.ret (.ex Xc.NoBoard ())) else some (.go (s ++ [t])) := by
          unfold m_Board___init___x_b3
          show Option.bind (some true) _ = _
          rw [Option.bind_some, if_neg (by decide)]
          show Option.bind (Option.bind (some t) _) _ = _
          rw [Option.bind_some]
          show Option.bind (Option.bind (if (!decide (t / 2 = 0)) = true then Option.bind (some t) _ else some false) _) _ = _
          by_cases z : t / 2 = 0
          · rw [decide_eq_true z, if_neg (by decide), Option.bind_some, Option.bind_some, if_neg (by decide)]
            show Option.bind (some t) _ = _
            rw [Option.bind_some, appO_eq (by omega)]
            rfl
          · rw [decide_eq_false z, if_pos (show (!false) = true from rfl)]
            show Option.bind (Option.bind (Option.bind (some t) fun av => some (!(dget st.2.1 (av / 2)).isSome)) fun tv => some tv) _ = _
            rw [Option.bind_some, Option.bind_some, Option.bind_some]
            cases (dget st.2.1 (t / 2)).isSome with
            | false => rfl
            | true =>
              rw [if_neg (by decide), if_neg (by decide)]
              show Option.bind (some t) _ = _
              rw [Option.bind_some, appO_eq (by omega)]
              rfl
        by_cases q : ((!decide (t / 2 = 0)) && !(dget st.2.1 (t / 2)).isSome) = true
        · exact foldC_ret (by rw [step, if_pos q]) _
        · rw [foldC_go (s' := s ++ [t]) (by rw [step, if_neg q])]
          refine ih _ (by rw [List.length_append]; simp; omega) (fun x hx => ha x (List.mem_cons_of_mem _ hx)) ?_
          obtain ⟨y, hy, h⟩ := hb
          rcases List.mem_cons.mp hy with rfl | hy
          · refine absurd ?_ q
            rcases h with h | ⟨t', e, h1, h2⟩
            · cases h
            · cases e
              have : (dget st.2.1 (t / 2)).isSome = false := by
                cases z : (dget st.2.1 (t / 2)).isSome with
                | false => rfl
                | true => exact absurd ((hs.here _).mp z) h2
              rw [this, decide_eq_false h1]
              rfl
          · exact ⟨y, hy, h⟩
  rw [key ts [] (by simpa using hl) ha hb]
  rfl
end
section
open PySem
def KB (many : Int) (A : List Pc) (z : Anyv) : Prop := Wh z = false ∨ ∃ v, z = .i v ∧ ((∃ u ∈ known many A, v ≤ u) ∨ 1000 ≤ v)
theorem lput_nn {A : Type} {xs ys : List A} {y z : A} {j : Int} (h : j = xs.length) : lputO (xs ++ y :: ys) j z = some (xs ++ z :: ys) := lput_n h
theorem spoilt_ok {many : Int} {P : List Pc} {ties : List Int} (g : Grown many P) (m10 : many ≤ 10) (pl : P.length ≤ 40) (t0 : ties ≠ []) (tl : ties.length ≤ 16) {way : Int} (w1 : 1 ≤ way) (w6 : way ≤ 6) (hp : 4 ≤ way → P ≠ []) (cell : Int) : Ok (m_l_spoilt many P ties way cell) fun r => m_Board___init___x r.a r.b r.c = some (.ex Xc.NoBoard ()) := by
  have m1 := g.m1
  have tpos := List.length_pos_iff.mpr t0
  unfold m_l_spoilt
  refine ok_at (copy3_ok (by omega)) (ok_if (fun q => ?_) fun q => ok_if (fun q2 => ?_) fun q2 => ok_if (fun q3 => ?_) fun q3 => ?_)
  · have hf := far_rng (cell / 4)
    refine ok_bs ?_
    generalize cell / 4 % 1000000000000000000000000000000 = far at hf
    refine ok_bind (P := fun z => Wh z = false ∨ ∃ v, z = .i v ∧ (v < 1 ∨ 10 < v)) (ok_if (fun _ => ok_bs (ok_some (.inl rfl))) fun _ => ok_if (fun _ => ok_bind (no_number_ok _) fun z hz => ok_some (.inl hz)) fun q3 => ?_) fun z hz => ok_some (x_many hz _ _)
    have q3 := of_decide_eq_false q3
    have h4 := emod_rng cell (show (0 : Int) < 4 by decide)
    refine ok_at (a := far) rfl (ok_at (a := far) rfl (ok_bind (ok_mem (P := fun v : Int => v < 1 ∨ 10 < v) h4.1 (by show _ < (3 : Int); omega) fun v hv => ?_) fun v hv => ok_bs (ok_some (.inr ⟨v, rfl, hv⟩))))
    simp only [List.mem_cons, List.not_mem_nil, or_false] at hv
    rcases hv with rfl | rfl | rfl <;> omega
  · exact ok_some (x_ties g m10 (by show (0 : Nat) ≤ 1000; decide) (fun x hx => by cases hx) (.inl rfl))
  · have hl : (emb ties : List Anyv).length = ties.length := by rw [emb_ints, List.length_map]
    refine ok_at (modO_eq (by rw [hl]; omega)) (ok_bind (wrong_tie_ok g m10 _) fun y hy => ?_)
    have hr := emod_rng (cell / 4) (show (0 : Int) < ((emb ties : List Anyv).length : Int) by rw [hl]; omega)
    generalize cell / 4 % ((emb ties : List Anyv).length : Int) = k at hr
    rw [hl] at hr
    refine ok_at (lputO_in hr.1 (by rw [hl]; exact hr.2)) (ok_some (x_ties g m10 (by rw [List.length_set, hl]; omega) (fun x hx => ?_) (.inr ⟨y, ?_, hy⟩)))
    · rw [emb_ints] at hx
      rcases List.mem_or_eq_of_mem_set hx with h | rfl
      · obtain ⟨t, _, rfl⟩ := List.mem_map.mp h
        exact .inr ⟨t, rfl⟩
      · exact hy.imp id fun ⟨t, e, _⟩ => ⟨t, e⟩
    · exact List.mem_of_getElem? (i := k.toNat) (List.getElem?_set_self (by rw [hl]; omega))
  · have q := of_decide_eq_false q
    have q2 := of_decide_eq_false q2
    have q3 := of_decide_eq_false q3
    have hpos := List.length_pos_iff.mpr (hp (by omega))
    have hl : (P.map emP).length = P.length := List.length_map _
    have hr := emod_rng cell (show (0 : Int) < ((P.map emP).length : Int) by rw [hl]; omega)
    refine ok_at (modO_eq (by rw [hl]; omega)) (ok_at (divO_small (by rw [hl]; omega) (by rw [hl]; omega)) ?_)
    generalize cell / ((P.map emP).length : Int) = qu
    generalize cell % ((P.map emP).length : Int) = re at hr
    rw [hl] at hr
    obtain ⟨A, p, B, eP, eA⟩ : ∃ A p B, P = A ++ p :: B ∧ A.length = re.toNat := by
      have hk : re.toNat < P.length := by omega
      exact ⟨P.take re.toNat, P[re.toNat], P.drop (re.toNat + 1), by rw [← List.drop_eq_getElem_cons hk, List.take_append_drop], by rw [List.length_take]; omega⟩
    have eM : P.map emP = A.map emP ++ emP p :: B.map emP := by rw [eP]; simp
    have er : re = ((A.map emP).length : Int) := by rw [List.length_map]; omega
    have hpm : p ∈ P := by rw [eP]; simp
    have gA : Grown many A := Grown.ahead (B := p :: B) (eP ▸ g)
    obtain ⟨p1, p2, p3, p4, p5, n, p6, p7⟩ := g.pc p hpm
    have ka : ∀ u ∈ known many A, u < p.a := fun u hu => by
      rcases known_iff.mp hu with h | ⟨r, hr, e⟩
      · omega
      · have rs := g.rise
        rw [eP, List.map_append] at rs
        have := (List.pairwise_append.mp rs).2.2 _ (List.mem_map_of_mem hr) p.a (by simp)
        omega
    have k1000 : ∀ u ∈ known many A, u < 1000 := fun u hu => by have := ka u hu; omega
    have kb : ∀ v ∈ p.b, 0 < v ∧ v ∈ known many A := fun v hv => by
      obtain ⟨h1, h2, h3⟩ := g.cl p hpm v hv
      refine ⟨by omega, known_iff.mpr ?_⟩
      by_cases z : v ≤ many
      · exact .inl ⟨h1, z⟩
      · obtain ⟨r', hr', e⟩ := h3 (by omega)
        rw [eP] at hr'
        rcases List.mem_append.mp hr' with h | h
        · exact .inr ⟨r', h, e⟩
        · exfalso
          have rs := g.rise
          rw [eP, List.map_append] at rs
          have rs := (List.pairwise_append.mp rs).2.1
          rw [List.map_cons] at rs
          rcases List.mem_cons.mp h with h | h
          · subst h; omega
          · have := (List.pairwise_cons.mp rs).1 _ (List.mem_map_of_mem h)
            omega
    have hhere : ∀ st, Stands many A st → HereOk st.2.1 p.b p.a := fun st hs => by
      have no : ∀ v, v ∉ known many A → (dget st.2.1 v).isSome = false := fun v h => by
        cases z : (dget st.2.1 v).isSome with
        | false => rfl
        | true => exact absurd ((hs.here v).mp z) h
      exact ⟨fun v hv => ⟨(kb v hv).1, (hs.here v).mpr (kb v hv).2⟩, no _ fun h => by have := ka _ h; omega, no _ fun h => by have := ka _ h; omega, fun v hv => no _ fun h => by have := k1000 _ h; omega⟩
    refine ok_at (a := emP p) (by rw [eM]; exact at_n er) ?_
    refine ok_bind (P := fun z => (way = 4 → KB many A z) ∧ (way ≠ 4 → z = .i p.a)) (ok_if (fun q4 => ?_) fun q4 => ok_some ⟨fun h => absurd h (of_decide_eq_false q4), fun _ => rfl⟩) fun z1 ⟨h4, h4'⟩ => ?_
    · have q4 := of_decide_eq_true q4
      refine ok_bs (ok_bind (P := fun z => ∃ l, z = .i l ∧ l ∈ known many A) (ok_if (fun q5 => ?_) fun _ => ok_some ⟨many, rfl, known_iff.mpr (.inl (by omega))⟩) fun z ⟨l, ez, hl⟩ => ?_)
      · have q5 := of_decide_eq_true q5
        obtain ⟨A0, a0, eA0⟩ : ∃ A0 a0, A = A0 ++ [a0] := ⟨A.dropLast, A.getLast (fun e => by rw [e] at eA; simp at eA; omega), (List.dropLast_concat_getLast _).symm⟩
        have e5 : atI (P.map emP) (re - 1) = some (emP a0) := by
          rw [eM, eA0, List.map_append, List.append_assoc]
          refine at_n (ys := emP p :: B.map emP) ?_
          rw [List.length_map]
          rw [eA0] at eA
          simp at eA
          omega
        exact ok_at e5 (ok_some ⟨a0.a, rfl, known_iff.mpr (.inr ⟨a0, by rw [eA0]; simp, rfl⟩)⟩)
      · subst ez
        refine ok_bind (wrong_knot_ok l m1 _) fun x hx => ok_some ⟨fun _ => ?_, fun h => absurd q4 h⟩
        rcases hx with h | ⟨v, rfl, h⟩
        · exact .inl h
        · refine .inr ⟨v, rfl, ?_⟩
          rcases h with h | h | h
          · exact .inl ⟨many, known_iff.mpr (.inl (by omega)), h⟩
          · exact .inl ⟨l, hl, by omega⟩
          · exact .inr h
    refine ok_bind (P := fun z => (way = 5 → ∀ st, Stands many A st → m_check_cut_x z st.2.1 = some (.ex Xc.NoBoard ())) ∧ (way ≠ 5 → z = p.b.map .i)) (ok_if (fun q5 => ?_) fun q5 => ok_some ⟨fun h => absurd h (of_decide_eq_false q5), fun _ => rfl⟩) fun z2 ⟨h5, h5'⟩ => ?_
    · have q5 := of_decide_eq_true q5
      rw [h4' (by omega)]
      exact ok_bind (wrong_cut_ok (by omega) p4 p5 p.a qu) fun c' hc' => ok_some ⟨fun _ st hs => hc' _ (hhere st hs), fun h => absurd q5 h⟩
    refine ok_bind (P := fun z => (way = 6 → Wh z = false ∨ ∃ v, z = .i v ∧ (v < 0 ∨ 2 ^ 2 ^ (p.b.map Anyv.i).length ≤ v)) ∧ (way ≠ 6 → z = .i p.c)) (ok_if (fun q6 => ?_) fun q6 => ok_some ⟨fun h => absurd h (of_decide_eq_false q6), fun _ => rfl⟩) fun z3 ⟨h6, h6'⟩ => ?_
    · have q6 := of_decide_eq_true q6
      have ez2 := h5' (by omega)
      have hf := far_rng (qu / 4)
      have hq4 := emod_rng qu (show (0 : Int) < 4 by decide)
      refine ok_bs ?_
      generalize qu / 4 % 1000000000000000000000000000000 = far at hf
      rw [ez2]
      have hlb : ((p.b.map Anyv.i).length : Int) = ((p.b.length : Nat) : Int) := by rw [List.length_map]
      have hs4 : shlO 1 ((2 ^ p.b.length : Nat) : Int) = some (2 ^ (2 ^ p.b.length)) := shl4 (by omega)
      have hs2 : shlO 1 ((p.b.map Anyv.i).length : Int) = some ((2 ^ p.b.length : Nat) : Int) := by rw [hlb]; exact shl2 (by omega)
      refine ok_at (a := far) rfl (ok_at hs2 (ok_at hs4 (ok_at (a := far) rfl (ok_at (a := far) rfl (ok_bind (no_number_ok _) fun _ _ => ok_at (a := far) rfl (ok_at hs2 (ok_at hs4 (ok_at (a := far) rfl (ok_at (a := far) rfl (ok_bind (no_number_ok _) fun w hw => ok_bind (ok_mem (P := fun z => Wh z = false ∨ ∃ v, z = .i v ∧ (v < 0 ∨ 2 ^ 2 ^ (p.b.map Anyv.i).length ≤ v)) hq4.1 (by show _ < (4 : Int); omega) fun z hz => ?_) fun z hz => ok_some ⟨fun _ => hz, fun h => absurd q6 h⟩))))))))))
      simp only [List.mem_cons, List.not_mem_nil, or_false] at hz
      rcases hz with rfl | rfl | rfl | rfl
      · exact .inr ⟨_, rfl, .inl (by omega)⟩
      · refine .inr ⟨_, rfl, .inr ?_⟩
        rw [List.length_map]
        omega
      · exact .inl hw
      · exact .inl rfl
    refine ok_at (by rw [eM]; exact lput_nn er) (ok_some (ret_of gA m10 fun st hs => ?_))
    have hw : way = 4 ∨ way = 5 ∨ way = 6 := by omega
    rcases hw with hw | hw | hw
    · refine bad_knot ?_
      rcases h4 hw with h | ⟨v, e, ⟨u, hu, h⟩ | h⟩
      · exact .inl h
      · have := hs.top u hu
        exact .inr ⟨v, e, .inl (by omega)⟩
      · exact .inr ⟨v, e, .inr h⟩
    · rw [h4' (by omega), h6' (by omega)]
      exact past_knot (.inl (h5 hw st hs))
    · rw [h4' (by omega), h5' (by omega)]
      have hh := hhere st hs
      exact past_knot (.inr ⟨cut_x (check_ok p3 p4 p5 hh.cut), by rw [List.length_map]; exact p4, h6 hw⟩)
theorem math (ns : List Int) (hl : ns.length ≤ 63) (hb : ∀ z ∈ ns, Builtin.Int.intBits z ≤ 1048576) : m_law ns = some true := by
  suffices h : Ok (m_law ns) fun b => b = true by obtain ⟨b, e, rfl⟩ := h; exact e
  unfold m_law
  refine ok_bind (cell_at ns hb (by decide)) fun c _ => ok_bs ?_
  have e1 := emod_rng c (show (0 : Int) < 10 by decide)
  obtain ⟨many, hmany⟩ : ∃ many : Nat, 1 + c % 10 = many := ⟨(1 + c % 10).toNat, by omega⟩
  rw [hmany]
  have hmm : many ≤ 10 := by omega
  have hm1 : 1 ≤ many := by omega
  have hcl : (cutL ns (some 5) (some 45)).length ≤ 40 := by
    unfold cutL
    rw [show HT.sIx ns.length 0 (some 5) = min 5 ns.length from HT.sIx_nat _ _ 5, show HT.sIx ns.length ns.length (some 45) = min 45 ns.length from HT.sIx_nat _ _ 45, List.length_take, List.length_drop]
    omega
  have hlog : ∀ z ∈ ns, z.natAbs.log2 < 1048577 := fun z hz => by
    have := hb z hz
    unfold Builtin.Int.intBits at this
    split at this
    · rename_i e
      have e : z = 0 := by simpa using e
      subst e; decide
    · omega
  refine ok_bind (pieces_ok hmm hm1 hcl fun z hz => hlog z (by
    unfold cutL at hz
    exact List.mem_of_mem_drop (List.mem_of_mem_take hz))) fun rs ⟨pg, hrl⟩ => ok_bind (cell_at ns hb (by decide)) fun c1 _ => ok_bind (ties_ok pg hmm (by omega) c1) fun ts ⟨t1, t2, t3⟩ => ok_bind (cell_at ns hb (by decide)) fun c2 _ => ok_bs ?_
  have g := good_grown pg
  have tk : ∀ t ∈ ts, 0 ≤ t ∧ (t / 2 = 0 ∨ t / 2 ∈ known (many : Int) rs) := fun t ht => bt_known (t1 t ht)
  have h8 := emod_rng c2 (show (0 : Int) < 8 by decide)
  refine ok_bind (P := fun z => 0 ≤ z ∧ z ≤ 7 ∧ (4 ≤ z → rs ≠ [])) (ok_if (fun q => ok_bs (ok_some ?_)) fun q => ok_some ⟨by omega, by omega, fun h e => ?_⟩) fun z ⟨z0, z7, zr⟩ => ?_
  · rw [Bool.and_eq_true] at q
    have q1 := of_decide_eq_true q.1
    exact ⟨by omega, by omega, fun h => by omega⟩
  · rw [e, decide_eq_true (by omega)] at q
    cases q
  have hi := g.made (by omega) tk t3 (by omega)
  have ht := told_ok g (ts := ts) (by omega)
  have hcp := copy_ok (P := rs) (by omega)
  have hfold : Ok (foldO m_law_b1 ([] : List Pc) rs) fun _ => True := ok_fold (fun _ _ => True) trivial fun i r st hr _ => by
    unfold m_law_b1
    exact ok_some trivial
  refine ok_at hcp (ok_at hi (ok_F (by simp) (ok_bind hfold fun _ _ => ok_at ht (ok_bind (P := fun t : Bool => t = false) (ok_F rfl (ok_at ht (ok_some rfl))) fun t e => ok_F e ?_))))
  refine ok_if (fun q => ?_) fun _ => ok_at hcp (ok_at hi (ok_at ht (ok_some rfl)))
  rw [Bool.and_eq_true] at q
  have q1 := of_decide_eq_true q.1
  have q2 := of_decide_eq_true q.2
  refine ok_bind (cell_at ns hb (by decide)) fun c3 _ => ok_bind (spoilt_ok g (by omega) hrl t3 (by omega) (by omega) (by omega) zr c3) fun r hr => ok_at (refused_ok hr) (ok_F rfl (ok_at hcp (ok_at hi (ok_at ht (ok_some rfl)))))
end

def d_l_cell_at : He.DefD := ⟨("_law_cell_at", none), "_law_cell_at", "_law_cell_at", defArgs s_l_cell_at, defBody s_l_cell_at, defScope s_l_cell_at, [], []⟩
def d_l_piece : He.DefD := ⟨("_law_piece", none), "_law_piece", "_law_piece", defArgs s_l_piece, defBody s_l_piece, defScope s_l_piece, [], []⟩
def d_l_cut : He.DefD := ⟨("_law_cut", none), "_law_cut", "_law_cut", defArgs s_l_cut, defBody s_l_cut, defScope s_l_cut, [], []⟩
def d_l_pieces : He.DefD := ⟨("_law_pieces", none), "_law_pieces", "_law_pieces", defArgs s_l_pieces, defBody s_l_pieces, defScope s_l_pieces, [], []⟩
def d_l_ties : He.DefD := ⟨("_law_ties", none), "_law_ties", "_law_ties", defArgs s_l_ties, defBody s_l_ties, defScope s_l_ties, [], []⟩
def d_l_copy : He.DefD := ⟨("_law_copy", none), "_law_copy", "_law_copy", defArgs s_l_copy, defBody s_l_copy, defScope s_l_copy, [], []⟩
def d_is_whole : He.DefD := ⟨("is_whole", none), "is_whole", "is_whole", defArgs s_is_whole, defBody s_is_whole, defScope s_is_whole, [], []⟩
def d_check_cut : He.DefD := ⟨("check_cut", none), "check_cut", "check_cut", defArgs s_check_cut, defBody s_check_cut, defScope s_check_cut, [], []⟩
def d_every_lighting : He.DefD := ⟨("every_lighting", none), "every_lighting", "every_lighting", defArgs s_every_lighting, defBody s_every_lighting, defScope s_every_lighting, [], []⟩
def d_Board___init__ : He.DefD := ⟨("Board", some "__init__"), "__init__", "Board.__init__", defArgs s_Board___init__, defBody s_Board___init__, defScope s_Board___init__, [], []⟩
def d_Board_pieces : He.DefD := ⟨("Board", some "pieces"), "pieces", "Board.pieces", defArgs s_Board_pieces, defBody s_Board_pieces, defScope s_Board_pieces, [], []⟩
def d_Board_ties : He.DefD := ⟨("Board", some "ties"), "ties", "Board.ties", defArgs s_Board_ties, defBody s_Board_ties, defScope s_Board_ties, [], []⟩
def d_l_whole : He.DefD := ⟨("_law_whole", none), "_law_whole", "_law_whole", defArgs s_l_whole, defBody s_l_whole, defScope s_l_whole, [], []⟩
def d_l_told : He.DefD := ⟨("_law_told", none), "_law_told", "_law_told", defArgs s_l_told, defBody s_l_told, defScope s_l_told, [], []⟩
def d_l_no_number : He.DefD := ⟨("_law_no_number", none), "_law_no_number", "_law_no_number", defArgs s_l_no_number, defBody s_l_no_number, defScope s_l_no_number, [], []⟩
def d_l_wrong_tie : He.DefD := ⟨("_law_wrong_tie", none), "_law_wrong_tie", "_law_wrong_tie", defArgs s_l_wrong_tie, defBody s_l_wrong_tie, defScope s_l_wrong_tie, [], []⟩
def d_l_wrong_knot : He.DefD := ⟨("_law_wrong_knot", none), "_law_wrong_knot", "_law_wrong_knot", defArgs s_l_wrong_knot, defBody s_l_wrong_knot, defScope s_l_wrong_knot, [], []⟩
def d_l_wrong_cut : He.DefD := ⟨("_law_wrong_cut", none), "_law_wrong_cut", "_law_wrong_cut", defArgs s_l_wrong_cut, defBody s_l_wrong_cut, defScope s_l_wrong_cut, [], []⟩
def d_l_spoilt : He.DefD := ⟨("_law_spoilt", none), "_law_spoilt", "_law_spoilt", defArgs s_l_spoilt, defBody s_l_spoilt, defScope s_l_spoilt, [], []⟩
def d_l_refused : He.DefD := ⟨("_law_refused", none), "_law_refused", "_law_refused", defArgs s_l_refused, defBody s_l_refused, defScope s_l_refused, [], []⟩
def d_law : He.DefD := ⟨("law", none), "law", "law", defArgs s_law, defBody s_law, defScope s_law, [], []⟩
def fns : List He.DefD := [d_l_cell_at, d_l_piece, d_l_cut, d_l_pieces, d_l_ties, d_l_copy, d_is_whole, d_check_cut, d_every_lighting, d_Board___init__, d_Board_pieces, d_Board_ties, d_l_whole, d_l_told, d_l_no_number, d_l_wrong_tie, d_l_wrong_knot, d_l_wrong_cut, d_l_spoilt, d_l_refused, d_law]
def fa : List He.Fa := [.glo "law", .free "len", .glo "_law_cell_at", .free "range", .free "set", .free "sorted", .glo "_law_piece", .glo "_law_cut", .glo "_law_pieces", .free "min", .glo "_law_ties", .free "list", .glo "_law_copy", .free "bool", .free "int", .free "isinstance", .glo "is_whole", .int "MOST_IN_CUT" (6), .glo "check_cut", .glo "every_lighting", .int "MOST_INPUTS" (10), .int "KNOTS" (1000), .cls "Board", .noat "Board" "rows", .noat "Board" "ends", .noat "Board" "many", .mkr "Board", .glo "Board", .meth "Board" "pieces", .meth "Board" "ties", .glo "_law_whole", .free "all", .free "tuple", .glo "_law_told", .glo "_law_no_number", .glo "_law_wrong_tie", .glo "_law_wrong_knot", .glo "_law_wrong_cut", .glo "_law_spoilt", .exc "NoBoard", .glo "NoBoard", .free "ValueError", .glo "FoldError", .glo "NoCut", .glo "NoGoal", .glo "NoKnot", .glo "NoLine", .glo "NoMatch", .glo "NoName", .glo "NoSize", .glo "NoText", .glo "NoTie", .glo "_law_refused"]
def ex : PySem.W.Frag → Bool := fun K => allB [(W.Xc.all.all fun x => decide (excCB K (He.ga K x.nm) = true)), (W.Xc.all.all fun x => decide (PySem.W.kitOne K (.ref (He.ga K x.nm)) (.ref (He.ga K "NoBoard")) = some (decide (x = Xc.NoBoard)))), (W.Xc.all.all fun x => decide (PySem.W.kitOne K (.ref (He.ga K x.nm)) (.type "ValueError") = some true)), (W.Xc.all.all fun x => decide (PySem.W.kitAny K (.ref (He.ga K x.nm)) (List.map Value.ref [He.ga K "NoCut", He.ga K "NoGoal", He.ga K "NoKnot", He.ga K "NoLine", He.ga K "NoMatch", He.ga K "NoName", He.ga K "NoSize", He.ga K "NoText", He.ga K "NoTie"]) = some (decide (x = Xc.NoCut) || decide (x = Xc.NoGoal) || decide (x = Xc.NoKnot) || decide (x = Xc.NoLine) || decide (x = Xc.NoMatch) || decide (x = Xc.NoName) || decide (x = Xc.NoSize) || decide (x = Xc.NoText) || decide (x = Xc.NoTie)))), (W.Xc.all.all fun x => decide (PySem.W.exmOne K (.ref (He.ga K x.nm)) (.ref (He.ga K "FoldError")) = some true)), (W.Xc.all.all fun x => decide (PySem.W.exmOne K (.ref (He.ga K x.nm)) (.ref (He.ga K "NoBoard")) = some (decide (x = Xc.NoBoard))))]
abbrev R : PySem.W.OpenRow := PySem.W.OpenLaw.row PySem.Challenge.rw_gatefold_k34_board_made
abbrev hk : PySem.W.Hook := He.hookX 5 fa fns ex
def ob (s : PySem.W.SharedT) : He.AlX := He.obsXG 5 fa fns ex (HandSHeadRun.getT s)
theorem ob_eq (s : PySem.W.SharedT) : ob s = hk.obs s.abs := He.obsXG_eq (HandSHeadRun.getT_eq s)
def loose0 : List PySem.Str := ["_wall", "FoldError", "NoLine", "NoName", "NoTie", "NoKnot", "NoCut", "NoGoal", "NoSize", "NoBoard", "NoText", "NoMatch", "every_lighting", "MOST_INPUTS", "MOST_IN_CUT", "KNOTS", "is_whole", "check_cut", "Board", "_law_cell_at", "_law_cut", "_law_piece", "_law_pieces", "_law_ties", "_law_copy", "_law_whole", "_law_told", "_law_no_number", "_law_wrong_knot", "_law_wrong_cut"]
def loose1 : List PySem.Str := ["_law_wrong_tie", "_law_spoilt", "_law_refused"]
abbrev loose : List PySem.Str := loose0 ++ loose1
theorem run (w : World) : HandSHeadRun.RunEq R (PySem.W.view R.prog [37]) hk ob 8000 loose w := by
  intro os
  kernel_rfl
theorem facts {P : Program} {w : World} {K : PySem.W.Frag} {h : Heap} {mg : Str → Option Value} {f : Addr} (X : K.In h) (G : h.Ns mainGlobals mg) (hfa : mg ("law" : Str) = some (.ref f)) (c : He.SaysX fa fns ex K) :
    ∃ fd : FuncData, (∀ (s : Shared) (v : Value), BindsTo s fd ⟨[v], []⟩ [("_law_script", v)]) ∧ ∀ base : Heap, K.In base → base.Ns mainGlobals mg → FnOk P w K mg base (L2N.CX P w) 6 f fd ["_law_script"] (sp_law K) := by
  have cd := c.d
  obtain ⟨fd_l_cell_at, F_l_cell_at⟩ := cd.def_ 0 (d := d_l_cell_at) rfl
  obtain ⟨fd_l_piece, F_l_piece⟩ := cd.def_ 1 (d := d_l_piece) rfl
  obtain ⟨fd_l_cut, F_l_cut⟩ := cd.def_ 2 (d := d_l_cut) rfl
  obtain ⟨fd_l_pieces, F_l_pieces⟩ := cd.def_ 3 (d := d_l_pieces) rfl
  obtain ⟨fd_l_ties, F_l_ties⟩ := cd.def_ 4 (d := d_l_ties) rfl
  obtain ⟨fd_l_copy, F_l_copy⟩ := cd.def_ 5 (d := d_l_copy) rfl
  obtain ⟨fd_is_whole, F_is_whole⟩ := cd.def_ 6 (d := d_is_whole) rfl
  obtain ⟨fd_check_cut, F_check_cut⟩ := cd.def_ 7 (d := d_check_cut) rfl
  obtain ⟨fd_every_lighting, F_every_lighting⟩ := cd.def_ 8 (d := d_every_lighting) rfl
  obtain ⟨fd_Board___init__, F_Board___init__⟩ := cd.def_ 9 (d := d_Board___init__) rfl
  obtain ⟨fd_Board_pieces, F_Board_pieces⟩ := cd.def_ 10 (d := d_Board_pieces) rfl
  obtain ⟨fd_Board_ties, F_Board_ties⟩ := cd.def_ 11 (d := d_Board_ties) rfl
  obtain ⟨fd_l_whole, F_l_whole⟩ := cd.def_ 12 (d := d_l_whole) rfl
  obtain ⟨fd_l_told, F_l_told⟩ := cd.def_ 13 (d := d_l_told) rfl
  obtain ⟨fd_l_no_number, F_l_no_number⟩ := cd.def_ 14 (d := d_l_no_number) rfl
  obtain ⟨fd_l_wrong_tie, F_l_wrong_tie⟩ := cd.def_ 15 (d := d_l_wrong_tie) rfl
  obtain ⟨fd_l_wrong_knot, F_l_wrong_knot⟩ := cd.def_ 16 (d := d_l_wrong_knot) rfl
  obtain ⟨fd_l_wrong_cut, F_l_wrong_cut⟩ := cd.def_ 17 (d := d_l_wrong_cut) rfl
  obtain ⟨fd_l_spoilt, F_l_spoilt⟩ := cd.def_ 18 (d := d_l_spoilt) rfl
  obtain ⟨fd_l_refused, F_l_refused⟩ := cd.def_ 19 (d := d_l_refused) rfl
  obtain ⟨fd_law, F_law⟩ := cd.def_ 20 (d := d_law) rfl
  have e := hfa.symm.trans (He.glo_ok X G (cd.fact 0 (f := .glo "law") rfl))
  cases e
  have b := FunD.bindsA (ps := ["_law_script"]) F_law fun _ _ _ _ _ _ us hl => match us, hl with | [_], _ => rfl
  refine ⟨fd_law, fun s v => b s [v] rfl, fun base _ _ => ?_⟩
  have c_l_cell_at : Cal P w K mg base 1 "_law_cell_at" ["_law_script", "_law_k"] (sp_l_cell_at K) := ⟨_, _, (ok_l_cell_at F_l_cell_at (He.free_ok X G (cd.fact 1 (f := .free "len") rfl))), He.glo_ok X G (cd.fact 2 (f := .glo "_law_cell_at") rfl), F_l_cell_at.kp, (FunD.bindsN F_l_cell_at (fun _ _ _ _ _ _ us hl => match us, hl with | [_, _], _ => rfl))⟩
  have c_l_piece : Cal P w K mg base 1 "_law_piece" ["_law_cell", "_law_there"] (sp_l_piece K) := ⟨_, _, (ok_l_piece F_l_piece (He.free_ok X G (cd.fact 1 (f := .free "len") rfl)) (He.free_ok X G (cd.fact 3 (f := .free "range") rfl)) (He.free_ok X G (cd.fact 4 (f := .free "set") rfl)) (He.free_ok X G (cd.fact 5 (f := .free "sorted") rfl))), He.glo_ok X G (cd.fact 6 (f := .glo "_law_piece") rfl), F_l_piece.kp, (FunD.bindsN F_l_piece (fun _ _ _ _ _ _ us hl => match us, hl with | [_, _], _ => rfl))⟩
  have c_l_cut : Cal P w K mg base 1 "_law_cut" ["_law_cell", "_law_there"] (sp_l_cut K) := ⟨_, _, (ok_l_cut F_l_cut (He.free_ok X G (cd.fact 1 (f := .free "len") rfl)) (He.free_ok X G (cd.fact 3 (f := .free "range") rfl)) (He.free_ok X G (cd.fact 4 (f := .free "set") rfl)) (He.free_ok X G (cd.fact 5 (f := .free "sorted") rfl))), He.glo_ok X G (cd.fact 7 (f := .glo "_law_cut") rfl), F_l_cut.kp, (FunD.bindsN F_l_cut (fun _ _ _ _ _ _ us hl => match us, hl with | [_, _], _ => rfl))⟩
  have c_l_pieces : Cal P w K mg base 2 "_law_pieces" ["_law_cells", "_law_many"] (sp_l_pieces K) := ⟨_, _, (ok_l_pieces F_l_pieces (He.free_ok X G (cd.fact 1 (f := .free "len") rfl)) (He.free_ok X G (cd.fact 3 (f := .free "range") rfl)) c_l_piece c_l_cut), He.glo_ok X G (cd.fact 8 (f := .glo "_law_pieces") rfl), F_l_pieces.kp, (FunD.bindsN F_l_pieces (fun _ _ _ _ _ _ us hl => match us, hl with | [_, _], _ => rfl))⟩
  have c_l_ties : Cal P w K mg base 1 "_law_ties" ["_law_cell", "_law_many", "_law_pieces_here"] (sp_l_ties K) := ⟨_, _, (ok_l_ties F_l_ties (He.free_ok X G (cd.fact 1 (f := .free "len") rfl)) (He.free_ok X G (cd.fact 9 (f := .free "min") rfl)) (He.free_ok X G (cd.fact 3 (f := .free "range") rfl))), He.glo_ok X G (cd.fact 10 (f := .glo "_law_ties") rfl), F_l_ties.kp, (FunD.bindsN F_l_ties (fun _ _ _ _ _ _ us hl => match us, hl with | [_, _, _], _ => rfl))⟩
  have c_l_copy : Cal P w K mg base 1 "_law_copy" ["_law_pieces_here"] (sp_l_copy K) := ⟨_, _, (ok_l_copy F_l_copy (He.free_ok X G (cd.fact 11 (f := .free "list") rfl))), He.glo_ok X G (cd.fact 12 (f := .glo "_law_copy") rfl), F_l_copy.kp, (FunD.bindsN F_l_copy (fun _ _ _ _ _ _ us hl => match us, hl with | [_], _ => rfl))⟩
  have c_is_whole : Cal P w K mg base 1 "is_whole" ["thing"] (sp_is_whole K) := ⟨_, _, (ok_is_whole F_is_whole (He.free_ok X G (cd.fact 13 (f := .free "bool") rfl)) (He.free_ok X G (cd.fact 14 (f := .free "int") rfl)) (He.free_ok X G (cd.fact 15 (f := .free "isinstance") rfl))), He.glo_ok X G (cd.fact 16 (f := .glo "is_whole") rfl), F_is_whole.kp, (FunD.bindsN F_is_whole (fun _ _ _ _ _ _ us hl => match us, hl with | [_], _ => rfl))⟩
  have c_check_cut : Cal P w K mg base 2 "check_cut" ["cut", "here"] (sp_check_cut K) := ⟨_, _, (ok_check_cut F_check_cut (He.free_ok X G (cd.fact 1 (f := .free "len") rfl)) (He.int_ok X G (cd.fact 17 (f := .int "MOST_IN_CUT" (6)) rfl)) c_is_whole), He.glo_ok X G (cd.fact 18 (f := .glo "check_cut") rfl), F_check_cut.kp, (FunD.bindsN F_check_cut (fun _ _ _ _ _ _ us hl => match us, hl with | [_, _], _ => rfl))⟩
  have c_every_lighting : Cal P w K mg base 1 "every_lighting" ["many"] (sp_every_lighting K) := ⟨_, _, (ok_every_lighting F_every_lighting ), He.glo_ok X G (cd.fact 19 (f := .glo "every_lighting") rfl), F_every_lighting.kp, (FunD.bindsN F_every_lighting (fun _ _ _ _ _ _ us hl => match us, hl with | [_], _ => rfl))⟩
  have c_Board___init__ : CalI P w K mg base 3 "Board" (He.ga K "Board") ["self", "many", "pieces", "ties"] (sp_Board___init__ K) := ⟨_, _, (ok_Board___init__ F_Board___init__ (He.free_ok X G (cd.fact 1 (f := .free "len") rfl)) (He.free_ok X G (cd.fact 11 (f := .free "list") rfl)) (He.free_ok X G (cd.fact 3 (f := .free "range") rfl)) (He.int_ok X G (cd.fact 20 (f := .int "MOST_INPUTS" (10)) rfl)) (He.int_ok X G (cd.fact 21 (f := .int "KNOTS" (1000)) rfl)) (He.cls_ok (cd.fact 22 (f := .cls "Board") rfl)) (He.noat_ok (cd.fact 23 (f := .noat "Board" "rows") rfl)) (He.noat_ok (cd.fact 24 (f := .noat "Board" "ends") rfl)) (He.noat_ok (cd.fact 25 (f := .noat "Board" "many") rfl)) c_is_whole c_check_cut c_every_lighting), He.mkr_ok (cd.fact 26 (f := .mkr "Board") rfl), He.glo_ok X G (cd.fact 27 (f := .glo "Board") rfl), (FunD.bindsN F_Board___init__ (fun _ _ _ _ _ _ us hl => match us, hl with | [_, _, _, _], _ => rfl))⟩
  have c_Board_pieces : CalM P w K mg base 1 (He.ga K "Board") "pieces" ["self"] (sp_Board_pieces K) := ⟨_, _, (ok_Board_pieces F_Board_pieces (He.free_ok X G (cd.fact 11 (f := .free "list") rfl)) (He.cls_ok (cd.fact 22 (f := .cls "Board") rfl)) (He.noat_ok (cd.fact 23 (f := .noat "Board" "rows") rfl))), He.meth_ok (cd.fact 28 (f := .meth "Board" "pieces") rfl), (FunD.bindsN F_Board_pieces (fun _ _ _ _ _ _ us hl => match us, hl with | [_], _ => rfl)), He.cls_ok (cd.fact 22 (f := .cls "Board") rfl)⟩
  have c_Board_ties : CalM P w K mg base 1 (He.ga K "Board") "ties" ["self"] (sp_Board_ties K) := ⟨_, _, (ok_Board_ties F_Board_ties (He.free_ok X G (cd.fact 11 (f := .free "list") rfl)) (He.cls_ok (cd.fact 22 (f := .cls "Board") rfl)) (He.noat_ok (cd.fact 24 (f := .noat "Board" "ends") rfl))), He.meth_ok (cd.fact 29 (f := .meth "Board" "ties") rfl), (FunD.bindsN F_Board_ties (fun _ _ _ _ _ _ us hl => match us, hl with | [_], _ => rfl)), He.cls_ok (cd.fact 22 (f := .cls "Board") rfl)⟩
  have c_l_whole : Cal P w K mg base 1 "_law_whole" ["_law_found"] (sp_l_whole K) := ⟨_, _, (ok_l_whole F_l_whole (He.free_ok X G (cd.fact 13 (f := .free "bool") rfl)) (He.free_ok X G (cd.fact 14 (f := .free "int") rfl)) (He.free_ok X G (cd.fact 15 (f := .free "isinstance") rfl))), He.glo_ok X G (cd.fact 30 (f := .glo "_law_whole") rfl), F_l_whole.kp, (FunD.bindsN F_l_whole (fun _ _ _ _ _ _ us hl => match us, hl with | [_], _ => rfl))⟩
  have c_l_told : Cal P w K mg base 2 "_law_told" ["_law_board", "_law_many", "_law_pieces_here", "_law_ties_here"] (sp_l_told K) := ⟨_, _, (ok_l_told F_l_told (He.free_ok X G (cd.fact 31 (f := .free "all") rfl)) (He.free_ok X G (cd.fact 15 (f := .free "isinstance") rfl)) (He.free_ok X G (cd.fact 11 (f := .free "list") rfl)) (He.free_ok X G (cd.fact 32 (f := .free "tuple") rfl)) (He.cls_ok (cd.fact 22 (f := .cls "Board") rfl)) (He.noat_ok (cd.fact 25 (f := .noat "Board" "many") rfl)) c_Board_pieces c_Board_ties c_l_whole), He.glo_ok X G (cd.fact 33 (f := .glo "_law_told") rfl), F_l_told.kp, (FunD.bindsN F_l_told (fun _ _ _ _ _ _ us hl => match us, hl with | [_, _, _, _], _ => rfl))⟩
  have c_l_copy_3 : Cal P w K mg base 1 "_law_copy" ["_law_pieces_here"] (sp_l_copy_3 K) := ⟨_, _, (ok_l_copy_3 F_l_copy (He.free_ok X G (cd.fact 11 (f := .free "list") rfl))), He.glo_ok X G (cd.fact 12 (f := .glo "_law_copy") rfl), F_l_copy.kp, (FunD.bindsN F_l_copy (fun _ _ _ _ _ _ us hl => match us, hl with | [_], _ => rfl))⟩
  have c_l_no_number : Cal P w K mg base 1 "_law_no_number" ["_law_cell"] (sp_l_no_number K) := ⟨_, _, (ok_l_no_number F_l_no_number ), He.glo_ok X G (cd.fact 34 (f := .glo "_law_no_number") rfl), F_l_no_number.kp, (FunD.bindsN F_l_no_number (fun _ _ _ _ _ _ us hl => match us, hl with | [_], _ => rfl))⟩
  have c_l_wrong_tie : Cal P w K mg base 2 "_law_wrong_tie" ["_law_many", "_law_pieces_here", "_law_cell"] (sp_l_wrong_tie K) := ⟨_, _, (ok_l_wrong_tie F_l_wrong_tie c_l_no_number), He.glo_ok X G (cd.fact 35 (f := .glo "_law_wrong_tie") rfl), F_l_wrong_tie.kp, (FunD.bindsN F_l_wrong_tie (fun _ _ _ _ _ _ us hl => match us, hl with | [_, _, _], _ => rfl))⟩
  have c_l_wrong_knot : Cal P w K mg base 2 "_law_wrong_knot" ["_law_last", "_law_many", "_law_cell"] (sp_l_wrong_knot K) := ⟨_, _, (ok_l_wrong_knot F_l_wrong_knot c_l_no_number), He.glo_ok X G (cd.fact 36 (f := .glo "_law_wrong_knot") rfl), F_l_wrong_knot.kp, (FunD.bindsN F_l_wrong_knot (fun _ _ _ _ _ _ us hl => match us, hl with | [_, _, _], _ => rfl))⟩
  have c_l_wrong_cut : Cal P w K mg base 2 "_law_wrong_cut" ["_law_cut_here", "_law_knot", "_law_cell"] (sp_l_wrong_cut K) := ⟨_, _, (ok_l_wrong_cut F_l_wrong_cut (He.free_ok X G (cd.fact 1 (f := .free "len") rfl)) c_l_no_number), He.glo_ok X G (cd.fact 37 (f := .glo "_law_wrong_cut") rfl), F_l_wrong_cut.kp, (FunD.bindsN F_l_wrong_cut (fun _ _ _ _ _ _ us hl => match us, hl with | [_, _, _], _ => rfl))⟩
  have c_l_spoilt : Cal P w K mg base 3 "_law_spoilt" ["_law_many", "_law_pieces_here", "_law_ties_here", "_law_way", "_law_cell"] (sp_l_spoilt K) := ⟨_, _, (ok_l_spoilt F_l_spoilt (He.free_ok X G (cd.fact 1 (f := .free "len") rfl)) (He.free_ok X G (cd.fact 11 (f := .free "list") rfl)) c_l_copy_3 c_l_no_number c_l_wrong_tie c_l_wrong_knot c_l_wrong_cut), He.glo_ok X G (cd.fact 38 (f := .glo "_law_spoilt") rfl), F_l_spoilt.kp, (FunD.bindsN F_l_spoilt (fun _ _ _ _ _ _ us hl => match us, hl with | [_, _, _, _, _], _ => rfl))⟩
  have c_is_whole_2 : Cal P w K mg base 1 "is_whole" ["thing"] (sp_is_whole_2 K) := ⟨_, _, (ok_is_whole_2 F_is_whole (He.free_ok X G (cd.fact 13 (f := .free "bool") rfl)) (He.free_ok X G (cd.fact 14 (f := .free "int") rfl)) (He.free_ok X G (cd.fact 15 (f := .free "isinstance") rfl))), He.glo_ok X G (cd.fact 16 (f := .glo "is_whole") rfl), F_is_whole.kp, (FunD.bindsN F_is_whole (fun _ _ _ _ _ _ us hl => match us, hl with | [_], _ => rfl))⟩
  have c_check_cut_3 : Cal P w K mg base 2 "check_cut" ["cut", "here"] (sp_check_cut_3 K) := ⟨_, _, (ok_check_cut_3 F_check_cut (He.free_ok X G (cd.fact 1 (f := .free "len") rfl)) (He.int_ok X G (cd.fact 17 (f := .int "MOST_IN_CUT" (6)) rfl)) (exF (He.exc_ok (cd.fact 39 (f := .exc "NoBoard") rfl)) (He.glo_ok X G (cd.fact 40 (f := .glo "NoBoard") rfl))) c_is_whole_2), He.glo_ok X G (cd.fact 18 (f := .glo "check_cut") rfl), F_check_cut.kp, (FunD.bindsN F_check_cut (fun _ _ _ _ _ _ us hl => match us, hl with | [_, _], _ => rfl))⟩
  have c_Board___init___3 : CalI P w K mg base 3 "Board" (He.ga K "Board") ["self", "many", "pieces", "ties"] (sp_Board___init___3 K) := ⟨_, _, (ok_Board___init___3 F_Board___init__ (He.free_ok X G (cd.fact 1 (f := .free "len") rfl)) (He.free_ok X G (cd.fact 11 (f := .free "list") rfl)) (He.free_ok X G (cd.fact 3 (f := .free "range") rfl)) (He.int_ok X G (cd.fact 20 (f := .int "MOST_INPUTS" (10)) rfl)) (exF (He.exc_ok (cd.fact 39 (f := .exc "NoBoard") rfl)) (He.glo_ok X G (cd.fact 40 (f := .glo "NoBoard") rfl))) (He.int_ok X G (cd.fact 21 (f := .int "KNOTS" (1000)) rfl)) (He.cls_ok (cd.fact 22 (f := .cls "Board") rfl)) (He.noat_ok (cd.fact 23 (f := .noat "Board" "rows") rfl)) (He.noat_ok (cd.fact 24 (f := .noat "Board" "ends") rfl)) (He.noat_ok (cd.fact 25 (f := .noat "Board" "many") rfl)) c_is_whole_2 c_check_cut_3 c_every_lighting), He.mkr_ok (cd.fact 26 (f := .mkr "Board") rfl), He.glo_ok X G (cd.fact 27 (f := .glo "Board") rfl), (FunD.bindsN F_Board___init__ (fun _ _ _ _ _ _ us hl => match us, hl with | [_, _, _, _], _ => rfl))⟩
  have c_l_refused : Cal P w K mg base 5 "_law_refused" ["_law_many", "_law_pieces_here", "_law_ties_here"] (sp_l_refused K) := ⟨_, _, (ok_l_refused F_l_refused (He.free_ok X G (cd.fact 41 (f := .free "ValueError") rfl)) (He.free_ok X G (cd.fact 15 (f := .free "isinstance") rfl)) (He.glo_ok X G (cd.fact 40 (f := .glo "NoBoard") rfl)) (He.glo_ok X G (cd.fact 42 (f := .glo "FoldError") rfl)) (fun x => excCB_ok (Xc.all_ok (allB_at c.x 0 rfl) x)) (Xc.all_ok (allB_at c.x 1 rfl)) (Xc.all_ok (allB_at c.x 2 rfl)) (He.glo_ok X G (cd.fact 43 (f := .glo "NoCut") rfl)) (He.glo_ok X G (cd.fact 44 (f := .glo "NoGoal") rfl)) (He.glo_ok X G (cd.fact 45 (f := .glo "NoKnot") rfl)) (He.glo_ok X G (cd.fact 46 (f := .glo "NoLine") rfl)) (He.glo_ok X G (cd.fact 47 (f := .glo "NoMatch") rfl)) (He.glo_ok X G (cd.fact 48 (f := .glo "NoName") rfl)) (He.glo_ok X G (cd.fact 49 (f := .glo "NoSize") rfl)) (He.glo_ok X G (cd.fact 50 (f := .glo "NoText") rfl)) (He.glo_ok X G (cd.fact 51 (f := .glo "NoTie") rfl)) (Xc.all_ok (allB_at c.x 3 rfl)) (Xc.all_ok (allB_at c.x 4 rfl)) (Xc.all_ok (allB_at c.x 5 rfl)) c_Board___init___3), He.glo_ok X G (cd.fact 52 (f := .glo "_law_refused") rfl), F_l_refused.kp, (FunD.bindsN F_l_refused (fun _ _ _ _ _ _ us hl => match us, hl with | [_, _, _], _ => rfl))⟩
  have c_l_copy_2 : Cal P w K mg base 1 "_law_copy" ["_law_pieces_here"] (sp_l_copy_2 K) := ⟨_, _, (ok_l_copy_2 F_l_copy (He.free_ok X G (cd.fact 11 (f := .free "list") rfl))), He.glo_ok X G (cd.fact 12 (f := .glo "_law_copy") rfl), F_l_copy.kp, (FunD.bindsN F_l_copy (fun _ _ _ _ _ _ us hl => match us, hl with | [_], _ => rfl))⟩
  have c_check_cut_2 : Cal P w K mg base 2 "check_cut" ["cut", "here"] (sp_check_cut_2 K) := ⟨_, _, (ok_check_cut_2 F_check_cut (He.free_ok X G (cd.fact 1 (f := .free "len") rfl)) (He.int_ok X G (cd.fact 17 (f := .int "MOST_IN_CUT" (6)) rfl)) c_is_whole), He.glo_ok X G (cd.fact 18 (f := .glo "check_cut") rfl), F_check_cut.kp, (FunD.bindsN F_check_cut (fun _ _ _ _ _ _ us hl => match us, hl with | [_, _], _ => rfl))⟩
  have c_Board___init___2 : CalI P w K mg base 3 "Board" (He.ga K "Board") ["self", "many", "pieces", "ties"] (sp_Board___init___2 K) := ⟨_, _, (ok_Board___init___2 F_Board___init__ (He.free_ok X G (cd.fact 1 (f := .free "len") rfl)) (He.free_ok X G (cd.fact 11 (f := .free "list") rfl)) (He.free_ok X G (cd.fact 3 (f := .free "range") rfl)) (He.int_ok X G (cd.fact 20 (f := .int "MOST_INPUTS" (10)) rfl)) (He.int_ok X G (cd.fact 21 (f := .int "KNOTS" (1000)) rfl)) (He.cls_ok (cd.fact 22 (f := .cls "Board") rfl)) (He.noat_ok (cd.fact 23 (f := .noat "Board" "rows") rfl)) (He.noat_ok (cd.fact 24 (f := .noat "Board" "ends") rfl)) (He.noat_ok (cd.fact 25 (f := .noat "Board" "many") rfl)) c_is_whole c_check_cut_2 c_every_lighting), He.mkr_ok (cd.fact 26 (f := .mkr "Board") rfl), He.glo_ok X G (cd.fact 27 (f := .glo "Board") rfl), (FunD.bindsN F_Board___init__ (fun _ _ _ _ _ _ us hl => match us, hl with | [_, _, _, _], _ => rfl))⟩
  exact ok_law F_law (He.free_ok X G (cd.fact 1 (f := .free "len") rfl)) (He.free_ok X G (cd.fact 11 (f := .free "list") rfl)) c_l_cell_at c_l_pieces c_l_ties c_l_copy c_Board___init__ c_l_told c_l_spoilt c_l_refused c_l_copy_2 c_Board___init___2
end W
open PySem PySem.W PySem.Calls PyProof.Rows
set_option maxHeartbeats 0 in
theorem PySem.Challenge.cw_gatefold_k34_board_made_holds : PySem.Challenge.rw_gatefold_k34_board_made.Holds := by
  w_on; o_law
  refine HandSHeadRun.head_any (r := OpenLaw.row PySem.Challenge.rw_gatefold_k34_board_made) (q := view (OpenLaw.row PySem.Challenge.rw_gatefold_k34_board_made).prog [37]) (H := W.hk) (ob := W.ob) (M := 8000) (loose := W.loose) (d := HandSHeadRun.topDef (OpenLaw.row PySem.Challenge.rw_gatefold_k34_board_made).prog 37) (kwd := []) W.ob_eq
    (by kernel_rfl) (fun s => by kernel_rfl) W.run (by kernel_rfl) (by kernel_rfl) (by kernel_rfl) (by rfl) (by first | assumption | decide +kernel) (by decide +kernel) ⟨rfl, rfl, rfl, rfl, rfl, by decide +kernel⟩ ?hw ?hc
  case hw => w_witness2
  case hc =>
    refine G.walk_ofEB (l := PySem.Challenge.rw_gatefold_k34_board_made) (n := 63) (k := 6) (x := "_law_script") rfl (by decide) (by kernel_rfl) ⟨rfl, by decide, by decide⟩ ?F
    intro w mg fa h Y GN hmg0
    obtain ⟨K, KX, c⟩ := Y
    have hmg : mg ("law" : PySem.Str) = some (.ref fa) := by
      have e : (HandSHeadRun.topDef (OpenLaw.row PySem.Challenge.rw_gatefold_k34_board_made).prog 37).name = ("law" : PySem.Str) := by kernel_rfl
      rw [← e]
      exact hmg0
    obtain ⟨fd, hb, hF⟩ := W.facts (P := (PySem.Challenge.rw_gatefold_k34_board_made).prog) (w := w) KX GN hmg c
    exact ⟨K, fd, W.sp_law K, KX, hb, G.law_spM W.math, hF⟩

