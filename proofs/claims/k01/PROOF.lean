import PyProof.Rows.All
import Wide.All
import OpenK.AllK
import Wide.FinOn
import HandS.ForMost
import HandS.Exc
import HandS.ExcOwn
import HandS.WordsExc
import HandS.CallSlots
import HandS.Defaults
import HandS.Wide
import HandS.Comp
import HandS.IsInst
import HandS.Text
import HandS.StrMore
import HandS.Style
import HandS.RaiseMore
import HandS.Dict
import HandS.Codes
import HandS.Replace
import HandS.ReplaceList
import PyProof.Rows.StrStrike
import PyProof.Rows.RegReprOcc
import PyProof.Rows.StrRev
import PyProof.Rows.ListStrD
import KE.KStateDown
import Lean
import HandS.Base
import HandS.Call
import HandS.Ends
import HandS.More
import HandS.Words
import HandS.Head0
import HandS.Head1
import HandS.Head2
import HandS.HeadEnd
import HandS.HeadHook1
import HandS.HeadHook2
import PySem.Challenge.RW_canontext_k01_characters_and_texts
set_option Elab.async false
set_option linter.all false
set_option maxRecDepth 100000
set_option maxHeartbeats 4000000
/-! A layer of typed mirrors over HandS: values of plain Lean types stand for what the program's values hold. -/
namespace Mi
open PySem PySem.Spec PyProof.Rows L2

/-! ### heaps -/
def Sub (H H' : Hp) : Prop := ∀ a o, H a = some o → H' a = some o
theorem Sub.refl (H : Hp) : Sub H H := fun _ _ h => h
theorem Sub.trans {A B C : Hp} (h : Sub A B) (k : Sub B C) : Sub A C := fun a o e => k a o (h a o e)
theorem Sub.none {A B : Hp} (h : Sub A B) {p : Addr} (e : B p = none) : A p = none := by
  cases q : A p with
  | none => rfl
  | some o => rw [h p o q] at e; cases e
def emp : Hp := fun _ => none
def sing (a : Addr) (o : HO) : Hp := fun b => if b = a then some o else none
theorem sing_same {a : Addr} {o : HO} : sing a o a = some o := if_pos rfl
theorem sing_ne {a b : Addr} {o : HO} (h : b ≠ a) : sing a o b = none := if_neg h
def uni (A B : Hp) : Hp := fun p => match A p with
  | some o => some o
  | none => B p
theorem uni_l {A B : Hp} {p : Addr} {o : HO} (h : A p = some o) : uni A B p = some o := by unfold uni; rw [h]
theorem uni_r {A B : Hp} {p : Addr} (h : A p = none) : uni A B p = B p := by unfold uni; rw [h]
theorem uni_none {A B : Hp} {p : Addr} : uni A B p = none ↔ A p = none ∧ B p = none := by
  cases h : A p with
  | some o => rw [uni_l h]; simp
  | none => rw [uni_r h]; simp
theorem uni_emp (A : Hp) : uni A emp = A := by
  funext p; cases h : A p with
  | some o => exact uni_l h
  | none => rw [uni_r h] <;> rfl
theorem emp_uni (A : Hp) : uni emp A = A := rfl
/-- C is A and B, apart -/
structure Sep (A B C : Hp) : Prop where
  dis : ∀ p, A p = none ∨ B p = none
  eq : C = uni A B
theorem Sep.l {A B C : Hp} (s : Sep A B C) : Sub A C := fun a o h => by rw [s.eq]; exact uni_l h
theorem Sep.r {A B C : Hp} (s : Sep A B C) : Sub B C := fun a o h => by
  rw [s.eq]
  rcases s.dis a with e | e
  · rw [uni_r e]; exact h
  · rw [h] at e; cases e
theorem Sep.emp_l {A B : Hp} (s : Sep emp A B) : B = A := s.eq
theorem sep_emp_l (A : Hp) : Sep emp A A := ⟨fun _ => .inl rfl, rfl⟩
theorem sep_emp_r (A : Hp) : Sep A emp A := ⟨fun _ => .inr rfl, (uni_emp A).symm⟩
theorem Sep.comm {A B C : Hp} (s : Sep A B C) : Sep B A C := ⟨fun p => (s.dis p).symm, by
  rw [s.eq]; funext p
  rcases s.dis p with e | e
  · rw [uni_r e]
    cases h : B p with
    | some o => exact (uni_l h).symm
    | none => rw [uni_r h, e]
  · rw [uni_r e]
    cases h : A p with
    | some o => exact (uni_l h)
    | none => rw [uni_r h, e]⟩
theorem Sep.none {A B C : Hp} (s : Sep A B C) {p : Addr} (h : C p = none) : A p = none ∧ B p = none := by
  rw [s.eq] at h; exact uni_none.mp h
theorem Sep.assoc {A B C D E : Hp} (s : Sep A B C) (t : Sep D C E) : ∃ G, Sep D B G ∧ Sep A G E := by
  refine ⟨uni D B, ⟨fun p => ?_, rfl⟩, fun p => ?_, ?_⟩
  · rcases t.dis p with e | e
    · exact .inl e
    · exact .inr (s.none e).2
  · rcases t.dis p with e | e
    · rcases s.dis p with q | q
      · exact .inl q
      · exact .inr (uni_none.mpr ⟨e, q⟩)
    · exact .inl (s.none e).1
  · rw [t.eq, s.eq]; funext p
    cases hd : D p with
    | some o =>
      rw [uni_l hd]
      have ha : A p = Option.none := by
        rcases t.dis p with e | e
        · rw [hd] at e; cases e
        · exact (s.none e).1
      rw [uni_r ha, uni_l hd]
    | none =>
      rw [uni_r hd]
      cases ha : A p with
      | some o => rw [uni_l ha, uni_l ha]
      | none => rw [uni_r ha, uni_r ha, uni_r hd]
/-- what is held: F never changes, M may be changed by us -/
structure Good (F M H : Hp) : Prop where
  f : Sub F H
  m : Sub M H
  dis : ∀ p, F p = none ∨ M p = none
theorem Good.less {F M M' H : Hp} (g : Good F M H) (h : Sub M' M) : Good F M' H := ⟨g.f, h.trans g.m, fun p => (g.dis p).imp id fun e => h.none e⟩
/-- a new object, frozen at once -/
theorem Good.newF {F M H : Hp} {p : Addr} {o : HO} (g : Good F M H) (h : H p = none) : Good (upd F p o) M (upd H p o) := by
  have hF : F p = none := g.f.none h
  have hM : M p = none := g.m.none h
  refine ⟨fun a u e => ?_, fun a u e => ?_, fun a => ?_⟩
  · by_cases q : a = p
    · subst q; rw [upd_same] at e ⊢; exact e
    · rw [upd_ne q] at e ⊢; exact g.f a u e
  · have q : a ≠ p := ne_of_none e hM
    rw [upd_ne q]; exact g.m a u e
  · by_cases q : a = p
    · subst q; exact .inr hM
    · rw [upd_ne q]; exact g.dis a
theorem sub_upd {F : Hp} {p : Addr} {o : HO} (h : F p = none) : Sub F (upd F p o) := fun a u e => by rw [upd_ne (ne_of_none e h)]; exact e
/-- a new object of ours -/
theorem Good.newM {F M H : Hp} {p : Addr} {o : HO} (g : Good F M H) (h : H p = none) : Good F (uni (sing p o) M) (upd H p o) ∧ Sep (sing p o) M (uni (sing p o) M) := by
  have hF : F p = none := g.f.none h
  have hM : M p = none := g.m.none h
  refine ⟨⟨fun a u e => ?_, fun a u e => ?_, fun a => ?_⟩, fun a => ?_, rfl⟩
  · rw [upd_ne (ne_of_none e hF)]; exact g.f a u e
  · by_cases q : a = p
    · subst q; rw [uni_l sing_same] at e; rw [upd_same]; exact e
    · rw [uni_r (sing_ne q)] at e; rw [upd_ne q]; exact g.m a u e
  · by_cases q : a = p
    · subst q; exact .inl hF
    · rw [uni_r (sing_ne q)]; exact g.dis a
  · by_cases q : a = p
    · subst q; exact .inr hM
    · exact .inl (sing_ne q)
/-- an object of ours is changed -/
theorem Good.set {F M1 M H : Hp} {p : Addr} {o o' : HO} (g : Good F M H) (s : Sep (sing p o) M1 M) : ∃ M', Sep (sing p o') M1 M' ∧ Good F M' (upd H p o') := by
  have hM1 : M1 p = none := by
    rcases s.dis p with e | e
    · rw [sing_same] at e; cases e
    · exact e
  have hM : M p = some o := s.l p o sing_same
  have hF : F p = none := by
    rcases g.dis p with e | e
    · exact e
    · rw [hM] at e; cases e
  refine ⟨uni (sing p o') M1, ⟨fun a => ?_, rfl⟩, fun a u e => ?_, fun a u e => ?_, fun a => ?_⟩
  · by_cases q : a = p
    · subst q; exact .inr hM1
    · exact .inl (sing_ne q)
  · rw [upd_ne (ne_of_none e hF)]; exact g.f a u e
  · by_cases q : a = p
    · subst q; rw [uni_l sing_same] at e; rw [upd_same]; exact e
    · rw [uni_r (sing_ne q)] at e; rw [upd_ne q]; exact g.m a u (s.r a u e)
  · by_cases q : a = p
    · subst q; exact .inl hF
    · rw [uni_r (sing_ne q)]
      rcases g.dis a with e | e
      · exact .inl e
      · exact .inr (s.none e).2
/-- ours is frozen -/
theorem Good.freeze {F M1 M H A : Hp} (g : Good F M H) (s : Sep A M1 M) : Good (uni A F) M1 H ∧ Sub F (uni A F) ∧ Sub A (uni A F) := by
  have d : ∀ p, A p = none ∨ F p = none := fun p => by
    rcases g.dis p with e | e
    · exact .inr e
    · exact .inl (s.none e).1
  refine ⟨⟨fun a u e => ?_, s.r.trans g.m, fun a => ?_⟩, fun a u e => ?_, fun a u e => uni_l e⟩
  · cases q : A a with
    | some w => rw [uni_l q] at e; exact g.m a u (s.l a u (by rw [q]; exact e))
    | none => rw [uni_r q] at e; exact g.f a u e
  · rcases s.dis a with e | e
    · rcases g.dis a with q | q
      · exact .inl (uni_none.mpr ⟨e, q⟩)
      · exact .inr (s.none q).2
    · exact .inr e
  · rcases d a with q | q
    · rw [uni_r q]; exact e
    · rw [q] at e; cases e

/-! ### types -/
structure Ty where
  A : Type
  rep : A → V → Hp → Hp → Prop
  mono : ∀ {x v F F' m}, rep x v F m → Sub F F' → rep x v F' m
def Imm (t : Ty) : Prop := ∀ {x v F m}, t.rep x v F m → m = emp
/-- immutable values -/
abbrev imTy (A : Type) (r : A → V → Hp → Prop) (h : ∀ {x v F F'}, r x v F → Sub F F' → r x v F') : Ty := ⟨A, fun x v F m => m = emp ∧ r x v F, fun a s => ⟨a.1, h a.2 s⟩⟩
theorem imm_im {A : Type} {r : A → V → Hp → Prop} {h : ∀ {x v F F'}, r x v F → Sub F F' → r x v F'} : Imm (imTy A r h) := fun a => a.1
abbrev flat (A : Type) (g : A → V) : Ty := imTy A (fun x v _ => v = g x) fun a _ => a
abbrev tInt : Ty := flat Int V.int
abbrev tBool : Ty := flat Bool V.bl
abbrev tNone : Ty := flat Unit fun _ => V.non
def sOf (l : List Nat) : Str := ⟨l.toArray⟩
abbrev tStr : Ty := flat (List Nat) fun l => V.str (sOf l)
abbrev tChr : Ty := flat Nat fun c => V.str (sOf [c])

/-! ### data of any kind -/
inductive Dat where
  | non | bl (b : Bool) | int (i : Int) | str (s : List Nat) | lst (xs : List Dat) | tup (xs : List Dat) | dct (ks : List Key) (vs : List Dat) | opq
mutual
def DRep : Dat → V → Hp → Prop
  | .non, v, _ => v = .non
  | .bl b, v, _ => v = .bl b
  | .int i, v, _ => v = .int i
  | .str s, v, _ => v = .str (sOf s)
  | .opq, v, F => ∃ a, v = .ref a ∧ ((∃ xs, F a = some (.lst xs)) ∨ (∃ xs, F a = some (.tup xs)) ∨ ∃ kvs, F a = some (.dK kvs))
  | .lst xs, v, F => ∃ a vs, v = .ref a ∧ F a = some (.lst vs) ∧ DReps xs vs F
  | .tup xs, v, F => ∃ a vs, v = .ref a ∧ F a = some (.tup vs) ∧ DReps xs vs F
  | .dct ks xs, v, F => ∃ a o vs, v = .ref a ∧ F a = some (.frz o (.dK (ks.zip vs))) ∧ ks.length = vs.length ∧ ks.Nodup ∧ DReps xs vs F
def DReps : List Dat → List V → Hp → Prop
  | [], vs, _ => vs = []
  | x :: xs, vs, F => ∃ v r, vs = v :: r ∧ DRep x v F ∧ DReps xs r F
end
mutual
theorem DRep.mono : ∀ {x : Dat} {v : V} {F F' : Hp}, DRep x v F → Sub F F' → DRep x v F'
  | .non, _, _, _, h, _ => by unfold DRep at h ⊢; exact h
  | .bl _, _, _, _, h, _ => by unfold DRep at h ⊢; exact h
  | .int _, _, _, _, h, _ => by unfold DRep at h ⊢; exact h
  | .str _, _, _, _, h, _ => by unfold DRep at h ⊢; exact h
  | .opq, _, _, _, h, s => by
    unfold DRep at h ⊢
    obtain ⟨a, e, q⟩ := h
    exact ⟨a, e, q.imp (fun ⟨xs, z⟩ => ⟨xs, s _ _ z⟩) fun q => q.imp (fun ⟨xs, z⟩ => ⟨xs, s _ _ z⟩) fun ⟨xs, z⟩ => ⟨xs, s _ _ z⟩⟩
  | .lst xs, _, _, _, h, s => by
    unfold DRep at h ⊢
    obtain ⟨a, vs, e, q, r⟩ := h
    exact ⟨a, vs, e, s _ _ q, DReps.mono r s⟩
  | .tup xs, _, _, _, h, s => by
    unfold DRep at h ⊢
    obtain ⟨a, vs, e, q, r⟩ := h
    exact ⟨a, vs, e, s _ _ q, DReps.mono r s⟩
  | .dct ks xs, _, _, _, h, s => by
    unfold DRep at h ⊢
    obtain ⟨a, o, vs, e, q, l, nd, r⟩ := h
    exact ⟨a, o, vs, e, s _ _ q, l, nd, DReps.mono r s⟩
theorem DReps.mono : ∀ {xs : List Dat} {vs : List V} {F F' : Hp}, DReps xs vs F → Sub F F' → DReps xs vs F'
  | [], _, _, _, h, _ => by unfold DReps at h ⊢; exact h
  | x :: xs, _, _, _, h, s => by
    unfold DReps at h ⊢
    obtain ⟨v, r, e, q, k⟩ := h
    exact ⟨v, r, e, DRep.mono q s, DReps.mono k s⟩
end
abbrev tDat : Ty := imTy Dat DRep DRep.mono

/-! ### exceptions -/
structure Exn where
  cls : Str
  fs : List (Str × Dat)
def FldsOk (fs : List (Str × Dat)) (vs : List (Str × V)) (F : Hp) : Prop := ∀ f x, fs.lookup f = some x → ∃ v, vs.lookup f = some v ∧ DRep x v F
def ExnOk (mg : Str → Option Value) (ex : Exn) (cls : Value) (d : Option Addr) (F : Hp) : Prop :=
  mg ex.cls = some cls ∧ (ex.fs = [] ∨ ∃ dd vs, d = some dd ∧ F dd = some (.xd vs) ∧ FldsOk ex.fs vs F)
theorem ExnOk.mono {mg : Str → Option Value} {ex : Exn} {cls : Value} {d : Option Addr} {F F' : Hp} (h : ExnOk mg ex cls d F) (s : Sub F F') : ExnOk mg ex cls d F' := by
  refine ⟨h.1, h.2.imp id ?_⟩
  rintro ⟨dd, vs, e, q, k⟩
  refine ⟨dd, vs, e, s _ _ q, fun f x l => ?_⟩
  obtain ⟨v, e1, e2⟩ := k f x l
  exact ⟨v, e1, e2.mono s⟩

/-! ### the mirrors' monad -/
abbrev SM (O A : Type) : Type := O → Option (Except Exn A × O)
namespace SM
variable {O A B : Type}
def ret (x : A) : SM O A := fun o => some (.ok x, o)
def bind (m : SM O A) (k : A → SM O B) : SM O B := fun o => match m o with
  | none => none
  | some (.ok x, o') => k x o'
  | some (.error e, o') => some (.error e, o')
def fail : SM O A := fun _ => none
def raise (e : Exn) : SM O A := fun o => some (.error e, o)
def lift (m : Option A) : SM O A := fun o => match m with
  | some x => some (.ok x, o)
  | none => none
def lifx (m : Option (Except Exn A)) : SM O A := fun o => match m with
  | some r => some (r, o)
  | none => none
end SM

/-! ### contexts -/
abbrev Ctx : Type 1 := List (Option ((t : Ty) × t.A))
def CtxOk (Γ : Ctx) (σ : L2.St) (F : Hp) : Prop := Γ.length = σ.length ∧ ∀ (i : Nat) (t : Ty) (x : t.A), Γ[i]? = some (some ⟨t, x⟩) → ∃ v, σ[i]? = some (some v) ∧ t.rep x v F emp
theorem CtxOk.mono {Γ : Ctx} {σ : L2.St} {F F' : Hp} (h : CtxOk Γ σ F) (s : Sub F F') : CtxOk Γ σ F' := ⟨h.1, fun i t x e => by
  obtain ⟨v, e1, e2⟩ := h.2 i t x e
  exact ⟨v, e1, t.mono e2 s⟩⟩
theorem CtxOk.set {Γ : Ctx} {σ : L2.St} {F : Hp} {i : Nat} {t : Ty} {x : t.A} {v : V} (h : CtxOk Γ σ F) (r : t.rep x v F emp) : CtxOk (Γ.set i (some ⟨t, x⟩)) (σ.set i (some v)) F := by
  refine ⟨by simp [h.1], fun j u y e => ?_⟩
  by_cases q : j = i
  · subst q
    by_cases l : j < Γ.length
    · rw [List.getElem?_set_self l] at e
      obtain ⟨rfl, e2⟩ := Sigma.mk.inj (Option.some.inj (Option.some.inj e))
      cases e2
      exact ⟨v, List.getElem?_set_self (by rw [← h.1]; exact l), r⟩
    · rw [List.getElem?_eq_none (by simpa using l)] at e; cases e
  · rw [List.getElem?_set_ne (Ne.symm q)] at e ⊢
    exact h.2 j u y e
/-- a slot of which nothing is known any more -/
theorem CtxOk.out {Γ : Ctx} {σ : L2.St} {F : Hp} {i : Nat} {w : Option V} (h : CtxOk Γ σ F) : CtxOk (Γ.set i none) (σ.set i w) F := by
  refine ⟨by simp [h.1], fun j u y e => ?_⟩
  by_cases q : j = i
  · subst q
    by_cases l : j < Γ.length
    · rw [List.getElem?_set_self l] at e; cases e
    · rw [List.getElem?_eq_none (by simpa using l)] at e; cases e
  · rw [List.getElem?_set_ne (Ne.symm q)] at e ⊢
    exact h.2 j u y e
/-- less is known -/
def CtxLe (Γ' Γ : Ctx) : Prop := Γ'.length = Γ.length ∧ ∀ (i : Nat) (z : (t : Ty) × t.A), Γ'[i]? = some (some z) → Γ[i]? = some (some z)
theorem CtxLe.refl (Γ : Ctx) : CtxLe Γ Γ := ⟨rfl, fun _ _ h => h⟩
theorem CtxOk.le {Γ Γ' : Ctx} {σ : L2.St} {F : Hp} (h : CtxOk Γ σ F) (l : CtxLe Γ' Γ) : CtxOk Γ' σ F := ⟨l.1.trans h.1, fun i t x e => h.2 i t x (l.2 i _ e)⟩
theorem CtxLe.nil : CtxLe [] [] := .refl _
theorem CtxLe.same {Γ' Γ : Ctx} {z : Option ((t : Ty) × t.A)} (h : CtxLe Γ' Γ) : CtxLe (z :: Γ') (z :: Γ) := ⟨by simp [h.1], fun i w e => by
  cases i with
  | zero => exact e
  | succ i => exact h.2 i w (by simpa using e)⟩
theorem CtxLe.drop {Γ' Γ : Ctx} {z : Option ((t : Ty) × t.A)} (h : CtxLe Γ' Γ) : CtxLe (none :: Γ') (z :: Γ) := ⟨by simp [h.1], fun i w e => by
  cases i with
  | zero => cases e
  | succ i => exact h.2 i w (by simpa using e)⟩

/-! ### what we own -/
abbrev Os : Type 1 := List (Nat × Ty)
@[reducible] def OT : Os → Type
  | [] => Unit
  | p :: r => p.2.A × OT r
def OwnOk : (os : Os) → OT os → L2.St → Hp → Hp → Hp → Prop
  | [], _, _, _, M, R => M = R
  | p :: r, o, σ, F, M, R => ∃ v m M', σ[p.1]? = some (some v) ∧ p.2.rep o.1 v F m ∧ Sep m M' M ∧ OwnOk r o.2 σ F M' R
theorem OwnOk.mono : ∀ {os : Os} {o : OT os} {σ : L2.St} {F F' M R : Hp}, OwnOk os o σ F M R → Sub F F' → OwnOk os o σ F' M R
  | [], _, _, _, _, _, _, h, _ => h
  | _ :: _, _, _, _, _, _, _, ⟨v, m, M', e, r, s, k⟩, h => ⟨v, m, M', e, Ty.mono _ r h, s, k.mono h⟩
/-- the slots of what we own are the same -/
theorem OwnOk.slots : ∀ {os : Os} {o : OT os} {σ σ' : L2.St} {F M R : Hp}, OwnOk os o σ F M R → (∀ p ∈ os, σ'[p.1]? = σ[p.1]?) → OwnOk os o σ' F M R
  | [], _, _, _, _, _, _, h, _ => h
  | p :: r, _, _, _, _, _, _, ⟨v, m, M', e, q, s, k⟩, h => ⟨v, m, M', (h p List.mem_cons_self).trans e, q, s, k.slots fun z hz => h z (List.mem_cons_of_mem _ hz)⟩
/-- the rest is more -/
theorem OwnOk.frame : ∀ {os : Os} {o : OT os} {σ : L2.St} {F M R A M2 : Hp}, OwnOk os o σ F M R → Sep A M M2 → ∃ R2, Sep A R R2 ∧ OwnOk os o σ F M2 R2
  | [], _, _, _, M, R, A, M2, h, s => ⟨M2, by have h' : M = R := h; rw [← h']; exact s, rfl⟩
  | p :: r, o, σ, F, M, R, A, M2, ⟨v, m, M', e, q, s, k⟩, t => by
    obtain ⟨G, s1, s2⟩ := s.assoc t
    obtain ⟨R2, r1, r2⟩ := k.frame s1
    exact ⟨R2, r1, v, m, G, e, q, s2, r2⟩
theorem OwnOk.unframe : ∀ {os : Os} {o : OT os} {σ : L2.St} {F M R A R2 : Hp}, OwnOk os o σ F M R2 → Sep A R R2 → ∃ M1, Sep A M1 M ∧ OwnOk os o σ F M1 R
  | [], _, _, _, M, R, A, R2, h, s => ⟨R, by have h' : M = R2 := h; rw [h']; exact s, rfl⟩
  | p :: r, o, σ, F, M, R, A, R2, ⟨v, m, M', e, q, s, k⟩, t => by
    obtain ⟨M1, s1, k1⟩ := k.unframe t
    obtain ⟨G, g1, g2⟩ := s1.assoc s
    exact ⟨G, g2, v, m, M1, e, q, g1, k1⟩
/-- where an owned thing stands -/
inductive OMem : Os → Nat → Ty → Type 1
  | here {i : Nat} {t : Ty} {r : Os} : OMem ((i, t) :: r) i t
  | there {p : Nat × Ty} {i : Nat} {t : Ty} {r : Os} : OMem r i t → OMem (p :: r) i t
def OMem.get : {os : Os} → {i : Nat} → {t : Ty} → OMem os i t → OT os → t.A
  | _, _, _, .here, o => o.1
  | _, _, _, .there h, o => h.get o.2
def OMem.set : {os : Os} → {i : Nat} → {t : Ty} → OMem os i t → t.A → OT os → OT os
  | _, _, _, .here, x, o => (x, o.2)
  | _, _, _, .there h, x, o => (o.1, h.set x o.2)
theorem OMem.at : ∀ {os : Os} {i : Nat} {t : Ty} (h : OMem os i t) {o : OT os} {σ : L2.St} {F M R : Hp}, OwnOk os o σ F M R →
    ∃ v m M', σ[i]? = some (some v) ∧ t.rep (h.get o) v F m ∧ Sep m M' M ∧ ∀ x m' M2 F', Sub F F' → t.rep x v F' m' → Sep m' M' M2 → OwnOk os (h.set x o) σ F' M2 R
  | _, _, _, .here, _, _, _, _, _, ⟨v, m, M', e, q, s, k⟩ => ⟨v, m, M', e, q, s, fun x m' M2 F' f r s' => ⟨v, m', M', e, r, s', k.mono f⟩⟩
  | _, _, _, .there h, o, σ, F, M, R, ⟨v, m, M', e, q, s, k⟩ => by
    obtain ⟨v1, m1, M1, e1, q1, s1, k1⟩ := h.at k
    obtain ⟨G, g1, g2⟩ := s1.assoc s
    refine ⟨v1, m1, G, e1, q1, g2, fun x m' M2 F' f r s' => ?_⟩
    obtain ⟨Z, z1, z2⟩ := g1.assoc s'
    exact ⟨v, m, Z, e, Ty.mono _ q f, z2, k1 x m' Z F' f r z1⟩

/-! ### the judgement of expressions -/
def best (X : Cx) (e : Expr) : TE := fun σ H Q => ∃ t, PE X e t ∧ t σ H Q
theorem pe_best (X : Cx) (e : Expr) : PE X e (best X e) := ⟨fun pins s σ H Q I ⟨_, p, h⟩ => p.run pins s σ H Q I h⟩
def bestT (X : Cx) (e : Expr) : TT := fun σ H Q => ∃ t, PT X e t ∧ t σ H Q
theorem pt_best (X : Cx) (e : Expr) : PT X e (bestT X e) := ⟨fun pins s σ H Q I ⟨_, p, h⟩ => p.run pins s σ H Q I h⟩
def bestA (X : Cx) (es : List Expr) : TA := fun σ H Q => ∃ t, PA X es t ∧ t σ H Q
theorem pa_best (X : Cx) (es : List Expr) : PA X es (bestA X es) := ⟨fun pos pins s σ H Q I ⟨_, p, h⟩ => p.run pos pins s σ H Q I h⟩
def bestS (X : Cx) (st : Stmt) : TS := fun D σ H => ∃ t, PS X st t ∧ t D σ H
theorem ps_best (X : Cx) (st : Stmt) : PS X st (bestS X st) := ⟨fun pins s σ H D I ⟨_, p, h⟩ => p.run pins s σ H D I h⟩
def bestB (X : Cx) (st : List Stmt) : TS := fun D σ H => ∃ t, PSs X st t ∧ t D σ H
theorem pss_best (X : Cx) (st : List Stmt) : PSs X st (bestB X st) := ⟨fun pins s σ H D I ⟨_, p, h⟩ => p.run pins s σ H D I h⟩

/-- what is wanted behind a mirror's end -/
def Want {A O : Type} (r : Option (Except Exn A × O)) (N : A → O → Prop) (E : Exn → O → Prop) : Prop := match r with
  | none => False
  | some (.ok x, o) => N x o
  | some (.error e, o) => E e o
theorem Want.ok {A O : Type} {N : A → O → Prop} {E : Exn → O → Prop} {x : A} {o : O} (h : N x o) : Want (some (.ok x, o)) N E := h
theorem Want.bind {A B O : Type} {m : SM O A} {k : A → SM O B} {o : O} {N : B → O → Prop} {E : Exn → O → Prop} (h : Want (SM.bind m k o) N E) : Want (m o) (fun x o' => Want (k x o') N E) E := by
  unfold SM.bind at h
  cases e : m o with
  | none => rw [e] at h; exact h
  | some r =>
    obtain ⟨r, o'⟩ := r
    rw [e] at h
    cases r with
    | ok x => exact h
    | error x => exact h
theorem Want.imp {A O : Type} {r : Option (Except Exn A × O)} {N N' : A → O → Prop} {E E' : Exn → O → Prop} (h : Want r N E) (hn : ∀ x o, N x o → N' x o) (he : ∀ x o, E x o → E' x o) : Want r N' E' := by
  cases r with
  | none => exact h
  | some r =>
    obtain ⟨r, o'⟩ := r
    cases r with
    | ok x => exact hn _ _ h
    | error x => exact he _ _ h

/-- behind an expression: its value v holds x, we own o -/
def NormE (os : Os) (t : Ty) (σ : L2.St) (F R : Hp) (Q : VK) (x : t.A) (o : OT os) : Prop :=
  ∀ v F' M1 m M' H', Sub F F' → OwnOk os o σ F' M1 R → Sep m M1 M' → Good F' M' H' → t.rep x v F' m → Q v H'
def ExcE (X : Cx) (os : Os) (σ : L2.St) (F R : Hp) (W : WX) (ex : Exn) (o : OT os) : Prop :=
  ∀ cls d F' M' H', Sub F F' → OwnOk os o σ F' M' R → Good F' M' H' → ExnOk X.mg ex cls d F' → W cls d σ H'
theorem ExcE.mono {X : Cx} {os : Os} {σ : L2.St} {F F' R : Hp} {W : WX} {ex : Exn} {o : OT os} (h : ExcE X os σ F R W ex o) (s : Sub F F') : ExcE X os σ F' R W ex o := fun cls d F2 M' H' f => h cls d F2 M' H' (s.trans f)
/-- e is what the mirror m says -/
def RE (X : Cx) (Γ : Ctx) (os : Os) (e : Expr) (t : Ty) (m : SM (OT os) t.A) : Prop :=
  ∀ (σ : L2.St) (F M R H : Hp) (o : OT os) (W : WX) (Q : VK), Takes X W → CtxOk Γ σ F → OwnOk os o σ F M R → Good F M H →
    Want (m o) (NormE os t σ F R Q) (ExcE X os σ F R W) → best X e σ H Q
/-- a test -/
def NormT (os : Os) (σ : L2.St) (F R : Hp) (Q : Bool → Hp → Prop) (b : Bool) (o : OT os) : Prop :=
  ∀ F' M' H', Sub F F' → OwnOk os o σ F' M' R → Good F' M' H' → Q b H'
def RT (X : Cx) (Γ : Ctx) (os : Os) (e : Expr) (m : SM (OT os) Bool) : Prop :=
  ∀ (σ : L2.St) (F M R H : Hp) (o : OT os) (W : WX) (Q : Bool → Hp → Prop), Takes X W → CtxOk Γ σ F → OwnOk os o σ F M R → Good F M H →
    Want (m o) (NormT os σ F R Q) (ExcE X os σ F R W) → bestT X e σ H Q
/-- arguments, all immutable -/
@[reducible] def AT : List Ty → Type
  | [] => Unit
  | t :: r => t.A × AT r
def ArgsOk : (ts : List Ty) → AT ts → List V → Hp → Prop
  | [], _, vs, _ => vs = []
  | t :: r, x, vs, F => ∃ v us, vs = v :: us ∧ t.rep x.1 v F emp ∧ ArgsOk r x.2 us F
theorem ArgsOk.mono : ∀ {ts : List Ty} {x : AT ts} {vs : List V} {F F' : Hp}, ArgsOk ts x vs F → Sub F F' → ArgsOk ts x vs F'
  | [], _, _, _, _, h, _ => h
  | _ :: _, _, _, _, _, ⟨v, us, e, r, k⟩, s => ⟨v, us, e, Ty.mono _ r s, k.mono s⟩
theorem ArgsOk.length : ∀ {ts : List Ty} {x : AT ts} {vs : List V} {F : Hp}, ArgsOk ts x vs F → vs.length = ts.length
  | [], _, vs, _, h => by have h' : vs = [] := h; rw [h'] <;> rfl
  | _ :: _, _, _, _, ⟨v, us, e, r, k⟩ => by rw [e, List.length_cons, List.length_cons, k.length]
def NormA (os : Os) (ts : List Ty) (σ : L2.St) (F R : Hp) (Q : List V → Hp → Prop) (x : AT ts) (o : OT os) : Prop :=
  ∀ vs F' M' H', Sub F F' → OwnOk os o σ F' M' R → Good F' M' H' → ArgsOk ts x vs F' → Q vs H'
def RA (X : Cx) (Γ : Ctx) (os : Os) (es : List Expr) (ts : List Ty) (m : SM (OT os) (AT ts)) : Prop :=
  ∀ (σ : L2.St) (F M R H : Hp) (o : OT os) (W : WX) (Q : List V → Hp → Prop), Takes X W → CtxOk Γ σ F → OwnOk os o σ F M R → Good F M H →
    Want (m o) (NormA os ts σ F R Q) (ExcE X os σ F R W) → bestA X es σ H Q
end Mi

namespace Mi
open PySem PySem.Spec PyProof.Rows L2

/-! ### what is known of a context -/
def visK : NameKind → Bool
  | .local => true | .cell => true | .free => true | _ => false
def locK : NameKind → Bool
  | .local => true | .cell => true | _ => false
/-- of a context whose names stand in sc; B: built-in names that the module leaves alone; k: how deep calls may go -/
structure XOk (X : Cx) (N : List Str) (sc : Scope) (B : List Str) (k : Nat) : Prop where
  nN : X.N = N
  db : ∀ (j : Nat) (x : Str) (kd : NameKind), sc.names[j]? = some (x, kd) → (x == ("__debug__" : Str)) = false ∧ (x == ("__classdict__" : Str)) = false ∧ x ≠ "__name__"
  vs : ∀ (j : Nat) (x : Str) (kd : NameKind), sc.names[j]? = some (x, kd) → visK kd = true → Vis X.env.scope x
  gl : ∀ (j : Nat) (x : Str), sc.names[j]? = some (x, .globalImplicit) → Gl X x
  lc : ∀ (j : Nat) (x : Str) (kd : NameKind), sc.names[j]? = some (x, kd) → locK kd = true → Loc X.env.scope x ∧ (X.fn x = true ∨ X.env.scope.names.lookup x = some .local)
  ce : ∀ (j : Nat) (x : Str) (kd : NameKind), sc.names[j]? = some (x, kd) → kd = .cell ∨ kd = .free → X.env.scope.names.lookup x = some .cell ∨ X.env.scope.names.lookup x = some .free
  nd : X.N.Nodup
  fr : ∀ (i : Nat) (x : Str), B[i]? = some x → X.mg x = none
  room : Room k X.A
  calm : X.calm = true

section
variable {X : Cx} {N : List Str} {sc : Scope} {B : List Str} {k : Nat} {Γ : Ctx} {os : Os} {pos p p2 apos : Pos}

/-! ### ends -/
theorem end_flat {A : Type} {g : A → V} {os : Os} {σ : L2.St} {F F1 M R H : Hp} {Q : VK} {x : A} {o : OT os} (h : NormE os (flat A g) σ F R Q x o) (s : Sub F F1) (w : OwnOk os o σ F1 M R) (q : Good F1 M H) : Q (g x) H :=
  h (g x) F1 M emp M H s w (sep_emp_l M) q ⟨rfl, rfl⟩

/-! ### names, constants -/
theorem re_var (xo : XOk X N sc B k) (i j : Nat) {nm : Str} {kd : NameKind} {t : Ty} {x : t.A} (hj : sc.names[j]? = some (nm, kd) := by rfl) (hk : visK kd = true := by rfl) (hN : N[i]? = some nm := by rfl) (hΓ : Γ[i]? = some (some ⟨t, x⟩) := by rfl) :
    RE X Γ os (.Name nm pos) t (SM.ret x) := by
  intro σ F M R H o W Q tk c w g h
  obtain ⟨v, e, r⟩ := c.2 i t x hΓ
  obtain ⟨d1, d2, _⟩ := xo.db j nm kd hj
  exact ⟨_, pe_var (by rw [xo.nN]; exact hN) (xo.vs j nm kd hj hk) d1 d2, v, e, h v F M emp M H (.refl F) w (sep_emp_l M) g r⟩
theorem re_int {i : Int} {j : Nat} : RE X Γ os (.Constant (.int i) j pos) tInt (SM.ret i) := fun σ F M R H o W Q tk c w g h => ⟨_, pe_int, end_flat (g := V.int) h (.refl F) w g⟩
theorem re_bool {b : Bool} {j : Nat} : RE X Γ os (.Constant (.bool b) j pos) tBool (SM.ret b) := fun σ F M R H o W Q tk c w g h => ⟨_, pe_bl, end_flat (g := V.bl) h (.refl F) w g⟩
theorem re_none {j : Nat} : RE X Γ os (.Constant .none j pos) tNone (SM.ret ()) := fun σ F M R H o W Q tk c w g h => ⟨_, pe_non, end_flat (g := fun _ => V.non) h (.refl F) w g⟩
theorem re_str {z : Str} {j : Nat} (l : List Nat) (hz : z = sOf l := by rfl) : RE X Γ os (.Constant (.str z) j pos) tStr (SM.ret l) := fun σ F M R H o W Q tk c w g h => ⟨_, pe_str, by
  subst hz
  exact end_flat (g := fun l => V.str (sOf l)) h (.refl F) w g⟩
theorem re_chr {z : Str} {j : Nat} (a : Nat) (hz : z = sOf [a] := by rfl) : RE X Γ os (.Constant (.str z) j pos) tChr (SM.ret a) := fun σ F M R H o W Q tk c w g h => ⟨_, pe_str, by
  subst hz
  exact end_flat (g := fun c => V.str (sOf [c])) h (.refl F) w g⟩

/-! ### another type for the same value -/
def Cv (t u : Ty) (f : t.A → u.A) : Prop := ∀ {x v F m}, t.rep x v F m → u.rep (f x) v F m
def SM.map {O A B : Type} (f : A → B) (m : SM O A) : SM O B := SM.bind m fun x => SM.ret (f x)
theorem re_cv {e : Expr} {t u : Ty} {f : t.A → u.A} {m : SM (OT os) t.A} (hc : Cv t u f) (h : RE X Γ os e t m) : RE X Γ os e u (SM.map f m) := fun σ F M R H o W Q tk c w g q =>
  h σ F M R H o W Q tk c w g (q.bind.imp (fun x o1 z v F' M1 mm M' H' s a b c d => z v F' M1 mm M' H' s a b c (hc d)) fun _ _ z => z)
theorem cv_chr : Cv tChr tStr (fun c => [c]) := fun h => h

/-! ### operators by their rules -/
def VOp (r : R2) (ta tb tc : Ty) (f : ta.A → tb.A → Option tc.A) : Prop := ∀ {x y z v u F M H} {Q : VK}, f x y = some z → ta.rep x v F emp → tb.rep y u F emp → Good F M H →
  (∀ v' F' mm M' H', Sub F F' → Sep mm M M' → Good F' M' H' → tc.rep z v' F' mm → Q v' H') → r v u H Q
/-- the second step of a two-place thing -/
theorem two_ends {a b : Expr} {ta tb : Ty} {ma : SM (OT os) ta.A} {mb : SM (OT os) tb.A} {C : Type} {mk : ta.A → tb.A → SM (OT os) C} {R2 : V → V → Hp → Prop} {N : C → OT os → Prop} {σ : L2.St} {F M R H : Hp} {o : OT os} {W : WX}
    (ia : Imm ta) (ib : Imm tb) (ha : RE X Γ os a ta ma) (hb : RE X Γ os b tb mb) (tk : Takes X W) (c : CtxOk Γ σ F) (w : OwnOk os o σ F M R) (g : Good F M H)
    (h : Want ((SM.bind ma fun x => SM.bind mb fun y => mk x y) o) N (ExcE X os σ F R W))
    (fin : ∀ x y o2 v u F2 M2 H2, Want (mk x y o2) N (ExcE X os σ F R W) → Sub F F2 → OwnOk os o2 σ F2 M2 R → Good F2 M2 H2 → ta.rep x v F2 emp → tb.rep y u F2 emp → R2 v u H2) :
    best X a σ H fun v H1 => best X b σ H1 fun u H2 => R2 v u H2 := by
  refine ha σ F M R H o W _ tk c w g (h.bind.imp (fun x o1 h1 => ?_) fun _ _ z => z)
  intro v F1 M1 m1 M1' H1 s1 w1 p1 g1 r1
  have e := ia r1; subst e
  have e := p1.emp_l; subst e
  refine hb σ F1 _ R H1 o1 W _ tk (c.mono s1) w1 g1 (h1.bind.imp (fun y o2 h2 => ?_) fun _ _ z => z.mono s1)
  intro u F2 M2 m2 M2' H2 s2 w2 p2 g2 r2
  have e := ib r2; subst e
  have e := p2.emp_l; subst e
  exact fin x y o2 v u F2 _ H2 h2 (s1.trans s2) w2 g2 (ta.mono r1 s2) r2
theorem lift_fin {tc : Ty} {r : Option tc.A} {o2 : OT os} {σ : L2.St} {F R F2 M2 : Hp} {W : WX} {Q : VK} {k : Prop} (h : Want (SM.lift r o2) (NormE os tc σ F R Q) (ExcE X os σ F R W)) (s : Sub F F2) (w : OwnOk os o2 σ F2 M2 R) 
    (fin : ∀ z, r = some z → (∀ v' F' mm M' H', Sub F2 F' → Sep mm M2 M' → Good F' M' H' → tc.rep z v' F' mm → Q v' H') → k) : k := by
  unfold SM.lift at h
  cases e : r with
  | none => rw [e] at h; exact h.elim
  | some z =>
    rw [e] at h
    exact fin z e fun v' F' mm M' H' s' p' g' r' => h v' F' M2 mm M' H' (s.trans s') (w.mono s') p' g' r'
theorem re_op {op : Operator} {r : R2} {ta tb tc : Ty} {f : ta.A → tb.A → Option tc.A} {a b : Expr} {ma : SM (OT os) ta.A} {mb : SM (OT os) tb.A} (ho : OpR X (binaryOp op) r) (hv : VOp r ta tb tc f) (ia : Imm ta) (ib : Imm tb)
    (ha : RE X Γ os a ta ma) (hb : RE X Γ os b tb mb) : RE X Γ os (.BinOp a op b pos) tc (SM.bind ma fun x => SM.bind mb fun y => SM.lift (f x y)) := by
  intro σ F M R H o W Q tk c w g h
  refine ⟨_, pe_op ho (pe_best X a) (pe_best X b), ?_⟩
  exact two_ends ia ib ha hb tk c w g h fun x y o2 v u F2 M2 H2 h2 s2 w2 g2 r1 r2 => lift_fin h2 s2 w2 fun z e q => hv e r1 r2 g2 q
theorem re_cmp {op : CmpOp} {r : R2} {ta tb tc : Ty} {f : ta.A → tb.A → Option tc.A} {a b : Expr} {ma : SM (OT os) ta.A} {mb : SM (OT os) tb.A} (ho : OpR X (compareOp op) r) (hv : VOp r ta tb tc f) (ia : Imm ta) (ib : Imm tb)
    (ha : RE X Γ os a ta ma) (hb : RE X Γ os b tb mb) (hm : behindInMarks op b = false := by first | exact nobehind _ (by decide) (by decide) | rfl) : RE X Γ os (.Compare a [op] [b] pos) tc (SM.bind ma fun x => SM.bind mb fun y => SM.lift (f x y)) := by
  intro σ F M R H o W Q tk c w g h
  refine ⟨_, pe_cmpR ho (pe_best X a) (pe_best X b) hm, ?_⟩
  exact two_ends ia ib ha hb tk c w g h fun x y o2 v u F2 M2 H2 h2 s2 w2 g2 r1 r2 => lift_fin h2 s2 w2 fun z e q => hv e r1 r2 g2 q
theorem re_ix {r : R2} {ta tb tc : Ty} {f : ta.A → tb.A → Option tc.A} {a b : Expr} {ma : SM (OT os) ta.A} {mb : SM (OT os) tb.A} (ho : IxR X r) (hv : VOp r ta tb tc f) (ia : Imm ta) (ib : Imm tb)
    (ha : RE X Γ os a ta ma) (hb : RE X Γ os b tb mb) (hs : PlainIx b := by exact fun _ _ => rfl) : RE X Γ os (.Subscript a b pos) tc (SM.bind ma fun x => SM.bind mb fun y => SM.lift (f x y)) := by
  intro σ F M R H o W Q tk c w g h
  refine ⟨_, pe_ix ho (pe_best X a) (pe_best X b) hs, ?_⟩
  exact two_ends ia ib ha hb tk c w g h fun x y o2 v u F2 M2 H2 h2 s2 w2 g2 r1 r2 => lift_fin h2 s2 w2 fun z e q => hv e r1 r2 g2 q
def VUn (r : V → Hp → VK → Prop) (ta tc : Ty) (f : ta.A → Option tc.A) : Prop := ∀ {x z v F M H} {Q : VK}, f x = some z → ta.rep x v F emp → Good F M H →
  (∀ v' F' mm M' H', Sub F F' → Sep mm M M' → Good F' M' H' → tc.rep z v' F' mm → Q v' H') → r v H Q
theorem one_end {a : Expr} {ta : Ty} {ma : SM (OT os) ta.A} {C : Type} {mk : ta.A → SM (OT os) C} {R1 : V → Hp → Prop} {N : C → OT os → Prop} {σ : L2.St} {F M R H : Hp} {o : OT os} {W : WX}
    (ia : Imm ta) (ha : RE X Γ os a ta ma) (tk : Takes X W) (c : CtxOk Γ σ F) (w : OwnOk os o σ F M R) (g : Good F M H)
    (h : Want ((SM.bind ma fun x => mk x) o) N (ExcE X os σ F R W))
    (fin : ∀ x o2 v F2 M2 H2, Want (mk x o2) N (ExcE X os σ F R W) → Sub F F2 → OwnOk os o2 σ F2 M2 R → Good F2 M2 H2 → ta.rep x v F2 emp → R1 v H2) :
    best X a σ H R1 := by
  refine ha σ F M R H o W _ tk c w g (h.bind.imp (fun x o1 h1 => ?_) fun _ _ z => z)
  intro v F1 M1 m1 M1' H1 s1 w1 p1 g1 r1
  have e := ia r1; subst e
  have e := p1.emp_l; subst e
  exact fin x o1 v F1 _ H1 h1 s1 w1 g1 r1
theorem re_un {op : UnaryOp} {r : V → Hp → VK → Prop} {ta tc : Ty} {f : ta.A → Option tc.A} {a : Expr} {ma : SM (OT os) ta.A} (ho : UnR X (unaryOp op) r) (hv : VUn r ta tc f) (ia : Imm ta)
    (ha : RE X Γ os a ta ma) : RE X Γ os (.UnaryOp op a pos) tc (SM.bind ma fun x => SM.lift (f x)) := by
  intro σ F M R H o W Q tk c w g h
  refine ⟨_, pe_un ho (pe_best X a), ?_⟩
  exact one_end ia ha tk c w g h fun x o2 v F2 M2 H2 h2 s2 w2 g2 r1 => lift_fin h2 s2 w2 fun z e q => hv e r1 g2 q

/-- flat results -/
theorem fl {A : Type} {gA : A → V} {z : A} {F M H : Hp} {Q : VK} (q : ∀ v' F' mm M' H', Sub F F' → Sep mm M M' → Good F' M' H' → (flat A gA).rep z v' F' mm → Q v' H') (g : Good F M H) : Q (gA z) H :=
  q (gA z) F emp M H (.refl F) (sep_emp_l M) g ⟨rfl, rfl⟩
theorem imF {A : Type} {gA : A → V} : Imm (flat A gA) := fun a => a.1

/-! ### ints -/
theorem v_I0 {gg : Int → Int → Int} : VOp (rI0 fun i j => .int (gg i j)) tInt tInt tInt (fun i j => some (gg i j)) := by
  intro x y z v u F M H Q e ⟨_, rx⟩ ⟨_, ry⟩ g q
  cases e
  exact ⟨x, y, rx, ry, fl (gA := V.int) q g⟩
theorem v_IB {gg : Int → Int → Bool} : VOp (rI0 fun i j => .bl (gg i j)) tInt tInt tBool (fun i j => some (gg i j)) := by
  intro x y z v u F M H Q e ⟨_, rx⟩ ⟨_, ry⟩ g q
  cases e
  exact ⟨x, y, rx, ry, fl (gA := V.bl) q g⟩
theorem v_I {C : Int → Int → Prop} [∀ i j, Decidable (C i j)] {gg : Int → Int → Int} : VOp (rI C fun i j => .int (gg i j)) tInt tInt tInt (fun i j => if C i j then some (gg i j) else none) := by
  intro x y z v u F M H Q e ⟨_, rx⟩ ⟨_, ry⟩ g q
  have e' : (if C x y then some (gg x y) else none) = some z := e
  by_cases hc : C x y
  · rw [if_pos hc] at e'
    cases e'
    exact ⟨x, y, rx, ry, hc, fl (gA := V.int) q g⟩
  · rw [if_neg hc] at e'; cases e'
instance {i j : Int} : Decidable (CMul i j) := by unfold CMul; exact inferInstance
instance {i j : Int} : Decidable (CPow i j) := by unfold CPow; exact inferInstance
variable {a b e : Expr}
theorem re_add {ma mb : SM (OT os) Int} (ha : RE X Γ os a tInt ma) (hb : RE X Γ os b tInt mb) : RE X Γ os (.BinOp a .Add b pos) tInt (SM.bind ma fun x => SM.bind mb fun y => SM.lift (some (x + y))) := re_op op_add v_I0 imF imF ha hb
theorem re_sub {ma mb : SM (OT os) Int} (ha : RE X Γ os a tInt ma) (hb : RE X Γ os b tInt mb) : RE X Γ os (.BinOp a .Sub b pos) tInt (SM.bind ma fun x => SM.bind mb fun y => SM.lift (some (x - y))) := re_op op_sub v_I0 imF imF ha hb
theorem re_mul {ma mb : SM (OT os) Int} (ha : RE X Γ os a tInt ma) (hb : RE X Γ os b tInt mb) : RE X Γ os (.BinOp a .Mult b pos) tInt (SM.bind ma fun x => SM.bind mb fun y => SM.lift (if CMul x y then some (x * y) else none)) := re_op op_mul v_I imF imF ha hb
theorem re_mod {ma mb : SM (OT os) Int} (ha : RE X Γ os a tInt ma) (hb : RE X Γ os b tInt mb) : RE X Γ os (.BinOp a .Mod b pos) tInt (SM.bind ma fun x => SM.bind mb fun y => SM.lift (if 0 < y then some (x % y) else none)) := re_op op_mod v_I imF imF ha hb
theorem re_pow {ma mb : SM (OT os) Int} (ha : RE X Γ os a tInt ma) (hb : RE X Γ os b tInt mb) : RE X Γ os (.BinOp a .Pow b pos) tInt (SM.bind ma fun x => SM.bind mb fun y => SM.lift (if CPow x y then some (x ^ y.toNat) else none)) := re_op op_pow v_I imF imF ha hb
theorem re_lt {ma mb : SM (OT os) Int} (ha : RE X Γ os a tInt ma) (hb : RE X Γ os b tInt mb) : RE X Γ os (.Compare a [.Lt] [b] pos) tBool (SM.bind ma fun x => SM.bind mb fun y => SM.lift (some (decide (x < y)))) := re_cmp op_lt v_IB imF imF ha hb
theorem re_le {ma mb : SM (OT os) Int} (ha : RE X Γ os a tInt ma) (hb : RE X Γ os b tInt mb) : RE X Γ os (.Compare a [.LtE] [b] pos) tBool (SM.bind ma fun x => SM.bind mb fun y => SM.lift (some (decide (x ≤ y)))) := re_cmp op_le v_IB imF imF ha hb
theorem re_gt {ma mb : SM (OT os) Int} (ha : RE X Γ os a tInt ma) (hb : RE X Γ os b tInt mb) : RE X Γ os (.Compare a [.Gt] [b] pos) tBool (SM.bind ma fun x => SM.bind mb fun y => SM.lift (some (decide (y < x)))) := re_cmp op_gt v_IB imF imF ha hb
theorem re_ge {ma mb : SM (OT os) Int} (ha : RE X Γ os a tInt ma) (hb : RE X Γ os b tInt mb) : RE X Γ os (.Compare a [.GtE] [b] pos) tBool (SM.bind ma fun x => SM.bind mb fun y => SM.lift (some (decide (y ≤ x)))) := re_cmp op_ge v_IB imF imF ha hb
theorem re_neg {ma : SM (OT os) Int} (ha : RE X Γ os a tInt ma) : RE X Γ os (.UnaryOp .USub a pos) tInt (SM.bind ma fun x => SM.lift (some (-x))) := re_un un_neg (ta := tInt) (tc := tInt) (f := fun x => some (-x)) (fun {x z v F M H Q} e rx g q => by
  cases e
  exact ⟨x, rx.2, fl (gA := V.int) q g⟩) imF ha

/-! ### == of flat values -/
/-- flat types whose values compare by what they hold -/
structure Sca (A : Type) (gA : A → V) : Prop where
  sc : ∀ x y, scal (gA x) (gA y) = true
  inj : ∀ {x y}, gA x = gA y → x = y
theorem sca_int : Sca Int V.int := ⟨fun _ _ => rfl, fun h => V.int.inj h⟩
theorem sca_bool : Sca Bool V.bl := ⟨fun _ _ => rfl, fun h => V.bl.inj h⟩
theorem sOf_inj {l k : List Nat} (h : sOf l = sOf k) : l = k := by
  have e : l.toArray = k.toArray := Str.mk.inj h
  simpa using e
theorem sca_str : Sca (List Nat) fun l => V.str (sOf l) := ⟨fun _ _ => rfl, fun h => sOf_inj (V.str.inj h)⟩
theorem sca_chr : Sca Nat fun c => V.str (sOf [c]) := ⟨fun _ _ => rfl, fun h => (List.cons.inj (sOf_inj (V.str.inj h))).1⟩
theorem Sca.dec {A : Type} {gA : A → V} [DecidableEq A] (s : Sca A gA) (x y : A) : decide (gA x = gA y) = decide (x = y) := by
  by_cases h : x = y
  · subst h; simp
  · rw [decide_eq_false h, decide_eq_false fun q => h (s.inj q)]
theorem v_eq {A : Type} {gA : A → V} [DecidableEq A] (s : Sca A gA) : VOp rEq (flat A gA) (flat A gA) tBool (fun x y => some (decide (x = y))) := by
  intro x y z v u F M H Q e ⟨_, rx⟩ ⟨_, ry⟩ g q
  cases e
  subst rx ry
  refine ⟨s.sc x y, ?_⟩
  rw [s.dec]
  exact fl (gA := V.bl) q g
theorem v_ne {A : Type} {gA : A → V} [DecidableEq A] (s : Sca A gA) : VOp rNe (flat A gA) (flat A gA) tBool (fun x y => some (!decide (x = y))) := by
  intro x y z v u F M H Q e ⟨_, rx⟩ ⟨_, ry⟩ g q
  cases e
  subst rx ry
  refine ⟨s.sc x y, ?_⟩
  rw [s.dec]
  exact fl (gA := V.bl) q g
theorem re_eq {A : Type} {gA : A → V} [DecidableEq A] (s : Sca A gA) {ma mb : SM (OT os) A} (ha : RE X Γ os a (flat A gA) ma) (hb : RE X Γ os b (flat A gA) mb) :
    RE X Γ os (.Compare a [.Eq] [b] pos) tBool (SM.bind ma fun x => SM.bind mb fun y => SM.lift (some (decide (x = y)))) := re_cmp op_eq (v_eq s) imF imF ha hb
theorem re_ne {A : Type} {gA : A → V} [DecidableEq A] (s : Sca A gA) {ma mb : SM (OT os) A} (ha : RE X Γ os a (flat A gA) ma) (hb : RE X Γ os b (flat A gA) mb) :
    RE X Γ os (.Compare a [.NotEq] [b] pos) tBool (SM.bind ma fun x => SM.bind mb fun y => SM.lift (some (!decide (x = y)))) := re_cmp op_ne (v_ne s) imF imF ha hb

/-! ### tests, and, or, not, if -/
theorem rt_val {m : SM (OT os) Bool} (h : RE X Γ os e tBool m) (he : ∀ whole, isTrue e X.env whole = (do let v ← whole; standAt e.pos; holding [v] (truthy v)) := by intro _; rfl) : RT X Γ os e m := by
  intro σ F M R H o W Q tk c w g q
  refine ⟨_, pt_val (pe_best X e) he, h σ F M R H o W _ tk c w g (q.imp (fun x o1 z => ?_) fun _ _ z => z)⟩
  intro v F' M1 mm M' H' s1 w1 p1 g1 ⟨e1, r1⟩
  subst e1
  have e := p1.emp_l; subst e
  exact ⟨x, r1, z F' _ H' s1 w1 g1⟩
/-- a comparison as a test -/
theorem rt_cmp {op : CmpOp} {r : R2} {ta tb : Ty} {f : ta.A → tb.A → Option Bool} {ma : SM (OT os) ta.A} {mb : SM (OT os) tb.A} (ho : OpR X (compareOp op) r) (hv : VOp r ta tb tBool f) (ia : Imm ta) (ib : Imm tb)
    (ha : RE X Γ os a ta ma) (hb : RE X Γ os b tb mb) (hm : behindInMarks op b = false := by first | exact nobehind _ (by decide) (by decide) | rfl) : RT X Γ os (.Compare a [op] [b] pos) (SM.bind ma fun x => SM.bind mb fun y => SM.lift (f x y)) := by
  intro σ F M R H o W Q tk c w g h
  refine ⟨_, pt_cmpR ho (pe_best X a) (pe_best X b) hm, ?_⟩
  refine two_ends ia ib ha hb tk c w g h fun x y o2 v u F2 M2 H2 h2 s2 w2 g2 r1 r2 => ?_
  unfold SM.lift at h2
  cases e : f x y with
  | none => rw [e] at h2; exact h2.elim
  | some z =>
    rw [e] at h2
    refine hv e r1 r2 g2 fun v' F' mm M' H' s' p' g' ⟨e1, r'⟩ => ?_
    subst e1
    have e := p'.emp_l; subst e
    exact ⟨z, r', h2 F' _ H' (s2.trans s') (w2.mono s') g'⟩
theorem rt_not {m : SM (OT os) Bool} (h : RT X Γ os a m) : RT X Γ os (.UnaryOp .Not a pos) (SM.bind m fun b => SM.ret (!b)) := by
  intro σ F M R H o W Q tk c w g q
  exact ⟨_, pt_not (pt_best X a), h σ F M R H o W _ tk c w g (q.bind.imp (fun x o1 z => z) fun _ _ z => z)⟩
def bestW (X : Cx) (e : Expr) : TT := fun σ H Q => ∃ t, PW X e t ∧ t σ H Q
theorem pw_best (X : Cx) (e : Expr) : PW X e (bestW X e) := ⟨fun wh pins s σ H Q I ⟨_, p, h⟩ => p.run wh pins s σ H Q I h⟩
def RW (X : Cx) (Γ : Ctx) (os : Os) (e : Expr) (m : SM (OT os) Bool) : Prop :=
  ∀ (σ : L2.St) (F M R H : Hp) (o : OT os) (W : WX) (Q : Bool → Hp → Prop), Takes X W → CtxOk Γ σ F → OwnOk os o σ F M R → Good F M H →
    Want (m o) (NormT os σ F R Q) (ExcE X os σ F R W) → bestW X e σ H Q
theorem RW.rt {m : SM (OT os) Bool} (h : RW X Γ os e m) : RT X Γ os e m := fun σ F M R H o W Q tk c w g q => ⟨_, (pw_best X e).pt, h σ F M R H o W Q tk c w g q⟩
def SM.andB {O : Type} (m n : SM O Bool) : SM O Bool := SM.bind m fun b => if b = true then n else SM.ret false
def SM.orB {O : Type} (m n : SM O Bool) : SM O Bool := SM.bind m fun b => if b = true then SM.ret true else n
variable {rest : List Expr}
theorem rw_and1 {m : SM (OT os) Bool} (h : RT X Γ os a m) : RW X Γ os (.BoolOp .And [a] pos) m := fun σ F M R H o W Q tk c w g q => ⟨_, pw_and1 (pt_best X a), h σ F M R H o W Q tk c w g q⟩
theorem rw_or1 {m : SM (OT os) Bool} (h : RT X Γ os a m) : RW X Γ os (.BoolOp .Or [a] pos) m := fun σ F M R H o W Q tk c w g q => ⟨_, pw_or1 (pt_best X a), h σ F M R H o W Q tk c w g q⟩
theorem rw_and {m n : SM (OT os) Bool} (h : RT X Γ os a m) (hb : RW X Γ os (.BoolOp .And (b :: rest) pos) n) : RW X Γ os (.BoolOp .And (a :: b :: rest) pos) (SM.andB m n) := by
  intro σ F M R H o W Q tk c w g q
  refine ⟨_, pw_and (pt_best X a) (pw_best X _), h σ F M R H o W _ tk c w g (q.bind.imp (fun x o1 z => ?_) fun _ _ z => z)⟩
  intro F' M' H' s w' g'
  cases x with
  | true => exact hb σ F' M' R H' o1 W Q tk (c.mono s) w' g' (z.imp (fun x o2 z F2 M2 H2 s2 => z F2 M2 H2 (s.trans s2)) fun _ _ z => z.mono s)
  | false => exact z F' M' H' s w' g'
theorem rw_or {m n : SM (OT os) Bool} (h : RT X Γ os a m) (hb : RW X Γ os (.BoolOp .Or (b :: rest) pos) n) : RW X Γ os (.BoolOp .Or (a :: b :: rest) pos) (SM.orB m n) := by
  intro σ F M R H o W Q tk c w g q
  refine ⟨_, pw_or (pt_best X a) (pw_best X _), h σ F M R H o W _ tk c w g (q.bind.imp (fun x o1 z => ?_) fun _ _ z => z)⟩
  intro F' M' H' s w' g'
  cases x with
  | false => exact hb σ F' M' R H' o1 W Q tk (c.mono s) w' g' (z.imp (fun x o2 z F2 M2 H2 s2 => z F2 M2 H2 (s.trans s2)) fun _ _ z => z.mono s)
  | true => exact z F' M' H' s w' g'
/-- .. as values -/
theorem re_one {op : BoolOp} {t : Ty} {m : SM (OT os) t.A} (h : RE X Γ os a t m) : RE X Γ os (.BoolOp op [a] pos) t m := fun σ F M R H o W Q tk c w g q => ⟨_, pe_one (pe_best X a), h σ F M R H o W Q tk c w g q⟩
theorem NormE.mono {t : Ty} {σ : L2.St} {F F' R : Hp} {Q : VK} {x : t.A} {o : OT os} (h : NormE os t σ F R Q x o) (s : Sub F F') : NormE os t σ F' R Q x o := fun v F2 M1 mm M2 H2 s2 => h v F2 M1 mm M2 H2 (s.trans s2)
theorem re_and {m n : SM (OT os) Bool} (h : RE X Γ os a tBool m) (hb : RE X Γ os (.BoolOp .And (b :: rest) pos) tBool n) : RE X Γ os (.BoolOp .And (a :: b :: rest) pos) tBool (SM.andB m n) := by
  intro σ F M R H o W Q tk c w g q
  refine ⟨_, L2.pe_and (pe_best X a) (pe_best X _), h σ F M R H o W _ tk c w g (q.bind.imp (fun x o1 z => ?_) fun _ _ z => z)⟩
  intro v F' M1 mm M' H' s w' p' g' ⟨e1, r1⟩
  subst e1
  have e := p'.emp_l; subst e
  refine ⟨x, r1, ?_⟩
  cases x with
  | true => exact hb σ F' _ R H' o1 W Q tk (c.mono s) w' g' (z.imp (fun x o2 z => z.mono s) fun _ _ z => z.mono s)
  | false => exact end_flat (g := V.bl) (show NormE os tBool σ F R Q false o1 from z) s w' g'
theorem re_or {m n : SM (OT os) Bool} (h : RE X Γ os a tBool m) (hb : RE X Γ os (.BoolOp .Or (b :: rest) pos) tBool n) : RE X Γ os (.BoolOp .Or (a :: b :: rest) pos) tBool (SM.orB m n) := by
  intro σ F M R H o W Q tk c w g q
  refine ⟨_, L2.pe_or (pe_best X a) (pe_best X _), h σ F M R H o W _ tk c w g (q.bind.imp (fun x o1 z => ?_) fun _ _ z => z)⟩
  intro v F' M1 mm M' H' s w' p' g' ⟨e1, r1⟩
  subst e1
  have e := p'.emp_l; subst e
  refine ⟨x, r1, ?_⟩
  cases x with
  | false => exact hb σ F' _ R H' o1 W Q tk (c.mono s) w' g' (z.imp (fun x o2 z => z.mono s) fun _ _ z => z.mono s)
  | true => exact end_flat (g := V.bl) (show NormE os tBool σ F R Q true o1 from z) s w' g'
theorem re_not {m : SM (OT os) Bool} (h : RE X Γ os a tBool m) : RE X Γ os (.UnaryOp .Not a pos) tBool (SM.bind m fun b => SM.ret (!b)) := by
  intro σ F M R H o W Q tk c w g q
  refine ⟨_, L2.pe_not (pe_best X a), h σ F M R H o W _ tk c w g (q.bind.imp (fun x o1 z => ?_) fun _ _ z => z)⟩
  intro v F' M1 mm M' H' s w' p' g' ⟨e1, r1⟩
  subst e1
  have e := p'.emp_l; subst e
  exact ⟨x, r1, end_flat (g := V.bl) (show NormE os tBool σ F R Q (!x) o1 from z) s w' g'⟩
def SM.ite {O A : Type} (m : SM O Bool) (n k : SM O A) : SM O A := SM.bind m fun b => if b = true then n else k
theorem re_if {c : Expr} {t : Ty} {mc : SM (OT os) Bool} {ma mb : SM (OT os) t.A} (hc : RT X Γ os c mc) (ha : RE X Γ os a t ma) (hb : RE X Γ os b t mb) : RE X Γ os (.IfExp c a b pos) t (SM.ite mc ma mb) := by
  intro σ F M R H o W Q tk cc w g q
  refine ⟨_, pe_ifExp (pt_best X c) (pe_best X a) (pe_best X b), hc σ F M R H o W _ tk cc w g (q.bind.imp (fun x o1 z => ?_) fun _ _ z => z)⟩
  intro F' M' H' s w' g'
  cases x with
  | true => exact ha σ F' M' R H' o1 W Q tk (cc.mono s) w' g' (z.imp (fun x o2 z => z.mono s) fun _ _ z => z.mono s)
  | false => exact hb σ F' M' R H' o1 W Q tk (cc.mono s) w' g' (z.imp (fun x o2 z => z.mono s) fun _ _ z => z.mono s)

/-! ### arguments -/
theorem ra_nil : RA X Γ os [] [] (SM.ret ()) := fun σ F M R H o W Q tk c w g q => ⟨_, pa_nil, q [] F M H (.refl F) w g rfl⟩
theorem ra_cons {t : Ty} {ts : List Ty} {es : List Expr} {m : SM (OT os) t.A} {n : SM (OT os) (AT ts)} (it : Imm t) (h : RE X Γ os e t m) (hr : RA X Γ os es ts n)
    (he : starEach (e :: es) X.env = (false, eval e X.env) :: starEach es X.env := by rfl) : RA X Γ os (e :: es) (t :: ts) (SM.bind m fun x => SM.bind n fun y => SM.ret (x, y)) := by
  intro σ F M R H o W Q tk c w g q
  refine ⟨_, pa_cons (pe_best X e) (pa_best X es) he, h σ F M R H o W _ tk c w g (q.bind.imp (fun x o1 z => ?_) fun _ _ z => z)⟩
  intro v F' M1 mm M' H' s w' p' g' r
  have e := it r; subst e
  have e := p'.emp_l; subst e
  refine hr σ F' _ R H' o1 W _ tk (c.mono s) w' g' (z.bind.imp (fun y o2 z => ?_) fun _ _ z => z.mono s)
  intro us F2 M2 H2 s2 w2 g2 r2
  exact z (v :: us) F2 M2 H2 (s.trans s2) w2 g2 ⟨v, us, rfl, t.mono r s2, r2⟩

/-! ### built-ins by name -/
def VCall (r : List V → Hp → VK → Prop) (ts : List Ty) (tc : Ty) (f : AT ts → Option tc.A) : Prop := ∀ {x z vs F M H} {Q : VK}, f x = some z → ArgsOk ts x vs F → Good F M H →
  (∀ v' F' mm M' H', Sub F F' → Sep mm M M' → Good F' M' H' → tc.rep z v' F' mm → Q v' H') → r vs H Q
theorem args_end {es : List Expr} {ts : List Ty} {m : SM (OT os) (AT ts)} {C : Type} {mk : AT ts → SM (OT os) C} {R1 : List V → Hp → Prop} {N : C → OT os → Prop} {σ : L2.St} {F M R H : Hp} {o : OT os} {W : WX}
    (ha : RA X Γ os es ts m) (tk : Takes X W) (c : CtxOk Γ σ F) (w : OwnOk os o σ F M R) (g : Good F M H)
    (h : Want ((SM.bind m fun x => mk x) o) N (ExcE X os σ F R W))
    (fin : ∀ x o2 vs F2 M2 H2, Want (mk x o2) N (ExcE X os σ F R W) → Sub F F2 → OwnOk os o2 σ F2 M2 R → Good F2 M2 H2 → ArgsOk ts x vs F2 → R1 vs H2) :
    bestA X es σ H R1 :=
  ha σ F M R H o W _ tk c w g (h.bind.imp (fun x o1 h1 vs F' M' H' s w' g' r => fin x o1 vs F' M' H' h1 s w' g' r) fun _ _ z => z)
theorem re_callB {nm : Str} {id : String} {r : List V → Hp → VK → Prop} {ts : List Ty} {tc : Ty} {f : AT ts → Option tc.A} {es : List Expr} {m : SM (OT os) (AT ts)} (hc : CallR X (.builtin id) r) (hv : VCall r ts tc f)
    (hg : Gl X nm) (hm : X.mg nm = none) (hb : bootBuiltins nm = some (.builtin id)) (ha : RA X Γ os (e :: es) ts m) (hn : nm ≠ "__name__" := by decide) (hdb : (nm == ("__debug__" : Str)) = false := by decide)
    (he : starEach (e :: es) X.env = (false, eval e X.env) :: starEach es X.env := by rfl) (hpl : (backTo pos (starEach es X.env)).any (·.1) = false := by rfl) :
    RE X Γ os (.Call (.Name nm p) (e :: es) [] pos) tc (SM.bind m fun x => SM.lift (f x)) := by
  intro σ F M R H o W Q tk c w g h
  refine ⟨_, pe_callB hc hg hm hb (pa_best X (e :: es)) hn hdb he hpl, ?_⟩
  exact args_end ha tk c w g h fun x o2 vs F2 M2 H2 h2 s2 w2 g2 r2 => lift_fin h2 s2 w2 fun z ez q => hv ez r2 g2 q
theorem re_callTy {nm : Str} {T : String} {r : List V → Hp → VK → Prop} {ts : List Ty} {tc : Ty} {f : AT ts → Option tc.A} {es : List Expr} {m : SM (OT os) (AT ts)} (hc : CallR X (.type T) r) (hv : VCall r ts tc f)
    (hg : Gl X nm) (hm : X.mg nm = none) (hb : bootBuiltins nm = some (.type T)) (ha : RA X Γ os (e :: es) ts m) (hn : nm ≠ "__name__" := by decide) (hdb : (nm == ("__debug__" : Str)) = false := by decide)
    (he : starEach (e :: es) X.env = (false, eval e X.env) :: starEach es X.env := by rfl) (hpl : (backTo pos (starEach es X.env)).any (·.1) = false := by rfl) :
    RE X Γ os (.Call (.Name nm p) (e :: es) [] pos) tc (SM.bind m fun x => SM.lift (f x)) := by
  intro σ F M R H o W Q tk c w g h
  refine ⟨_, pe_callTy hc hg hm hb (pa_best X (e :: es)) hn hdb he hpl, ?_⟩
  exact args_end ha tk c w g h fun x o2 vs F2 M2 H2 h2 s2 w2 g2 r2 => lift_fin h2 s2 w2 fun z ez q => hv ez r2 g2 q
/-- a method of a built-in type, with arguments -/
theorem re_bm {name : Str} {T id : String} {r : V → List V → Hp → VK → Prop} {to : Ty} {ts : List Ty} {tc : Ty} {f : to.A → AT ts → Option tc.A} {ob : Expr} {es : List Expr} {mo : SM (OT os) to.A} {m : SM (OT os) (AT ts)}
    (pa : PlainAttrs T) (slot : Slot T name id) (hty : typeOf (.builtin id) = pure (.type "method_descriptor")) (hm : MtR X id r)
    (ht : ∀ {x v F M H}, to.rep x v F emp → Good F M H → tyV X.K T v H)
    (hv : ∀ {x y z v vs F M H} {Q : VK}, f x y = some z → to.rep x v F emp → ArgsOk ts y vs F → Good F M H → (∀ v' F' mm M' H', Sub F F' → Sep mm M M' → Good F' M' H' → tc.rep z v' F' mm → Q v' H') → r v vs H Q)
    (io : Imm to) (ho : RE X Γ os ob to mo) (ha : RA X Γ os (e :: es) ts m)
    (hbase : attributeBase ob name X.env (eval ob X.env) = eval ob X.env := by rfl) (hline : (apos.endLine == pos.line) = true := by rfl)
    (he : starEach (e :: es) X.env = (false, eval e X.env) :: starEach es X.env := by rfl) (hpl : (backTo pos (starEach es X.env)).any (·.1) = false := by rfl)
    (hfew : ((backTo pos (starEach (e :: es) X.env)).all (fun x => !x.1) && (backToKw pos (keywordEach [] X.env)).all (fun x => x.1.isSome)
      && decide ((e :: es).length + ([] : List Keyword).length + (if ([] : List Keyword).isEmpty then 0 else 1) < 30)) = true := by rfl) :
    RE X Γ os (.Call (.Attribute ob name apos) (e :: es) [] pos) tc (SM.bind mo fun x => SM.bind m fun y => SM.lift (f x y)) := by
  intro σ F M R H o W Q tk c w g h
  refine ⟨_, pe_bm pa slot hty hm (pe_best X ob) (pa_best X (e :: es)) hbase hfew hline he hpl, ?_⟩
  refine one_end io ho tk c w g h fun x o2 v F2 M2 H2 h2 s2 w2 g2 r1 => ⟨ht r1 g2, ?_⟩
  refine args_end ha tk (c.mono s2) w2 g2 (h2.imp (fun _ _ z => NormE.mono z s2) fun _ _ z => z.mono s2) fun y o3 vs F3 M3 H3 h3 s3 w3 g3 r3 => lift_fin h3 s3 w3 fun z ez q => hv ez (to.mono r1 s3) r3 g3 q
end
end Mi

namespace Mi
open PySem PySem.Spec PyProof.Rows L2

/-! ### statements -/
/-- a def: slots that no statement stores, what its caller owns of its arguments, what it hands back -/
structure FX where
  kp : List Nat
  ps : Os
  tr : Ty
/-- the loop around: what a turn changes -/
structure LC where
  B : Type
  G : B → Ctx
  os : Os
def LC.none : LC := ⟨Empty, fun _ => [], []⟩
inductive Out (N L T P : Type) where
  | nxt (n : N)
  | brk (l : L)
  | cnt (l : L)
  | ret (x : T) (p : P)
  | exc (e : Exn) (p : P)
def Keep (kp : List Nat) (σ σ' : L2.St) : Prop := σ'.length = σ.length ∧ ∀ i ∈ kp, σ'[i]? = σ[i]?
theorem Keep.refl {kp : List Nat} {σ : L2.St} : Keep kp σ σ := ⟨rfl, fun _ _ => rfl⟩
theorem Keep.trans {kp : List Nat} {a b c : L2.St} (h : Keep kp a b) (k : Keep kp b c) : Keep kp a c := ⟨k.1.trans h.1, fun i hi => (k.2 i hi).trans (h.2 i hi)⟩
/-- some of what is owned -/
inductive OSub : Os → Os → Type 1
  | nil : OSub [] []
  | keep {p : Nat × Ty} {a b : Os} : OSub a b → OSub (p :: a) (p :: b)
  | skip {p : Nat × Ty} {a b : Os} : OSub a b → OSub (p :: a) b
def OSub.map : {a b : Os} → OSub a b → OT a → OT b
  | _, _, .nil, o => o
  | _, _, .keep h, o => (o.1, h.map o.2)
  | _, _, .skip h, o => h.map o.2
theorem OSub.own : ∀ {a b : Os} (h : OSub a b) {o : OT a} {σ : L2.St} {F M R : Hp}, OwnOk a o σ F M R → ∃ M0, Sub M0 M ∧ OwnOk b (h.map o) σ F M0 R
  | _, _, .nil, _, _, _, M, _, h => ⟨M, .refl _, h⟩
  | _, _, .keep k, o, σ, F, M, R, ⟨v, m, M', e, q, s, w⟩ => by
    obtain ⟨M0, s0, w0⟩ := k.own w
    refine ⟨uni m M0, fun a u h => ?_, v, m, M0, e, q, ⟨fun p => ?_, rfl⟩, w0⟩
    · cases z : m a with
      | some y => rw [uni_l z] at h; exact s.l a u (by rw [z]; exact h)
      | none => rw [uni_r z] at h; exact s.r a u (s0 a u h)
    · rcases s.dis p with z | z
      · exact .inl z
      · exact .inr (s0.none z)
  | _, _, .skip k, o, σ, F, M, R, ⟨v, m, M', e, q, s, w⟩ => by
    obtain ⟨M0, s0, w0⟩ := k.own w
    exact ⟨M0, s0.trans s.r, w0⟩
def OSub.all : (a : Os) → OSub a a
  | [] => .nil
  | _ :: r => .keep (OSub.all r)

section
variable {X : Cx} {G : FX} {L : LC} {β : Type} {Γn : β → Ctx} {osn : Os}
abbrev OutT (G : FX) (L : LC) (β : Type) (osn : Os) : Type := Option (Out (β × OT osn) (L.B × OT L.os) G.tr.A (OT G.ps))
def NxtS (G : FX) (Γn : β → Ctx) (osn : Os) (σ : L2.St) (F R : Hp) (K : L2.St → Hp → Prop) (n : β × OT osn) : Prop :=
  ∀ σ' F' M' H', Sub F F' → Keep G.kp σ σ' → CtxOk (Γn n.1) σ' F' → OwnOk osn n.2 σ' F' M' R → Good F' M' H' → K σ' H'
def RetS (G : FX) (σ : L2.St) (F R : Hp) (K : VK) (x : G.tr.A) (p : OT G.ps) : Prop :=
  ∀ v σ' F' M1 mm M' H', Sub F F' → Keep G.kp σ σ' → OwnOk G.ps p σ' F' M1 R → Sep mm M1 M' → Good F' M' H' → G.tr.rep x v F' mm → K v H'
def ExcS (X : Cx) (G : FX) (σ : L2.St) (F R : Hp) (W : WX) (e : Exn) (p : OT G.ps) : Prop :=
  ∀ cls d σ' F' M' H', Sub F F' → Keep G.kp σ σ' → OwnOk G.ps p σ' F' M' R → Good F' M' H' → ExnOk X.mg e cls d F' → W cls d σ' H'
def WantS (X : Cx) (G : FX) (L : LC) (Γn : β → Ctx) (osn : Os) (σ : L2.St) (F R : Hp) (W : WX) (D : Ends) (r : OutT G L β osn) : Prop := match r with
  | none => False
  | some (.nxt n) => NxtS G Γn osn σ F R D.nx n
  | some (.brk l) => NxtS G L.G L.os σ F R D.bk l
  | some (.cnt l) => NxtS G L.G L.os σ F R D.ct l
  | some (.ret x p) => RetS G σ F R D.rt x p
  | some (.exc e p) => ExcS X G σ F R W e p
theorem NxtS.mono {σ σ1 : L2.St} {F F1 R : Hp} {K : L2.St → Hp → Prop} {n : β × OT osn} (h : NxtS G Γn osn σ F R K n) (s : Sub F F1) (k : Keep G.kp σ σ1) : NxtS G Γn osn σ1 F1 R K n :=
  fun σ' F' M' H' s' k' => h σ' F' M' H' (s.trans s') (k.trans k')
theorem WantS.mono {σ σ1 : L2.St} {F F1 R : Hp} {W : WX} {D : Ends} {r : OutT G L β osn} (h : WantS X G L Γn osn σ F R W D r) (s : Sub F F1) (k : Keep G.kp σ σ1) : WantS X G L Γn osn σ1 F1 R W D r := by
  cases r with
  | none => exact h
  | some r =>
    cases r with
    | nxt n => exact NxtS.mono h s k
    | brk n => exact NxtS.mono h s k
    | cnt n => exact NxtS.mono h s k
    | ret x p => exact fun v σ' F' M1 mm M' H' s' k' => h v σ' F' M1 mm M' H' (s.trans s') (k.trans k')
    | exc e p => exact fun cls d σ' F' M' H' s' k' => h cls d σ' F' M' H' (s.trans s') (k.trans k')
def RB (X : Cx) (G : FX) (L : LC) (Γ : Ctx) (os : Os) (sts : List Stmt) {β : Type} (Γn : β → Ctx) (osn : Os) (m : OT os → OutT G L β osn) : Prop :=
  ∀ (σ : L2.St) (F M R H : Hp) (o : OT os) (W : WX) (D : Ends), Takes X W → CtxOk Γ σ F → OwnOk os o σ F M R → Good F M H → WantS X G L Γn osn σ F R W D (m o) → bestB X sts D σ H
def RS (X : Cx) (G : FX) (L : LC) (Γ : Ctx) (os : Os) (st : Stmt) {β : Type} (Γn : β → Ctx) (osn : Os) (m : OT os → OutT G L β osn) : Prop :=
  ∀ (σ : L2.St) (F M R H : Hp) (o : OT os) (W : WX) (D : Ends), Takes X W → CtxOk Γ σ F → OwnOk os o σ F M R → Good F M H → WantS X G L Γn osn σ F R W D (m o) → bestS X st D σ H

variable {Γ : Ctx} {os : Os} {st : Stmt} {rest : List Stmt} {pos p p2 : Pos} {e : Expr} {t : Ty} {N : List Str} {sc : Scope} {B : List Str} {k : Nat}
theorem rb_nil (b : β) (hle : CtxLe (Γn b) Γ) (h : OSub os osn) : RB X G L Γ os [] Γn osn (fun o => some (.nxt (b, h.map o))) := by
  intro σ F M R H o W D tk c w g q
  obtain ⟨M0, s0, w0⟩ := h.own w
  exact ⟨_, pss_nil, q σ F M0 H (.refl F) .refl (c.le hle) w0 (g.less s0)⟩
def Out.bind {β γ : Type} {G : FX} {L : LC} {om on : Os} (r : OutT G L β om) (k : β → OT om → OutT G L γ on) : OutT G L γ on := match r with
  | none => none
  | some (.nxt n) => k n.1 n.2
  | some (.brk l) => some (.brk l)
  | some (.cnt l) => some (.cnt l)
  | some (.ret x p) => some (.ret x p)
  | some (.exc e p) => some (.exc e p)
theorem rb_cons {γ : Type} {Γm : γ → Ctx} {om : Os} {m1 : OT os → OutT G L γ om} {m2 : γ → OT om → OutT G L β osn} (h1 : RS X G L Γ os st Γm om m1) (h2 : ∀ b, RB X G L (Γm b) om rest Γn osn (m2 b)) :
    RB X G L Γ os (st :: rest) Γn osn (fun o => Out.bind (m1 o) m2) := by
  intro σ F M R H o W D tk c w g q
  refine ⟨_, pss_cons (ps_best X st) (pss_best X rest), ?_⟩
  refine h1 σ F M R H o W { D with nx := bestB X rest D } tk c w g ?_
  have q' : WantS X G L Γn osn σ F R W D (Out.bind (m1 o) m2) := q
  cases z : m1 o with
  | none => rw [z] at q'; exact q'
  | some r =>
    rw [z] at q'
    cases r with
    | nxt n => exact fun σ' F' M' H' s k' c' w' g' => h2 n.1 σ' F' M' R H' n.2 W D tk c' w' g' (q'.mono s k')
    | brk n => exact q'
    | cnt n => exact q'
    | ret x p => exact q'
    | exc e p => exact q'
theorem rb_one {m : OT os → OutT G L β osn} (h : RS X G L Γ os st Γn osn m) : RB X G L Γ os [st] Γn osn m := fun σ F M R H o W D tk c w g q => ⟨_, pss_one (ps_best X st), h σ F M R H o W D tk c w g q⟩
/-- what is expressed, then what follows -/
def bindX {A : Type} {G : FX} {L : LC} {β : Type} {os osn : Os} (h : OSub os G.ps) (r : Option (Except Exn A × OT os)) (k : A → OT os → OutT G L β osn) : OutT G L β osn := match r with
  | none => none
  | some (.ok x, o) => k x o
  | some (.error e, o) => some (.exc e (h.map o))
theorem WantS.bindX {A : Type} {h : OSub os G.ps} {r : Option (Except Exn A × OT os)} {kk : A → OT os → OutT G L β osn} {σ : L2.St} {F R : Hp} {W : WX} {D : Ends} (q : WantS X G L Γn osn σ F R W D (bindX h r kk)) :
    Want r (fun x o => WantS X G L Γn osn σ F R W D (kk x o)) (ExcE X os σ F R W) := by
  cases r with
  | none => exact q
  | some r =>
    obtain ⟨r, o⟩ := r
    cases r with
    | ok x => exact q
    | error e =>
      intro cls d F' M' H' s w g x
      obtain ⟨M0, s0, w0⟩ := h.own w
      exact q cls d σ F' M0 H' s .refl w0 (g.less s0) x
def noSlot (i : Nat) (os : Os) : Bool := os.all fun p => p.1 != i
theorem noSlot_ne {i : Nat} {os : Os} (h : noSlot i os = true) : ∀ p ∈ os, p.1 ≠ i := fun p hp => by
  have z := List.all_eq_true.mp h p hp
  simpa using z
theorem keep_set {kp : List Nat} {i : Nat} {σ : L2.St} {w : Option V} (h : kp.all (· != i) = true) : Keep kp σ (σ.set i w) := ⟨by simp, fun j hj => by
  have z := List.all_eq_true.mp h j hj
  have z' : j ≠ i := by simpa using z
  rw [List.getElem?_set_ne (Ne.symm z')]⟩
theorem OwnOk.set {o : OT os} {σ : L2.St} {F M R : Hp} {i : Nat} {v : Option V} (w : OwnOk os o σ F M R) (h : noSlot i os = true) : OwnOk os o (σ.set i v) F M R :=
  w.slots fun p hp => List.getElem?_set_ne (Ne.symm (noSlot_ne h p hp))
/-- x = e; .. -/
theorem rb_asg (xo : XOk X N sc B k) (hS : OSub os G.ps) (i j : Nat) {nm : Str} {kd : NameKind} {me : SM (OT os) t.A} {kk : t.A → OT os → OutT G L β osn} (it : Imm t) (he : RE X Γ os e t me)
    (hk : ∀ x, RB X G L (Γ.set i (some ⟨t, x⟩)) os rest Γn osn (kk x))
    (hj : sc.names[j]? = some (nm, kd) := by rfl) (hkd : locK kd = true := by rfl) (hN : N[i]? = some nm := by rfl) (hf : noSlot i os = true := by rfl) (hkp : G.kp.all (· != i) = true := by rfl)
    (hs : swapsWith e (some (.Name nm p)) pos.line X.env = pure false := by rfl) : RB X G L Γ os (.Assign [.Name nm p] e pos :: rest) Γn osn (fun o => bindX hS (me o) kk) := by
  intro σ F M R H o W D tk c w g q
  obtain ⟨l1, l2⟩ := xo.lc j nm kd hj hkd
  refine ⟨_, pss_cons (ps_set (i := i) xo.nd (by rw [xo.nN]; exact hN) l1 (pe_best X e) hs l2) (pss_best X rest), ?_⟩
  refine he σ F M R H o W _ tk c w g (q.bindX.imp (fun x o1 z => ?_) fun _ _ z => z)
  intro v F' M1 mm M' H' s' w' p' g' r'
  have e := it r'; subst e
  have e := p'.emp_l; subst e
  exact hk x (σ.set i (some v)) F' _ R H' o1 W D tk ((c.mono s').set r') (w'.set hf) g' (z.mono s' (keep_set hkp))
/-- x = e; .., e a new thing that we own -/
theorem rb_asgO (xo : XOk X N sc B k) (hS : OSub os G.ps) (i j : Nat) {nm : Str} {kd : NameKind} {me : SM (OT os) t.A} {kk : OT ((i, t) :: os) → OutT G L β osn} (he : RE X Γ os e t me)
    (hk : RB X G L (Γ.set i none) ((i, t) :: os) rest Γn osn kk)
    (hlt : Nat.ble (i + 1) Γ.length = true := by rfl)
    (hj : sc.names[j]? = some (nm, kd) := by rfl) (hkd : locK kd = true := by rfl) (hN : N[i]? = some nm := by rfl) (hf : noSlot i os = true := by rfl) (hkp : G.kp.all (· != i) = true := by rfl)
    (hs : swapsWith e (some (.Name nm p)) pos.line X.env = pure false := by rfl) : RB X G L Γ os (.Assign [.Name nm p] e pos :: rest) Γn osn (fun o => bindX hS (me o) fun x o => kk (x, o)) := by
  intro σ F M R H o W D tk c w g q
  obtain ⟨l1, l2⟩ := xo.lc j nm kd hj hkd
  refine ⟨_, pss_cons (ps_set (i := i) xo.nd (by rw [xo.nN]; exact hN) l1 (pe_best X e) hs l2) (pss_best X rest), ?_⟩
  refine he σ F M R H o W _ tk c w g (q.bindX.imp (fun x o1 z => ?_) fun _ _ z => z)
  intro v F' M1 mm M' H' s' w' p' g' r'
  exact hk (σ.set i (some v)) F' M' R H' (x, o1) W D tk ((c.mono s').out) ⟨v, mm, M1, List.getElem?_set_self (by rw [← c.1]; exact Nat.le_of_ble_eq_true hlt), r', p', w'.set hf⟩ g' (z.mono s' (keep_set hkp))
/-- an expression whose value is dropped -/
theorem rb_expr (hS : OSub os G.ps) {me : SM (OT os) t.A} {kk : OT os → OutT G L β osn} (he : RE X Γ os e t me) (hk : RB X G L Γ os rest Γn osn kk) (hs : swapsWith e none pos.line X.env = pure false := by rfl) :
    RB X G L Γ os (.Expr e pos :: rest) Γn osn (fun o => bindX hS (me o) fun _ o => kk o) := by
  intro σ F M R H o W D tk c w g q
  refine ⟨_, pss_cons (ps_expr (pe_best X e) hs) (pss_best X rest), ?_⟩
  refine he σ F M R H o W _ tk c w g (q.bindX.imp (fun x o1 z => ?_) fun _ _ z => z)
  intro v F' M1 mm M' H' s' w' p' g' r'
  exact hk σ F' M1 R H' o1 W D tk (c.mono s') w' (g'.less p'.r) (z.mono s' .refl)
theorem rs_ret (hS : OSub os G.ps) {me : SM (OT os) G.tr.A} (he : RE X Γ os e G.tr me) : RS X G L Γ os (.Return (some e) pos) Γn osn (fun o => bindX hS (me o) fun x o => some (.ret x (hS.map o))) := by
  intro σ F M R H o W D tk c w g q
  refine ⟨_, ps_ret (pe_best X e), ?_⟩
  refine he σ F M R H o W _ tk c w g (q.bindX.imp (fun x o1 z => ?_) fun _ _ z => z)
  intro v F' M1 mm M' H' s' w' p' g' r'
  obtain ⟨M0, s0, w0⟩ := hS.own w'
  refine z v σ F' M0 mm (uni mm M0) H' s' .refl w0 ⟨fun a => ?_, rfl⟩ (g'.less fun a u h => ?_) r'
  · exact (p'.dis a).imp id fun y => s0.none y
  · cases y : mm a with
    | some u' => rw [uni_l y] at h; exact p'.l a u (by rw [y]; exact h)
    | none => rw [uni_r y] at h; exact p'.r a u (s0 a u h)
theorem rs_if (hS : OSub os G.ps) {c : Expr} {sa sb : List Stmt} {mc : SM (OT os) Bool} {ma mb : OT os → OutT G L β osn} (hc : RT X Γ os c mc) (ha : RB X G L Γ os sa Γn osn ma) (hb : RB X G L Γ os sb Γn osn mb) :
    RS X G L Γ os (.If c sa sb pos) Γn osn (fun o => bindX hS (mc o) fun b o => if b = true then ma o else mb o) := by
  intro σ F M R H o W D tk cc w g q
  refine ⟨_, ps_if (pt_best X c) (pss_best X sa) (pss_best X sb), ?_⟩
  refine hc σ F M R H o W _ tk cc w g (q.bindX.imp (fun x o1 z => ?_) fun _ _ z => z)
  intro F' M' H' s' w' g'
  cases x with
  | true => exact ha σ F' M' R H' o1 W D tk (cc.mono s') w' g' (WantS.mono z s' .refl)
  | false => exact hb σ F' M' R H' o1 W D tk (cc.mono s') w' g' (WantS.mono z s' .refl)
theorem rs_pass (b : β) (hle : CtxLe (Γn b) Γ) (h : OSub os osn) : RS X G L Γ os (.Pass pos) Γn osn (fun o => some (.nxt (b, h.map o))) := by
  intro σ F M R H o W D tk c w g q
  obtain ⟨M0, s0, w0⟩ := h.own w
  exact ⟨_, ps_pass, q σ F M0 H (.refl F) .refl (c.le hle) w0 (g.less s0)⟩
theorem rs_brk (b : L.B) (hle : CtxLe (L.G b) Γ) (h : OSub os L.os) : RS X G L Γ os (.Break pos) Γn osn (fun o => some (.brk (b, h.map o))) := by
  intro σ F M R H o W D tk c w g q
  obtain ⟨M0, s0, w0⟩ := h.own w
  exact ⟨_, ps_break, q σ F M0 H (.refl F) .refl (c.le hle) w0 (g.less s0)⟩
theorem rs_cnt (b : L.B) (hle : CtxLe (L.G b) Γ) (h : OSub os L.os) : RS X G L Γ os (.Continue pos) Γn osn (fun o => some (.cnt (b, h.map o))) := by
  intro σ F M R H o W D tk c w g q
  obtain ⟨M0, s0, w0⟩ := h.own w
  exact ⟨_, ps_continue, q σ F M0 H (.refl F) .refl (c.le hle) w0 (g.less s0)⟩

/-- a turn's end, then what follows -/
def Out.turn {β : Type} {G : FX} {L : LC} {os : Os} (r : Option (Out (β × OT os) (β × OT os) G.tr.A (OT G.ps))) (k : β → OT os → OutT G L β os) : OutT G L β os := match r with
  | none => none
  | some (.nxt z) => k z.1 z.2
  | some (.cnt z) => k z.1 z.2
  | some (.brk z) => some (.nxt z)
  | some (.ret x p) => some (.ret x p)
  | some (.exc e p) => some (.exc e p)
/-! ### while -/
def whileS {β : Type} {G : FX} {L : LC} {os : Os} (hS : OSub os G.ps) (c : β → SM (OT os) Bool) (body : β → OT os → Option (Out (β × OT os) (β × OT os) G.tr.A (OT G.ps))) : Nat → β → OT os → OutT G L β os
  | 0, _, _ => none
  | n + 1, b, o => bindX hS (c b o) fun y o => if y = true then Out.turn (body b o) (whileS hS c body n) else some (.nxt (b, o))
theorem rs_while (hS : OSub os G.ps) (hp : PassesOwn (model X.prog X.w) X.A X.env X.xe) (n : Nat) {c : Expr} {body : List Stmt} {ΓL : β → Ctx} {b0 : β} {mc : β → SM (OT os) Bool} {mb : β → OT os → Option (Out (β × OT os) (β × OT os) G.tr.A (OT G.ps))}
    (hle : CtxLe (ΓL b0) Γ) (hc : ∀ b, RT X (ΓL b) os c (mc b)) (hb : ∀ b, RB X G ⟨β, ΓL, os⟩ (ΓL b) os body ΓL os (mb b)) :
    RS X G L Γ os (.While c body [] pos) ΓL os (fun o => whileS hS mc mb n b0 o) := by
  intro σ F M R H o W D tk cc w g q
  refine ⟨_, ps_while hp (pt_best X c) (pss_best X body), ?_⟩
  refine ⟨fun m σ' H' => ∃ b o' F' M', Sub F F' ∧ Keep G.kp σ σ' ∧ CtxOk (ΓL b) σ' F' ∧ OwnOk os o' σ' F' M' R ∧ Good F' M' H' ∧ WantS X G L ΓL os σ' F' R W D (whileS hS mc mb m b o'), ⟨n, b0, o, F, M, .refl F, .refl, cc.le hle, w, g, q⟩, ?_⟩
  rintro m σ1 H1 ⟨b, o1, F1, M1, s1, k1, c1, w1, g1, q1⟩
  cases m with
  | zero => exact q1.elim
  | succ m =>
    refine hc b σ1 F1 M1 R H1 o1 W _ tk c1 w1 g1 ((show WantS X G L ΓL os σ1 F1 R W D (bindX hS (mc b o1) _) from q1).bindX.imp (fun y o2 z => ?_) fun _ _ z => z)
    intro F2 M2 H2 s2 w2 g2
    cases y with
    | false =>
      exact (show NxtS G ΓL os σ1 F1 R D.nx (b, o2) from z) σ1 F2 M2 H2 s2 .refl (c1.mono s2) w2 g2
    | true =>
      show ∃ N : L2.St → Hp → Prop, (∀ σ' H', N σ' H' → ∃ m', m' < m + 1 ∧ ∃ b o' F' M', Sub F F' ∧ Keep G.kp σ σ' ∧ CtxOk (ΓL b) σ' F' ∧ OwnOk os o' σ' F' M' R ∧ Good F' M' H' ∧ WantS X G L ΓL os σ' F' R W D (whileS hS mc mb m' b o')) ∧
        bestB X body { D with nx := N, ct := N, bk := D.nx } σ1 H2
      refine ⟨fun σ' H' => ∃ b o' F' M', Sub F F' ∧ Keep G.kp σ σ' ∧ CtxOk (ΓL b) σ' F' ∧ OwnOk os o' σ' F' M' R ∧ Good F' M' H' ∧ WantS X G L ΓL os σ' F' R W D (whileS hS mc mb m b o'), fun σ' H' h => ⟨m, Nat.lt_succ_self m, h⟩, ?_⟩
      refine hb b σ1 F2 M2 R H2 o2 W _ tk (c1.mono s2) w2 g2 ?_
      have z' : WantS X G L ΓL os σ1 F1 R W D (Out.turn (mb b o2) (whileS hS mc mb m)) := z
      cases u : mb b o2 with
      | none => rw [u] at z'; exact z'
      | some r =>
        rw [u] at z'
        cases r with
        | nxt n => exact fun σ' F' M' H' s k' c' w' g' => ⟨n.1, n.2, F', M', (s1.trans s2).trans s, k1.trans k', c', w', g', WantS.mono z' (s2.trans s) k'⟩
        | cnt n => exact fun σ' F' M' H' s k' c' w' g' => ⟨n.1, n.2, F', M', (s1.trans s2).trans s, k1.trans k', c', w', g', WantS.mono z' (s2.trans s) k'⟩
        | brk n => exact NxtS.mono (show NxtS G ΓL os σ1 F1 R D.nx n from z') s2 .refl
        | ret x p => exact fun v σ' F' M1 mm M' H' s' k' => z' v σ' F' M1 mm M' H' (s2.trans s') k'
        | exc e p => exact fun cls d σ' F' M' H' s' k' => z' cls d σ' F' M' H' (s2.trans s') k'

/-! ### for -/
/-- what is walked: the items xs come, one a turn, whatever is laid meanwhile -/
def Yld (J : It) (t : Ty) (xs : List t.A) (F : Hp) : Prop := ∀ F' M H, Sub F F' → Good F' M H → ∀ i, (xs.length ≤ i → J.stop i H) ∧
  ∀ x, xs[i]? = some x → J.go i H ∧ ∀ v H', J.yld i H v H' → ∃ F2, Sub F' F2 ∧ Good F2 M H' ∧ t.rep x v F2 emp
def bestI (X : Cx) (tg iter : Expr) : TI := fun σ H R => ∃ w, PI X tg iter w ∧ w σ H R
theorem pi_best (X : Cx) (tg iter : Expr) : PI X tg iter (bestI X tg iter) := ⟨fun pins s σ H R I ⟨_, p, h⟩ => p.run pins s σ H R I h⟩
def NormI (os : Os) (t : Ty) (σ : L2.St) (F R : Hp) (K : It → Hp → Prop) (xs : List t.A) (o : OT os) : Prop :=
  ∀ J F' M' H', Sub F F' → OwnOk os o σ F' M' R → Good F' M' H' → Yld J t xs F' → K J H'
def RI (X : Cx) (Γ : Ctx) (os : Os) (tg iter : Expr) (t : Ty) (m : SM (OT os) (List t.A)) : Prop :=
  ∀ (σ : L2.St) (F M R H : Hp) (o : OT os) (W : WX) (K : It → Hp → Prop), Takes X W → CtxOk Γ σ F → OwnOk os o σ F M R → Good F M H →
    Want (m o) (NormI os t σ F R K) (ExcE X os σ F R W) → bestI X tg iter σ H K
/-- a target that takes an item of type t: the slots that it stores -/
def RG (X : Cx) (kp : List Nat) (Γ : Ctx) (os : Os) (tg : Expr) (t : Ty) (Γx : t.A → Ctx) : Prop :=
  ∃ g, PG X tg g ∧ ∀ (σ : L2.St) (F M R H : Hp) (o : OT os) (x : t.A) (v : V) (K : L2.St → Hp → Prop), CtxOk Γ σ F → OwnOk os o σ F M R → Good F M H → t.rep x v F emp →
    (∀ σ', Keep kp σ σ' → CtxOk (Γx x) σ' F → OwnOk os o σ' F M R → K σ' H) → g v σ H K
theorem rg_name (xo : XOk X N sc B k) (i j : Nat) {kp : List Nat} {nm : Str} {kd : NameKind} (hj : sc.names[j]? = some (nm, kd) := by rfl) (hkd : locK kd = true := by rfl) (hN : N[i]? = some nm := by rfl) (hf : noSlot i os = true := by rfl) (hkp : kp.all (· != i) = true := by rfl) :
    RG X kp Γ os (.Name nm p) t (fun x => Γ.set i (some ⟨t, x⟩)) := by
  obtain ⟨l1, l2⟩ := xo.lc j nm kd hj hkd
  refine ⟨_, pg_name (i := i) xo.nd (by rw [xo.nN]; exact hN) l1 l2, fun σ F M R H o x v K c w g r h => ?_⟩
  exact h _ (keep_set hkp) (c.set r) (w.set hf)
def forS {α β : Type} {G : FX} {L : LC} {os : Os} (body : α → β → OT os → Option (Out (β × OT os) (β × OT os) G.tr.A (OT G.ps))) : List α → β → OT os → OutT G L β os
  | [], b, o => some (.nxt (b, o))
  | x :: xs, b, o => Out.turn (body x b o) (forS body xs)
theorem rs_for (hS : OSub os G.ps) (hp : PassesOwn (model X.prog X.w) X.A X.env X.xe) (hc : X.calm = true) {tg iter : Expr} {body : List Stmt} {ΓL : β → Ctx} {b0 : β} {mi : SM (OT os) (List t.A)} {Γx : β → t.A → Ctx}
    {mb : t.A → β → OT os → Option (Out (β × OT os) (β × OT os) G.tr.A (OT G.ps))}
    (hle : CtxLe (ΓL b0) Γ) (hi : RI X Γ os tg iter t mi) (hg : ∀ b, RG X G.kp (ΓL b) os tg t (Γx b)) (hb : ∀ x b, RB X G ⟨β, ΓL, os⟩ (Γx b x) os body ΓL os (mb x b))
    (hs : ∀ x, foldedSetIterable iter X.env x = pure x := by intro _; rfl) :
    RS X G L Γ os (.For tg iter body [] pos) ΓL os (fun o => bindX hS (mi o) fun xs o => forS mb xs b0 o) := by
  intro σ F M R H o W D tk cc w g q
  -- one target for every turn
  let gg : TG := fun v σ H K => ∃ g', PG X tg g' ∧ g' v σ H K
  have hgg : PG X tg gg := ⟨fun pins s σ H v u Q I r ⟨_, p, h⟩ => p.run pins s σ H v u Q I r h⟩
  refine ⟨_, ps_for hp hc (pi_best X tg iter) hgg (pss_best X body) hs, ?_⟩
  refine hi σ F M R H o W _ tk cc w g (q.bindX.imp (fun xs o1 z => ?_) fun _ _ z => z)
  intro J F1 M1 H1 s1 w1 g1 y1
  refine ⟨fun i m σ' H' => m = xs.length - i ∧ i ≤ xs.length ∧ ∃ b o' F' M', Sub F1 F' ∧ Keep G.kp σ σ' ∧ CtxOk (ΓL b) σ' F' ∧ OwnOk os o' σ' F' M' R ∧ Good F' M' H' ∧ WantS X G L ΓL os σ' F' R W D (forS mb (xs.drop i) b o'),
    ⟨_, rfl, Nat.zero_le _, b0, o1, F1, M1, .refl F1, .refl, (cc.mono s1).le hle, w1, g1, WantS.mono z s1 .refl⟩, ?_⟩
  rintro i m σ2 H2 ⟨rfl, hi2, b, o2, F2, M2, s2, k2, c2, w2, g2, q2⟩
  obtain ⟨st, go⟩ := y1 F2 M2 H2 s2 g2 i
  by_cases hlt : i < xs.length
  · have hx : xs[i]? = some xs[i] := List.getElem?_eq_getElem hlt
    obtain ⟨go1, go2⟩ := go xs[i] hx
    refine .inr ⟨go1, fun σ' H' => i + 1 ≤ xs.length ∧ ∃ b o' F' M', Sub F1 F' ∧ Keep G.kp σ σ' ∧ CtxOk (ΓL b) σ' F' ∧ OwnOk os o' σ' F' M' R ∧ Good F' M' H' ∧ WantS X G L ΓL os σ' F' R W D (forS mb (xs.drop (i + 1)) b o'),
      fun σ' H' h => ⟨xs.length - (i + 1), by omega, rfl, h.1, h.2⟩, fun v H3 hy => ?_⟩
    obtain ⟨F3, s3, g3, r3⟩ := go2 v H3 hy
    obtain ⟨g', pg, hg'⟩ := hg b
    refine ⟨g', pg, hg' σ2 F3 M2 R H3 o2 xs[i] v _ (c2.mono s3) (w2.mono s3) g3 r3 fun σ4 k4 c4 w4 => ?_⟩
    rw [List.drop_eq_getElem_cons hlt] at q2
    refine hb xs[i] b σ4 F3 M2 R H3 o2 W _ tk c4 w4 g3 ?_
    have q2' : WantS X G L ΓL os σ2 F2 R W D (Out.turn (mb xs[i] b o2) (forS mb (xs.drop (i + 1)))) := q2
    cases u : mb xs[i] b o2 with
    | none => rw [u] at q2'; exact q2'
    | some r =>
      rw [u] at q2'
      cases r with
      | nxt n => exact fun σ' F' M' H' s k' c' w' g' => ⟨hlt, n.1, n.2, F', M', (s2.trans s3).trans s, (k2.trans k4).trans k', c', w', g', WantS.mono q2' (s3.trans s) (k4.trans k')⟩
      | cnt n => exact fun σ' F' M' H' s k' c' w' g' => ⟨hlt, n.1, n.2, F', M', (s2.trans s3).trans s, (k2.trans k4).trans k', c', w', g', WantS.mono q2' (s3.trans s) (k4.trans k')⟩
      | brk n => exact NxtS.mono (show NxtS G ΓL os σ2 F2 R D.nx n from q2') s3 k4
      | ret x p => exact fun v σ' F' M1 mm M' H' s' k' => q2' v σ' F' M1 mm M' H' (s3.trans s') (k4.trans k')
      | exc e p => exact fun cls d σ' F' M' H' s' k' => q2' cls d σ' F' M' H' (s3.trans s') (k4.trans k')
  · have e : i = xs.length := by omega
    subst e
    rw [List.drop_length] at q2
    exact .inl ⟨st (Nat.le_refl _), (show NxtS G ΓL os σ2 F2 R D.nx (b, o2) from q2) σ2 F2 M2 H2 (.refl F2) .refl c2 w2 g2⟩
end
end Mi

namespace Mi
open PySem PySem.Spec PyProof.Rows L2

/-! ### defs -/
structure Md where
  P : Program
  w : World
  K : PySem.W.Frag
  mg : Str → Option Value
  base : Heap
def _root_.L2.Cx.md (X : Cx) : Md := ⟨X.prog, X.w, X.K, X.mg, X.base⟩
/-- what a statement asks of its context -/
structure XS (X : Cx) : Prop where
  own : PassesOwn (model X.prog X.w) X.A X.env X.xe
  hs : X.stack = X.env :: X.outer
  hf : X.env.frame = some X.env.locals
/-- a def that owns nothing of its arguments -/
def spP (mg : Str → Option Value) (ts : List Ty) (tr : Ty) (fn : AT ts → Option (Except Exn tr.A)) : Sp := fun vs H Q E => ∃ x F R, ArgsOk ts x vs F ∧ Good F R H ∧
  (match fn x with
  | none => False
  | some (.ok y) => ∀ v F' mm M' H', Sub F F' → Sep mm R M' → Good F' M' H' → tr.rep y v F' mm → Q v H'
  | some (.error ex) => ∀ cls d F' H', Sub F F' → Good F' R H' → ExnOk mg ex cls d F' → E cls d H')
/-- a def whose first argument is lent to it -/
def spO (mg : Str → Option Value) (t0 : Ty) (ts : List Ty) (tr : Ty) (fn : t0.A → AT ts → Option (Except Exn tr.A × t0.A)) : Sp := fun vs H Q E => ∃ v0 us y0 x F m0 R M, vs = v0 :: us ∧ t0.rep y0 v0 F m0 ∧ Sep m0 R M ∧ ArgsOk ts x us F ∧ Good F M H ∧
  (match fn y0 x with
  | none => False
  | some (.ok y, z) => ∀ v F' m' M1 mm M' H', Sub F F' → t0.rep z v0 F' m' → Sep m' R M1 → Sep mm M1 M' → Good F' M' H' → tr.rep y v F' mm → Q v H'
  | some (.error ex, z) => ∀ cls d F' m' M1 H', Sub F F' → t0.rep z v0 F' m' → Sep m' R M1 → Good F' M1 H' → ExnOk mg ex cls d F' → E cls d H')
structure LkF (M : Md) (nm : Str) (ps : List Str) (sp : Sp) (j : Nat) (f : Addr) (fd : FuncData) : Prop where
  mg : M.mg nm = some (.ref f)
  kp : PySem.W.keepIn M.K (.ref f) = true
  bd : Binds M.K fd ps []
  ok : FnOk M.P M.w M.K M.mg M.base (L2.CX M.P M.w) j f fd ps sp
def LkP (M : Md) (nm : Str) (ps : List Str) (ts : List Ty) (tr : Ty) (fn : AT ts → Option (Except Exn tr.A)) (j : Nat) : Prop := ∃ f fd, LkF M nm ps (spP M.mg ts tr fn) j f fd
def LkO (M : Md) (nm : Str) (ps : List Str) (t0 : Ty) (ts : List Ty) (tr : Ty) (fn : t0.A → AT ts → Option (Except Exn tr.A × t0.A)) (j : Nat) : Prop := ∃ f fd, LkF M nm ps (spO M.mg t0 ts tr fn) j f fd
section
variable {X : Cx} {N : List Str} {sc : Scope} {B : List Str} {k : Nat} {Γ : Ctx} {os : Os} {pos p : Pos} {e : Expr} {es : List Expr}
def WE' (W : WX) : L2.St → XK := fun σ cls d H => W cls d σ H
theorem re_call (xo : XOk X N sc B k) {nm : Str} {ps : List Str} {ts : List Ty} {tr : Ty} {fn : AT ts → Option (Except Exn tr.A)} {j : Nat} {m : SM (OT os) (AT ts)} (l : LkP X.md nm ps ts tr fn j) (g : Nat)
    (ha : RA X Γ os (e :: es) ts m) (hg : sc.names[g]? = some (nm, .globalImplicit) := by rfl) (hj : j ≤ k := by decide)
    (he : starEach (e :: es) X.env = (false, eval e X.env) :: starEach es X.env := by rfl) (hpl : (backTo pos (starEach es X.env)).any (·.1) = false := by rfl) :
    RE X Γ os (.Call (.Name nm p) (e :: es) [] pos) tr (SM.bind m fun x => SM.lifx (fn x)) := by
  obtain ⟨f, fd, lf⟩ := l
  intro σ F M R H o W Q tk c w gd h
  refine ⟨_, pe_callSD (E := WE W) (F := lf.ok) (xo.room.mono hj) (xo.gl g nm hg) lf.mg lf.kp lf.bd .nil (fun σ => passAt tk σ) (pa_best X (e :: es)) (xo.db g nm _ hg).1 he hpl, ?_⟩
  refine args_end ha tk c w gd h fun x o2 vs F2 M2 H2 h2 s2 w2 g2 r2 => ?_
  refine ⟨x, F2, M2, by rw [List.append_nil]; exact r2, g2, ?_⟩
  unfold SM.lifx at h2
  cases z : fn x with
  | none => rw [z] at h2; exact h2
  | some r =>
    rw [z] at h2
    cases r with
    | ok y => exact fun v F' mm M' H' s' p' g' r' => (show NormE os tr σ F R Q y o2 from h2) v F' M2 mm M' H' (s2.trans s') (w2.mono s') p' g' r'
    | error ex => exact fun cls d F' H' s' g' x' => (show ExcE X os σ F R W ex o2 from h2) cls d F' M2 H' (s2.trans s') (w2.mono s') g' x'
/-- f() -/
theorem re_call0 (xo : XOk X N sc B k) {nm : Str} {ps : List Str} {tr : Ty} {fn : AT [] → Option (Except Exn tr.A)} {j : Nat} (l : LkP X.md nm ps [] tr fn j) (g : Nat)
    (hg : sc.names[g]? = some (nm, .globalImplicit) := by rfl) (hj : j ≤ k := by decide) :
    RE X Γ os (.Call (.Name nm p) [] [] pos) tr (SM.lifx (fn ())) := by
  obtain ⟨f, fd, lf⟩ := l
  intro σ F M R H o W Q tk c w gd h
  -- the exceptions' wish stands at the slots: one reading for all slots by pe_call0 is had at one of them
  have pe : PE X (.Call (.Name nm p) [] [] pos) (fun σ' H' Q' => σ' = σ ∧ spP X.mg [] tr fn [] H' Q' (WE W σ)) := by
    refine ⟨fun pins s σ' H' Q' I q => ?_⟩
    obtain ⟨rfl, q⟩ := q
    refine wpAny_Call_Name_kw (ld_glob I (xo.gl g nm hg) lf.mg ?_ (xo.db g nm _ hg).1)
    exact PySem.W.callWith_K0 I.kIn lf.kp (run_fnSD (us := []) (vs := []) (E := WE W) lf.ok (xo.room.mono hj) lf.bd .nil (passAt tk σ') I .nil (by rw [List.append_nil]; exact q))
  refine ⟨_, pe, rfl, (), F, M, rfl, gd, ?_⟩
  unfold SM.lifx at h
  cases z : fn () with
  | none => rw [z] at h; exact h
  | some r =>
    rw [z] at h
    cases r with
    | ok y => exact fun v F' mm M' H' s' p' g' r' => (show NormE os tr σ F R Q y o from h) v F' M mm M' H' s' (w.mono s') p' g' r'
    | error ex => exact fun cls d F' H' s' g' x' => (show ExcE X os σ F R W ex o from h) cls d F' M H' s' (w.mono s') g' x'
/-- lent: what it holds afterwards is kept -/
def SM.callO {os : Os} {i : Nat} {t0 : Ty} {A B : Type} (hm : OMem os i t0) (fn : t0.A → A → Option (Except Exn B × t0.A)) (x : A) : SM (OT os) B := fun o => match fn (hm.get o) x with
  | none => none
  | some (r, z) => some (r, hm.set z o)
/-- f(b, e, ..), b a name that we own and lend -/
theorem re_callO (xo : XOk X N sc B k) {nm nb : Str} {ps : List Str} {t0 : Ty} {ts : List Ty} {tr : Ty} {fn : t0.A → AT ts → Option (Except Exn tr.A × t0.A)} {j i jb : Nat} {kd : NameKind} {pb : Pos} {m : SM (OT os) (AT ts)} (l : LkO X.md nm ps t0 ts tr fn j) (g : Nat)
    (hm : OMem os i t0) (ib : Nat) (ha : RA X Γ os es ts m) (hib : ib = jb := by rfl)
    (hjb : sc.names[jb]? = some (nb, kd) := by rfl) (hkb : visK kd = true := by rfl) (hN : N[i]? = some nb := by rfl)
    (hg : sc.names[g]? = some (nm, .globalImplicit) := by rfl) (hj : j ≤ k := by decide)
    (he : starEach (.Name nb pb :: es) X.env = (false, eval (.Name nb pb) X.env) :: starEach es X.env := by rfl) (hpl : (backTo pos (starEach es X.env)).any (·.1) = false := by rfl) :
    RE X Γ os (.Call (.Name nm p) (.Name nb pb :: es) [] pos) tr (SM.bind m fun x => SM.callO hm fn x) := by
  obtain ⟨f, fd, lf⟩ := l
  intro σ F M R H o W Q tk c w gd h
  refine ⟨_, pe_callSD (E := WE W) (F := lf.ok) (xo.room.mono hj) (xo.gl g nm hg) lf.mg lf.kp lf.bd .nil (fun σ => passAt tk σ) (pa_cons (pe_var (by rw [xo.nN]; exact hN) (xo.vs jb nb kd hjb hkb) (xo.db jb nb kd hjb).1 (xo.db jb nb kd hjb).2.1) (pa_best X es) he) (xo.db g nm _ hg).1 he hpl, ?_⟩
  obtain ⟨v0, m0, M0, e0, r0, s0, _⟩ := hm.at w
  refine ⟨v0, e0, ?_⟩
  refine args_end ha tk c w gd h fun x o2 vs F2 M2 H2 h2 s2 w2 g2 r2 => ?_
  obtain ⟨v1, m1, M1, e1, r1, s1, up⟩ := hm.at w2
  rw [e0] at e1
  cases e1
  refine ⟨v0, vs, hm.get o2, x, F2, m1, M1, M2, by rw [List.append_nil], r1, s1, r2, g2, ?_⟩
  have h3 := h2
  unfold SM.callO at h3
  cases z : fn (hm.get o2) x with
  | none => rw [z] at h3; exact h3
  | some r =>
    obtain ⟨r, y0⟩ := r
    rw [z] at h3
    cases r with
    | ok y => exact fun v F' m' M3 mm M' H' s' q' p1 p2 g' r' => (show NormE os tr σ F R Q y (hm.set y0 o2) from h3) v F' M3 mm M' H' (s2.trans s') (up y0 m' M3 F' s' q' p1) p2 g' r'
    | error ex => exact fun cls d F' m' M3 H' s' q' p1 g' x' => (show ExcE X os σ F R W ex (hm.set y0 o2) from h3) cls d F' M3 H' (s2.trans s') (up y0 m' M3 F' s' q' p1) g' x'
end

/-! ### a def's body -/
def argCtx : (ts : List Ty) → AT ts → Ctx
  | [], _ => []
  | t :: r, x => some ⟨t, x.1⟩ :: argCtx r x.2
theorem argCtx_length : ∀ {ts : List Ty} {x : AT ts}, (argCtx ts x).length = ts.length
  | [], _ => rfl
  | _ :: _, _ => by unfold argCtx; rw [List.length_cons, argCtx_length, List.length_cons]
theorem ctx_args : ∀ {ts : List Ty} {x : AT ts} {vs : List V} {F : Hp} {n : Nat}, ArgsOk ts x vs F → CtxOk (argCtx ts x ++ List.replicate n none) (vs.map some ++ List.replicate n none) F
  | [], _, vs, F, n, h => by
    have h' : vs = [] := h
    subst h'
    refine ⟨by simp [argCtx], fun i t y e => ?_⟩
    have e' : (List.replicate n (none : Option ((t : Ty) × t.A)))[i]? = some (some ⟨t, y⟩) := e
    rw [List.getElem?_replicate] at e'
    split at e' <;> cases e'
  | t :: r, x, vs, F, n, ⟨v, us, e, q, k⟩ => by
    subst e
    have ih := ctx_args (n := n) k
    refine ⟨by have z := ih.1; simp only [argCtx, List.map_cons, List.cons_append, List.length_cons]; rw [z], fun i u y e => ?_⟩
    cases i with
    | zero =>
      have e' : some (some (⟨t, x.1⟩ : (t : Ty) × t.A)) = some (some ⟨u, y⟩) := e
      obtain ⟨rfl, e2⟩ := Sigma.mk.inj (Option.some.inj (Option.some.inj e'))
      cases e2
      exact ⟨v, rfl, q⟩
    | succ i => exact ih.2 i u y e
/-- z: what a def hands back that ends without return -/
def runZ {G : FX} {L : LC} {β : Type} {osn : Os} (z : Option G.tr.A) (r : OutT G L β osn) : Option (Except Exn G.tr.A) := match r with
  | some (.ret x _) => some (.ok x)
  | some (.exc e _) => some (.error e)
  | some (.nxt _) => z.map .ok
  | _ => none
def runO {t0 tr : Ty} {i : Nat} {kp : List Nat} {L : LC} {β : Type} {osn : Os} (r : OutT ⟨kp, [(i, t0)], tr⟩ L β osn) : Option (Except Exn tr.A × t0.A) := match r with
  | some (.ret x p) => some (.ok x, p.1)
  | some (.exc e p) => some (.error e, p.1)
  | _ => none
def dropAll : (a : Os) → OSub a []
  | [] => .nil
  | _ :: r => .skip (dropAll r)
def fnScB (N ps : List Str) (sc : Scope) : Bool := decide (sc.kind = .function) && (!sc.isCoroutine && (!sc.isGenerator && (decide N.Nodup && (decide (N.take ps.length = ps) && ((ps.all fun x => match sc.names.lookup x with
  | some .local => true | some .cell => true | _ => false) && ((sc.names.all fun y => decide (y.2 ≠ .free)) && ((sc.names.all fun y => decide (sc.names.lookup y.1 = some y.2)) && sc.names.all fun y => (!(y.1 == ("__debug__" : Str)) && (!(y.1 == ("__classdict__" : Str)) && decide (y.1 ≠ "__name__"))))))))))
theorem fnScB_ok {N ps : List Str} {sc : Scope} (h : fnScB N ps sc = true) : FnScope N ps sc ∧ (∀ y ∈ sc.names, sc.names.lookup y.1 = some y.2) ∧ ∀ y ∈ sc.names, (y.1 == ("__debug__" : Str)) = false ∧ (y.1 == ("__classdict__" : Str)) = false ∧ y.1 ≠ "__name__" := by
  unfold fnScB at h
  simp only [Bool.and_eq_true, decide_eq_true_eq, Bool.not_eq_true', List.all_eq_true] at h
  obtain ⟨h1, h2, h3, h4, h5, h6, h7, h8, h9⟩ := h
  refine ⟨⟨h1, h2, h3, h4, h5, fun x hx => ?_, h7⟩, h8, h9⟩
  have z := h6 x hx
  split at z
  · exact .inl (by assumption)
  · exact .inr (by assumption)
  · cases z
section
variable {M : Md} {x qual : Str} {params : Arguments} {body : List Stmt} {scope : Scope} {f : Addr} {fd : FuncData} {N ps : List Str} {B : List Str} {k : Nat}
theorem xo_body (S : FnScope N ps scope) (hu : ∀ y ∈ scope.names, scope.names.lookup y.1 = some y.2) (hd : ∀ y ∈ scope.names, (y.1 == ("__debug__" : Str)) = false ∧ (y.1 == ("__classdict__" : Str)) = false ∧ y.1 ≠ "__name__") (hB : ∀ (i : Nat) (x : Str), B[i]? = some x → M.mg x = none) {cdv : Value} {A : Around} {outer : List Env} {s : Shared} {H : Hp} {E : XK}
    (hr : Room k (A.deeper (envOfC qual scope s.heap.objs.size f cdv))) : XOk (cxOf (L2.CX M.P M.w) M.P M.w M.K M.mg M.base N qual scope f cdv A outer s H E) N scope B k := by
  have kind : ∀ (x : Str) (kd : NameKind), scope.names.lookup x = some kd → (envOfC qual scope s.heap.objs.size f cdv).kindOf x = some kd := fun x kd h => h
  refine ⟨rfl, fun j x kd h => hd _ (List.mem_of_getElem? h), fun j x kd h hk => ?_, fun j x h => ?_, fun j x kd h hk => ?_, fun j x kd h hk => ?_, S.nd, hB, hr, rfl⟩
  · have e := hu _ (List.mem_of_getElem? h)
    cases kd <;> first | exact .inl e | exact .inr (.inl e) | exact .inr (.inr e) | cases hk
  · exact kind x _ (hu _ (List.mem_of_getElem? h))
  · have e := hu _ (List.mem_of_getElem? h)
    cases kd <;> first | exact ⟨.inl e, .inl rfl⟩ | exact ⟨.inr e, .inl rfl⟩ | cases hk
  · have e := hu _ (List.mem_of_getElem? h)
    rcases hk with rfl | rfl
    · exact .inl e
    · exact .inr e
theorem xs_body {cdv : Value} {A : Around} {outer : List Env} {s : Shared} {H : Hp} {E : XK} : XS (cxOf (L2.CX M.P M.w) M.P M.w M.K M.mg M.base N qual scope f cdv A outer s H E) := ⟨passes_of rfl, rfl, rfl⟩
theorem takes_body {cdv : Value} {A : Around} {outer : List Env} {s : Shared} {H : Hp} {E : XK} : Takes (cxOf (L2.CX M.P M.w) M.P M.w M.K M.mg M.base N qual scope f cdv A outer s H E) (fun cls d _ H => E cls d H) := takes_of rfl rfl rfl rfl
/-- a def that owns nothing: by its body -/
theorem fn_P (F : FunD M.K x qual params body scope [] [] f fd) {Lks : Md → Prop} (lks : Lks M) {ts : List Ty} {tr : Ty} {β : Type} {Γn : β → Ctx} {osn : Os} {m : AT ts → OT [] → OutT ⟨[], [], tr⟩ LC.none β osn} {z : Option tr.A}
    (hB : ∀ (i : Nat) (x : Str), B[i]? = some x → M.mg x = none) (hsc : fnScB N ps scope = true) (hl : ts.length = ps.length)
    (hb : ∀ X, Lks X.md → XOk X N scope B k → XS X → ∀ x, RB X ⟨[], [], tr⟩ LC.none (argCtx ts x ++ List.replicate (N.length - ts.length) none) [] body Γn osn (m x))
    (hz : ∀ y, z = some y → ∀ F, tr.rep y .non F emp) :
    FnOk M.P M.w M.K M.mg M.base (L2.CX M.P M.w) (k + 1) f fd ps (spP M.mg ts tr fun x => runZ z (m x ())) := by
  obtain ⟨S, hu, hd⟩ := fnScB_ok hsc
  refine F.ok S (fun vs H Q E h => ?_) fun cdv A outer s H vs Q E hr h => ?_
  · obtain ⟨_, _, _, h, _⟩ := h
    rw [h.length, hl]
  · obtain ⟨x, F, R, ha, g, h⟩ := h
    refine ⟨_, pss_best _ body, ?_⟩
    have c := ctx_args (n := N.length - vs.length) ha
    have hlen := ha.length
    rw [hlen] at c
    refine hb (cxOf (L2.CX M.P M.w) M.P M.w M.K M.mg M.base N qual scope f cdv A outer s H E) lks (xo_body S hu hd hB hr) xs_body x (L2.start N vs) F R R H () (fun cls d _ H => E cls d H) _ takes_body ?_ rfl g ?_
    · unfold L2.start
      rw [hlen]
      exact c
    · revert h
      show (match runZ z (m x ()) with
        | none => False
        | some (.ok y) => _
        | some (.error ex) => _) → WantS _ _ _ _ _ _ _ _ _ _ (m x ())
      cases q : m x () with
      | none => exact fun h => h.elim
      | some r =>
        cases r with
        | nxt n =>
          cases z with
          | none => exact fun h => h.elim
          | some y =>
            intro h σ' F' M' H' s' k' c' w' g'
            obtain ⟨M0, s0, w0⟩ := (dropAll osn).own w'
            have w0' : M0 = R := w0
            subst w0'
            exact h .non F' emp _ H' s' (sep_emp_l _) (g'.less s0) (hz y rfl F')
        | brk n => exact fun h => h.elim
        | cnt n => exact fun h => h.elim
        | ret y p =>
          intro h v σ' F' M1 mm M' H' s' k' w' p' g' r'
          have e : M1 = R := w'
          subst e
          exact h v F' mm M' H' s' p' g' r'
        | exc e p =>
          intro h cls d σ' F' M' H' s' k' w' g' x'
          have e : M' = R := w'
          subst e
          exact h cls d F' H' s' g' x'
/-- a def whose first argument is lent -/
theorem fn_O (F : FunD M.K x qual params body scope [] [] f fd) {Lks : Md → Prop} (lks : Lks M) {t0 : Ty} {ts : List Ty} {tr : Ty} {β : Type} {Γn : β → Ctx} {osn : Os} {m : AT ts → OT [(0, t0)] → OutT ⟨[0], [(0, t0)], tr⟩ LC.none β osn}
    (hB : ∀ (i : Nat) (x : Str), B[i]? = some x → M.mg x = none) (hsc : fnScB N ps scope = true) (hl : ts.length + 1 = ps.length)
    (hb : ∀ X, Lks X.md → XOk X N scope B k → XS X → ∀ x, RB X ⟨[0], [(0, t0)], tr⟩ LC.none (none :: (argCtx ts x ++ List.replicate (N.length - (ts.length + 1)) none)) [(0, t0)] body Γn osn (m x)) :
    FnOk M.P M.w M.K M.mg M.base (L2.CX M.P M.w) (k + 1) f fd ps (spO M.mg t0 ts tr fun y x => runO (m x (y, ()))) := by
  obtain ⟨S, hu, hd⟩ := fnScB_ok hsc
  refine F.ok S (fun vs H Q E h => ?_) fun cdv A outer s H vs Q E hr h => ?_
  · obtain ⟨_, us, _, _, _, _, _, _, rfl, _, _, h, _⟩ := h
    rw [List.length_cons, h.length, hl]
  · obtain ⟨v0, us, y0, x, F, m0, R, M1, rfl, r0, s0, ha, g, h⟩ := h
    refine ⟨_, pss_best _ body, ?_⟩
    have hlen := ha.length
    have c := ctx_args (n := N.length - (us.length + 1)) ha
    have c2 : CtxOk (none :: (argCtx ts x ++ List.replicate (N.length - (ts.length + 1)) none)) (L2.start N (v0 :: us)) F := by
      unfold L2.start
      rw [List.length_cons, hlen]
      rw [hlen] at c
      refine ⟨by have z := c.1; simp only [List.map_cons, List.cons_append, List.length_cons]; rw [z], fun i u y e => ?_⟩
      cases i with
      | zero => cases e
      | succ i => exact c.2 i u y e
    refine hb (cxOf (L2.CX M.P M.w) M.P M.w M.K M.mg M.base N qual scope f cdv A outer s H E) lks (xo_body S hu hd hB hr) xs_body x (L2.start N (v0 :: us)) F M1 R H (y0, ()) (fun cls d _ H => E cls d H) _ takes_body c2 ⟨v0, m0, R, rfl, r0, s0, rfl⟩ g ?_
    revert h
    show (match runO (m x (y0, ())) with
      | none => False
      | some (.ok y, z) => _
      | some (.error ex, z) => _) → WantS _ _ _ _ _ _ _ _ _ _ (m x (y0, ()))
    cases q : m x (y0, ()) with
    | none => exact fun h => h.elim
    | some r =>
      cases r with
      | nxt n => exact fun h => h.elim
      | brk n => exact fun h => h.elim
      | cnt n => exact fun h => h.elim
      | ret y p =>
        intro h v σ' F' M2 mm M' H' s' k' w' p' g' r'
        obtain ⟨v1, m1, M3, e1, r1, s1, w1⟩ := w'
        have e : M3 = R := w1
        subst e
        have k0 := k'.2 0 (by simp)
        rw [show (L2.start N (v0 :: us))[0]? = some (some v0) from rfl] at k0
        have e2 : σ'[0]? = some (some v1) := e1
        rw [k0] at e2
        cases e2
        exact h v F' m1 M2 mm M' H' s' r1 s1 p' g' r'
      | exc e p =>
        intro h cls d σ' F' M' H' s' k' w' g' x'
        obtain ⟨v1, m1, M3, e1, r1, s1, w1⟩ := w'
        have e : M3 = R := w1
        subst e
        have k0 := k'.2 0 (by simp)
        rw [show (L2.start N (v0 :: us))[0]? = some (some v0) from rfl] at k0
        have e2 : σ'[0]? = some (some v1) := e1
        rw [k0] at e2
        cases e2
        exact h cls d F' m1 M' H' s' r1 s1 g' x'
end
end Mi

namespace Mi
open PySem PySem.Spec PyProof.Rows L2

abbrev gI (x : Str) : Str × NameKind := (x, .globalImplicit)
/-! ### lists, tuples -/
def AllR (t : Ty) : List t.A → List V → Hp → Prop
  | [], vs, _ => vs = []
  | x :: xs, vs, F => ∃ v r, vs = v :: r ∧ t.rep x v F emp ∧ AllR t xs r F
theorem AllR.mono {t : Ty} : ∀ {xs : List t.A} {vs : List V} {F F' : Hp}, AllR t xs vs F → Sub F F' → AllR t xs vs F'
  | [], _, _, _, h, _ => h
  | _ :: _, _, _, _, ⟨v, r, e, q, k⟩, s => ⟨v, r, e, t.mono q s, k.mono s⟩
theorem AllR.length {t : Ty} : ∀ {xs : List t.A} {vs : List V} {F : Hp}, AllR t xs vs F → vs.length = xs.length
  | [], vs, _, h => by have h' : vs = [] := h; rw [h'] <;> rfl
  | _ :: _, _, _, ⟨v, r, e, q, k⟩ => by rw [e, List.length_cons, List.length_cons, k.length]
theorem AllR.get {t : Ty} : ∀ {xs : List t.A} {vs : List V} {F : Hp} {i : Nat} {x : t.A}, AllR t xs vs F → xs[i]? = some x → ∃ v, vs[i]? = some v ∧ t.rep x v F emp
  | [], _, _, _, _, _, e => by simp at e
  | y :: xs, _, _, 0, x, ⟨v, r, e, q, k⟩, h => by subst e; simp at h; subst h; exact ⟨v, rfl, q⟩
  | y :: xs, _, _, i + 1, x, ⟨v, r, e, q, k⟩, h => by
    subst e
    obtain ⟨w, e1, e2⟩ := k.get (i := i) (x := x) (by simpa using h)
    exact ⟨w, by simpa using e1, e2⟩
theorem AllR.app {t : Ty} : ∀ {xs ys : List t.A} {vs us : List V} {F : Hp}, AllR t xs vs F → AllR t ys us F → AllR t (xs ++ ys) (vs ++ us) F
  | [], _, vs, _, _, h, k => by have h' : vs = [] := h; subst h'; exact k
  | _ :: _, _, _, _, _, ⟨v, r, e, q, z⟩, k => by subst e; exact ⟨v, _, rfl, q, z.app k⟩
theorem AllR.snoc {t : Ty} {xs : List t.A} {vs : List V} {F : Hp} {x : t.A} {v : V} (h : AllR t xs vs F) (r : t.rep x v F emp) : AllR t (xs ++ [x]) (vs ++ [v]) F := h.app ⟨v, [], rfl, r, rfl⟩
theorem AllR.drop {t : Ty} : ∀ {xs : List t.A} {vs : List V} {F : Hp} (n : Nat), AllR t xs vs F → AllR t (xs.drop n) (vs.drop n) F
  | _, _, _, 0, h => h
  | [], vs, _, n + 1, h => by have h' : vs = [] := h; subst h'; exact rfl
  | _ :: _, _, _, n + 1, ⟨v, r, e, q, k⟩ => by subst e; exact k.drop n
theorem AllR.take {t : Ty} : ∀ {xs : List t.A} {vs : List V} {F : Hp} (n : Nat), AllR t xs vs F → AllR t (xs.take n) (vs.take n) F
  | _, _, _, 0, h => rfl
  | [], vs, _, n + 1, h => by have h' : vs = [] := h; subst h'; exact rfl
  | _ :: _, _, _, n + 1, ⟨v, r, e, q, k⟩ => by subst e; exact ⟨v, _, rfl, q, k.take n⟩
theorem AllR.set {t : Ty} : ∀ {xs : List t.A} {vs : List V} {F : Hp} (n : Nat) {x : t.A} {v : V}, AllR t xs vs F → t.rep x v F emp → AllR t (xs.set n x) (vs.set n v) F
  | [], vs, _, n, _, _, h, _ => by have h' : vs = [] := h; subst h'; exact rfl
  | _ :: _, _, _, 0, x, v, ⟨w, r, e, q, k⟩, h => by subst e; exact ⟨v, _, rfl, h, k⟩
  | _ :: _, _, _, n + 1, x, v, ⟨w, r, e, q, k⟩, h => by subst e; exact ⟨w, _, rfl, q, k.set n h⟩
abbrev tLst (t : Ty) : Ty := imTy (List t.A) (fun xs v F => ∃ a vs, v = .ref a ∧ F a = some (.lst vs) ∧ AllR t xs vs F) fun ⟨a, vs, e, q, r⟩ s => ⟨a, vs, e, s _ _ q, r.mono s⟩
/-- a list that we own -/
abbrev tOwn (t : Ty) : Ty := ⟨List t.A, fun xs v F m => ∃ a vs, v = .ref a ∧ m = sing a (.lst vs) ∧ AllR t xs vs F, fun ⟨a, vs, e, q, r⟩ s => ⟨a, vs, e, q, r.mono s⟩⟩
abbrev tTup (ts : List Ty) : Ty := imTy (AT ts) (fun x v F => ∃ a vs, v = .ref a ∧ F a = some (.tup vs) ∧ ArgsOk ts x vs F) fun ⟨a, vs, e, q, r⟩ s => ⟨a, vs, e, s _ _ q, r.mono s⟩
theorem im_lst {t : Ty} : Imm (tLst t) := fun a => a.1
theorem im_tup {ts : List Ty} : Imm (tTup ts) := fun a => a.1

/-! ### freezing -/
def Frz (t u : Ty) (f : t.A → u.A) : Prop := ∀ {x v F m}, t.rep x v F m → (∀ p, m p = none ∨ F p = none) → u.rep (f x) v (uni m F) emp
theorem sub_uni {m F : Hp} (d : ∀ p, m p = none ∨ F p = none) : Sub F (uni m F) := fun a o h => by
  rcases d a with e | e
  · rw [uni_r e]; exact h
  · rw [h] at e; cases e
theorem frz_own {t : Ty} : Frz (tOwn t) (tLst t) id := fun {x v F m} ⟨a, vs, e, q, r⟩ d => by
  subst q
  exact ⟨rfl, a, vs, e, uni_l sing_same, r.mono (sub_uni d)⟩
section
variable {X : Cx} {N : List Str} {sc : Scope} {B : List Str} {k : Nat} {Γ : Ctx} {os : Os} {pos p p2 apos : Pos} {e a b : Expr} {es : List Expr} {t u : Ty}
theorem re_frz {f : t.A → u.A} {m : SM (OT os) t.A} (z : Frz t u f) (h : RE X Γ os e t m) : RE X Γ os e u (SM.map f m) := by
  intro σ F M R H o W Q tk c w g q
  refine h σ F M R H o W Q tk c w g (q.bind.imp (fun x o1 y v F' M1 mm M' H' s w' p' g' r' => ?_) fun _ _ z => z)
  obtain ⟨g2, s2, _⟩ := g'.freeze p'
  have d : ∀ q, mm q = none ∨ F' q = none := fun q => by
    rcases g'.dis q with z | z
    · exact .inr z
    · exact .inl (p'.none z).1
  exact (show NormE os u σ F R Q (f x) o1 from y) v (uni mm F') M1 emp M1 H' (s.trans s2) (w'.mono s2) (sep_emp_l M1) g2 (z r' d)
/-- a value that leans on no object -/
def Flat (t : Ty) : Prop := ∀ {x v F m}, t.rep x v F m → m = emp ∧ ∀ F', t.rep x v F' emp
theorem flat_im {A : Type} {g : A → V} : Flat (flat A g) := fun h => ⟨h.1, fun _ => ⟨rfl, h.2⟩⟩
/-- what is owned is read only -/
def SM.borrow {os : Os} {i : Nat} {t0 : Ty} {A B : Type} (h : OMem os i t0) (f : t0.A → A) (m : A → SM (OT []) B) : SM (OT os) B := fun o => match m (f (h.get o)) () with
  | some (.ok y, _) => some (.ok y, o)
  | _ => none
/-- what we own is read only, by an expression whose value leans on no object -/
theorem re_borrow {i : Nat} {t0 t1 : Ty} {f : t0.A → t1.A} {m : t1.A → SM (OT []) t.A} (h : OMem os i t0) (z : Frz t0 t1 f) (ft : Flat t) (he : ∀ x, RE X (Γ.set i (some ⟨t1, x⟩)) [] e t (m x)) :
    RE X Γ os e t (SM.borrow h f m) := by
  intro σ F M R H o W Q tk c w g q
  obtain ⟨v, m0, M', e0, r0, s0, _⟩ := h.at w
  have d : ∀ q, m0 q = none ∨ F q = none := fun q => by
    rcases g.dis q with z | z
    · exact .inr z
    · exact .inl (s0.none z).1
  obtain ⟨g2, s2, s3⟩ := g.freeze s0
  have c2 : CtxOk (Γ.set i (some ⟨t1, f (h.get o)⟩)) σ (uni m0 F) := by
    have c3 := (c.mono s2).set (i := i) (t := t1) (x := f (h.get o)) (v := v) (z r0 d)
    have e3 : σ.set i (some v) = σ := by
      apply List.ext_getElem?
      intro j
      by_cases hj : j = i
      · subst hj
        have hl : j < σ.length := (List.getElem?_eq_some_iff.mp e0).1
        rw [List.getElem?_set_self hl, e0]
      · rw [List.getElem?_set_ne (Ne.symm hj)]
    rw [e3] at c3
    exact c3
  have q' := q
  unfold SM.borrow at q'
  refine he _ σ (uni m0 F) M' M' H () W Q tk c2 rfl g2 ?_
  cases r : m (f (h.get o)) () with
  | none => rw [r] at q'; exact q'.elim
  | some y =>
    obtain ⟨y, o1⟩ := y
    rw [r] at q'
    cases y with
    | error x => exact q'.elim
    | ok y =>
      intro v2 F2 M1 mm M2 H2 s4 w4 p4 g4 r4
      have e4 : M1 = M' := w4
      subst e4
      obtain ⟨e5, r5⟩ := ft r4
      subst e5
      have e6 := p4.emp_l
      subst e6
      refine (show NormE os t σ F R Q y o from q') v2 F M emp M H2 (.refl F) w (sep_emp_l M) ⟨(s2.trans s4).trans g4.f, ?_, g.dis⟩ (r5 F)
      intro b o' hb
      rw [s0.eq] at hb
      cases y1 : m0 b with
      | some o2 => rw [uni_l y1] at hb; rw [← hb]; exact g4.f _ _ (s4 _ _ (s3 _ _ y1))
      | none => rw [uni_r y1] at hb; exact g4.m _ _ hb

/-! ### displays -/
def NormL (os : Os) (t : Ty) (n : Nat) (σ : L2.St) (F R : Hp) (Q : List V → Hp → Prop) (xs : List t.A) (o : OT os) : Prop :=
  ∀ vs F' M' H', Sub F F' → OwnOk os o σ F' M' R → Good F' M' H' → AllR t xs vs F' → vs.length = n → Q vs H'
def RAL (X : Cx) (Γ : Ctx) (os : Os) (es : List Expr) (t : Ty) (m : SM (OT os) (List t.A)) : Prop :=
  ∀ (σ : L2.St) (F M R H : Hp) (o : OT os) (W : WX) (Q : List V → Hp → Prop), Takes X W → CtxOk Γ σ F → OwnOk os o σ F M R → Good F M H →
    Want (m o) (NormL os t es.length σ F R Q) (ExcE X os σ F R W) → bestA X es σ H Q
theorem ral_nil : RAL X Γ os [] t (SM.ret []) := fun σ F M R H o W Q tk c w g q => ⟨_, pa_nil, q [] F M H (.refl F) w g rfl rfl⟩
theorem ral_cons {m : SM (OT os) t.A} {n : SM (OT os) (List t.A)} (it : Imm t) (h : RE X Γ os e t m) (hr : RAL X Γ os es t n)
    (he : starEach (e :: es) X.env = (false, eval e X.env) :: starEach es X.env := by rfl) : RAL X Γ os (e :: es) t (SM.bind m fun x => SM.bind n fun y => SM.ret (x :: y)) := by
  intro σ F M R H o W Q tk c w g q
  refine ⟨_, pa_cons (pe_best X e) (pa_best X es) he, h σ F M R H o W _ tk c w g (q.bind.imp (fun x o1 z => ?_) fun _ _ z => z)⟩
  intro v F' M1 mm M' H' s w' p' g' r
  have e := it r; subst e
  have e := p'.emp_l; subst e
  refine hr σ F' _ R H' o1 W _ tk (c.mono s) w' g' (z.bind.imp (fun y o2 z => ?_) fun _ _ z => z.mono s)
  intro us F2 M2 H2 s2 w2 g2 r2 l2
  exact z (v :: us) F2 M2 H2 (s.trans s2) w2 g2 ⟨v, us, rfl, t.mono r s2, r2⟩ (by rw [List.length_cons, List.length_cons, l2])
theorem re_list {m : SM (OT os) (List t.A)} (h : RAL X Γ os es t m) (hl : es.length ≤ 1000 := by exact by decide) : RE X Γ os (.List es pos) (tOwn t) m := by
  intro σ F M R H o W Q tk c w g q
  refine ⟨_, pe_lst (pa_best X es), h σ F M R H o W _ tk c w g (q.imp (fun xs o1 z => ?_) fun _ _ z => z)⟩
  intro vs F' M' H' s w' g' r l
  refine ⟨Nat.le_of_lt (small1000 (by omega)), fun p hp => ?_⟩
  obtain ⟨g2, s2⟩ := g'.newM (o := .lst vs) hp
  exact z (.ref p) F' M' _ _ _ s w' s2 g2 ⟨p, vs, rfl, rfl, r⟩
theorem re_tup {ts : List Ty} {x1 : Nat} {m : SM (OT os) (AT ts)} (h : RA X Γ os es ts m) (hl : ts.length ≤ 1000 := by exact by decide) : RE X Γ os (.Tuple es x1 pos) (tTup ts) m := by
  intro σ F M R H o W Q tk c w g q
  refine ⟨_, pe_tup (pa_best X es), h σ F M R H o W _ tk c w g (q.imp (fun xs o1 z => ?_) fun _ _ z => z)⟩
  intro vs F' M' H' s w' g' r
  refine ⟨Nat.le_of_lt (small1000 (by rw [r.length]; exact hl)), fun p hp => ?_⟩
  have hF : F' p = none := g'.f.none hp
  have s2 := sub_upd (o := .tup vs) hF
  exact z (.ref p) (upd F' p (.tup vs)) M' emp M' _ (s.trans s2) (w'.mono s2) (sep_emp_l M') (g'.newF hp) ⟨rfl, p, vs, rfl, upd_same, r.mono s2⟩

/-! ### items, slices, length -/
def cut {α : Type} (l : List α) (lo hi : Option Int) : List α := (l.drop (HT.sIx l.length 0 lo)).take (HT.sIx l.length l.length hi - HT.sIx l.length 0 lo)
theorem atI_map {t : Ty} {xs : List t.A} {vs : List V} {F : Hp} {i : Int} {x : t.A} (h : AllR t xs vs F) (e : atI xs i = some x) : ∃ v, atI vs i = some v ∧ t.rep x v F emp := by
  unfold atI at e ⊢
  rw [h.length]
  cases q : ixN xs.length i with
  | none => rw [q] at e; cases e
  | some j =>
    rw [q] at e
    exact h.get e
theorem re_ixL {m : SM (OT os) (List t.A)} {n : SM (OT os) Int} (it : Imm t) (ha : RE X Γ os a (tLst t) m) (hb : RE X Γ os b tInt n) (hs : PlainIx b := by exact fun _ _ => rfl) :
    RE X Γ os (.Subscript a b pos) t (SM.bind m fun x => SM.bind n fun y => SM.lift (atI x y)) := by
  refine re_ix (ta := tLst t) (tb := tInt) (tc := t) (f := atI) ix_list (fun {x y z v u F M H Q} e hx hy g q => ?_) im_lst imF ha hb hs
  obtain ⟨_, a, vs, ea, fa, r⟩ := hx
  obtain ⟨w, e1, e2⟩ := atI_map r e
  exact ⟨a, vs, y, w, ea, hy.2, .inl (.inl (g.f _ _ fa)), e1, q w F emp M H (.refl F) (sep_emp_l M) g (it e2 ▸ e2)⟩
theorem toL {l : List Nat} : (sOf l).cps.toList = l := rfl
theorem lenS {l : List Nat} : (sOf l).length = l.length := rfl
theorem re_ixS {m : SM (OT os) (List Nat)} {n : SM (OT os) Int} (ha : RE X Γ os a tStr m) (hb : RE X Γ os b tInt n) (hs : PlainIx b := by exact fun _ _ => rfl) :
    RE X Γ os (.Subscript a b pos) tChr (SM.bind m fun x => SM.bind n fun y => SM.lift (if x.length ≤ sizeLine then atI x y else none)) := by
  refine re_ix (ta := tStr) (tb := tInt) (tc := tChr) (f := fun x y => if x.length ≤ sizeLine then atI x y else none) ix_str (fun {x y z v u F M H Q} e hx hy g q => ?_) imF imF ha hb hs
  obtain ⟨_, ea⟩ := hx
  obtain ⟨_, ru⟩ := hy
  have e' : (if x.length ≤ sizeLine then atI x y else none) = some z := e
  by_cases h : x.length ≤ sizeLine
  · rw [if_pos h] at e'
    exact ⟨sOf x, y, z, ea, ru, h, e', fl (gA := fun c => V.str (sOf [c])) q g⟩
  · rw [if_neg h] at e'; cases e'
def NormO (os : Os) (σ : L2.St) (F R : Hp) (Q : Option Int → Hp → Prop) (x : Option Int) (o : OT os) : Prop :=
  ∀ F' M' H', Sub F F' → OwnOk os o σ F' M' R → Good F' M' H' → Q x H'
def bestO (X : Cx) (e : Option Expr) : TO := fun σ H Q => ∃ t, PO X e t ∧ t σ H Q
theorem po_best (X : Cx) (e : Option Expr) : PO X e (bestO X e) := ⟨fun pins s σ H Q I ⟨_, p, h⟩ => p.run pins s σ H Q I h⟩
def RO (X : Cx) (Γ : Ctx) (os : Os) (e : Option Expr) (m : SM (OT os) (Option Int)) : Prop :=
  ∀ (σ : L2.St) (F M R H : Hp) (o : OT os) (W : WX) (Q : Option Int → Hp → Prop), Takes X W → CtxOk Γ σ F → OwnOk os o σ F M R → Good F M H →
    Want (m o) (NormO os σ F R Q) (ExcE X os σ F R W) → bestO X e σ H Q
theorem ro_none : RO X Γ os none (SM.ret none) := fun σ F M R H o W Q tk c w g q => ⟨_, po_none, q F M H (.refl F) w g⟩
theorem ro_some {m : SM (OT os) Int} (h : RE X Γ os e tInt m) : RO X Γ os (some e) (SM.map some m) := fun σ F M R H o W Q tk c w g q =>
  ⟨_, po_some (pe_best X e), h σ F M R H o W _ tk c w g (q.bind.imp (fun x o1 z v F' M1 mm M' H' s w' p' g' r' => by
    obtain ⟨e1, e2⟩ := r'
    subst e1
    have e := p'.emp_l; subst e
    exact ⟨x, e2, z F' _ H' s w' g'⟩) fun _ _ z => z)⟩
theorem re_sl {ts : Ty} {tr : Ty} {r : V → Option Int → Option Int → Hp → VK → Prop} {f : ts.A → Option Int → Option Int → Option tr.A} {lo hi : Option Expr} {m : SM (OT os) ts.A} {ml mh : SM (OT os) (Option Int)} (hr : SlR X r) (is : Imm ts)
    (hv : ∀ {x l h z v F M H} {Q : VK}, f x l h = some z → ts.rep x v F emp → Good F M H → (∀ v' F' mm M' H', Sub F F' → Sep mm M M' → Good F' M' H' → tr.rep z v' F' mm → Q v' H') → r v l h H Q)
    (ha : RE X Γ os a ts m) (hl : RO X Γ os lo ml) (hh : RO X Γ os hi mh) : RE X Γ os (.Subscript a (.Slice lo hi none p2) pos) tr (SM.bind m fun x => SM.bind ml fun l => SM.bind mh fun h => SM.lift (f x l h)) := by
  intro σ F M R H o W Q tk c w g q
  refine ⟨_, pe_slice hr (pe_best X a) (po_best X lo) (po_best X hi), ?_⟩
  refine one_end is ha tk c w g q fun x o2 v F2 M2 H2 h2 s2 w2 g2 r2 => ?_
  refine hl σ F2 M2 R H2 o2 W _ tk (c.mono s2) w2 g2 (h2.bind.imp (fun l o3 h3 => ?_) fun _ _ z => z.mono s2)
  intro F3 M3 H3 s3 w3 g3
  refine hh σ F3 M3 R H3 o3 W _ tk ((c.mono s2).mono s3) w3 g3 (h3.bind.imp (fun h o4 h4 => ?_) fun _ _ z => z.mono (s2.trans s3))
  intro F4 M4 H4 s4 w4 g4
  exact lift_fin h4 ((s2.trans s3).trans s4) w4 fun z ez qq => hv ez (ts.mono r2 (s3.trans s4)) g4 qq
theorem cutS_of (l : List Nat) (lo hi : Option Int) : cutS (sOf l) lo hi = sOf (cut l lo hi) := rfl
theorem re_slS {lo hi : Option Expr} {m : SM (OT os) (List Nat)} {ml mh : SM (OT os) (Option Int)} (ha : RE X Γ os a tStr m) (hl : RO X Γ os lo ml) (hh : RO X Γ os hi mh) :
    RE X Γ os (.Subscript a (.Slice lo hi none p2) pos) tStr (SM.bind m fun x => SM.bind ml fun l => SM.bind mh fun h => SM.lift (if x.length ≤ sizeLine then some (cut x l h) else none)) := by
  refine re_sl (ts := tStr) (tr := tStr) (f := fun x l h => if x.length ≤ sizeLine then some (cut x l h) else none) sl_str imF (fun {x l h z v F M H Q} e hx g q => ?_) ha hl hh
  obtain ⟨_, rx⟩ := hx
  have e' : (if x.length ≤ sizeLine then some (cut x l h) else none) = some z := e
  by_cases hz : x.length ≤ sizeLine
  · rw [if_pos hz] at e'
    cases e'
    refine ⟨sOf x, rx, hz, ?_⟩
    rw [cutS_of]
    exact fl (gA := fun l => V.str (sOf l)) q g
  · rw [if_neg hz] at e'; cases e'
theorem re_slL {lo hi : Option Expr} {m : SM (OT os) (List t.A)} {ml mh : SM (OT os) (Option Int)} (ha : RE X Γ os a (tLst t) m) (hl : RO X Γ os lo ml) (hh : RO X Γ os hi mh) :
    RE X Γ os (.Subscript a (.Slice lo hi none p2) pos) (tOwn t) (SM.bind m fun x => SM.bind ml fun l => SM.bind mh fun h => SM.lift (some (cut x l h))) := by
  refine re_sl (ts := tLst t) (tr := tOwn t) (f := fun x l h => some (cut x l h)) sl_list im_lst (fun {x l h z v F M H Q} e hx g q => ?_) ha hl hh
  obtain ⟨_, a, vs, ea, fa, r⟩ := hx
  cases e
  refine ⟨a, vs, ea, .inl (.inl (g.f _ _ fa)), fun p hp => ?_⟩
  obtain ⟨g2, s2⟩ := g.newM (o := .lst (cutV vs l h)) hp
  refine q (.ref p) F _ _ _ (.refl F) s2 g2 ⟨p, _, rfl, rfl, ?_⟩
  unfold cutV cut
  rw [r.length]
  exact (r.drop _).take _
variable {ga ma : Nat}
theorem v_lenL : VCall (fun xs H Q => ∃ p ys, xs = [.ref p] ∧ (SqL X.K H p ys ∨ SqT X.K H p ys) ∧ Q (.int ys.length) H) [tLst t] tInt (fun x => some (x.1.length : Int)) := by
  intro x z vs F M H Q e ⟨v, us, e1, ⟨_, a, ys, ea, fa, r⟩, e2⟩ g q
  cases e
  have e2' : us = [] := e2
  subst e2' e1 ea
  refine ⟨a, ys, rfl, .inl (.inl (.inl (g.f _ _ fa))), ?_⟩
  rw [r.length]
  exact fl (gA := V.int) q g
theorem v_lenS : VCall (fun xs H Q => ∃ z, xs = [.str z] ∧ z.length ≤ sizeLine ∧ Q (.int z.length) H) [tStr] tInt (fun x => if x.1.length ≤ sizeLine then some (x.1.length : Int) else none) := by
  intro x z vs F M H Q e ⟨v, us, e1, ⟨_, ea⟩, e2⟩ g q
  have e2' : us = [] := e2
  have ea' : v = V.str (sOf x.1) := ea
  subst e2' e1 ea'
  have e' : (if x.1.length ≤ sizeLine then some (x.1.length : Int) else none) = some z := e
  by_cases h : x.1.length ≤ sizeLine
  · rw [if_pos h] at e'
    cases e'
    exact ⟨sOf x.1, rfl, h, fl (gA := V.int) q g⟩
  · rw [if_neg h] at e'; cases e'
theorem re_lenL (xo : XOk X N sc B k) {m : SM (OT os) (AT [tLst t])} (ga ma : Nat) (ha : RA X Γ os [e] [tLst t] m) (hg : sc.names[ga]? = some (gI "len") := by rfl) (hm : B[ma]? = some "len" := by rfl)
    (he : starEach [e] X.env = (false, eval e X.env) :: starEach [] X.env := by rfl) :
    RE X Γ os (.Call (.Name "len" p) [e] [] pos) tInt (SM.bind m fun x => SM.lift (some (x.1.length : Int))) := re_callB call_len_seq v_lenL (xo.gl ga _ hg) (xo.fr ma _ hm) boot_len ha (by decide) (by decide) he rfl
theorem re_lenS (xo : XOk X N sc B k) {m : SM (OT os) (AT [tStr])} (ga ma : Nat) (ha : RA X Γ os [e] [tStr] m) (hg : sc.names[ga]? = some (gI "len") := by rfl) (hm : B[ma]? = some "len" := by rfl)
    (he : starEach [e] X.env = (false, eval e X.env) :: starEach [] X.env := by rfl) :
    RE X Γ os (.Call (.Name "len" p) [e] [] pos) tInt (SM.bind m fun x => SM.lift (if x.1.length ≤ sizeLine then some (x.1.length : Int) else none)) := re_callB call_len_str v_lenS (xo.gl ga _ hg) (xo.fr ma _ hm) boot_len ha (by decide) (by decide) he rfl

/-! ### texts -/
theorem sOf_app (a b : List Nat) : sOf a ++ sOf b = sOf (a ++ b) := by
  show (⟨(sOf a).cps ++ (sOf b).cps⟩ : Str) = _
  unfold sOf
  simp
theorem re_addS {m n : SM (OT os) (List Nat)} (ha : RE X Γ os a tStr m) (hb : RE X Γ os b tStr n) :
    RE X Γ os (.BinOp a .Add b pos) tStr (SM.bind m fun x => SM.bind n fun y => SM.lift (if x.length + y.length ≤ sizeLine then some (x ++ y) else none)) := by
  refine re_op (ta := tStr) (tb := tStr) (tc := tStr) (f := fun x y => if x.length + y.length ≤ sizeLine then some (x ++ y) else none) op_add_str (fun {x y z v u F M H Q} e hx hy g q => ?_) imF imF ha hb
  obtain ⟨_, rx⟩ := hx
  obtain ⟨_, ry⟩ := hy
  have e' : (if x.length + y.length ≤ sizeLine then some (x ++ y) else none) = some z := e
  by_cases h : x.length + y.length ≤ sizeLine
  · rw [if_pos h] at e'
    cases e'
    refine ⟨sOf x, sOf y, rx, ry, h, ?_⟩
    rw [sOf_app]
    exact fl (gA := fun l => V.str (sOf l)) q g
  · rw [if_neg h] at e'; cases e'
theorem v_inC : VOp (fun x y H Q => ∃ (c : Nat) (z : Str), x = .str ⟨#[c]⟩ ∧ y = .str z ∧ Q (.bl (decide (c ∈ z.cps.toList))) H) tChr tStr tBool (fun c l => some (decide (c ∈ l))) := by
  intro x y z v u F M H Q e ⟨_, rx⟩ ⟨_, ry⟩ g q
  cases e
  exact ⟨x, sOf y, rx, ry, fl (gA := V.bl) q g⟩
theorem v_niC : VOp (fun x y H Q => ∃ (c : Nat) (z : Str), x = .str ⟨#[c]⟩ ∧ y = .str z ∧ Q (.bl (!decide (c ∈ z.cps.toList))) H) tChr tStr tBool (fun c l => some (!decide (c ∈ l))) := by
  intro x y z v u F M H Q e ⟨_, rx⟩ ⟨_, ry⟩ g q
  cases e
  exact ⟨x, sOf y, rx, ry, fl (gA := V.bl) q g⟩
theorem re_inC {m : SM (OT os) Nat} {n : SM (OT os) (List Nat)} (ha : RE X Γ os a tChr m) (hb : RE X Γ os b tStr n) (hm : behindInMarks .In b = false := by rfl) : RE X Γ os (.Compare a [.In] [b] pos) tBool (SM.bind m fun x => SM.bind n fun y => SM.lift (some (decide (x ∈ y)))) := re_cmp op_in_sign v_inC imF imF ha hb hm
theorem re_niC {m : SM (OT os) Nat} {n : SM (OT os) (List Nat)} (ha : RE X Γ os a tChr m) (hb : RE X Γ os b tStr n) (hm : behindInMarks .NotIn b = false := by rfl) : RE X Γ os (.Compare a [.NotIn] [b] pos) tBool (SM.bind m fun x => SM.bind n fun y => SM.lift (some (!decide (x ∈ y)))) := re_cmp op_notIn_sign v_niC imF imF ha hb hm

/-! ### what is walked -/
theorem ri_list {tg : Expr} {m : SM (OT os) (List t.A)} (h : RE X Γ os e (tLst t) m) : RI X Γ os tg e t m := by
  intro σ F M R H o W K tk c w g q
  refine ⟨_, pi_list (pe_best X e), h σ F M R H o W _ tk c w g (q.imp (fun xs o1 z => ?_) fun _ _ z => z)⟩
  intro v F' M1 mm M' H' s w' p' g' ⟨e1, a, vs, ea, fa, r⟩
  subst e1
  have e := p'.emp_l; subst e
  refine ⟨a, ea, ⟨vs, .inl (.inl (g'.f _ _ fa))⟩, z _ F' _ H' s w' g' fun F2 M2 H2 s2 g2 i => ?_⟩
  have ha : H2 a = some (.lst vs) := g2.f _ _ (s2 _ _ fa)
  refine ⟨fun hi => ⟨vs, .inl (.inl ha), by rw [r.length]; exact hi⟩, fun x hx => ?_⟩
  obtain ⟨w1, e1, e2⟩ := r.get hx
  exact ⟨⟨vs, w1, .inl (.inl ha), e1⟩, fun v' H3 ⟨h3, hv⟩ => by
    subst h3
    have q := hv vs (.inl (.inl ha))
    rw [e1] at q
    cases q
    exact ⟨F2, .refl F2, g2, t.mono e2 s2⟩⟩
theorem ri_str {tg : Expr} {m : SM (OT os) (List Nat)} (h : RE X Γ os e tStr m) : RI X Γ os tg e tChr m := by
  intro σ F M R H o W K tk c w g q
  refine ⟨_, pi_str (pe_best X e), h σ F M R H o W _ tk c w g (q.imp (fun xs o1 z => ?_) fun _ _ z => z)⟩
  intro v F' M1 mm M' H' s w' p' g' ⟨e1, ev⟩
  subst e1
  have e := p'.emp_l; subst e
  refine ⟨sOf xs, ev, z _ F' _ H' s w' g' fun F2 M2 H2 s2 g2 i => ?_⟩
  refine ⟨fun hi => show xs.toArray.size ≤ i by simpa using hi, fun x hx => ?_⟩
  have hlt : i < xs.length := (List.getElem?_eq_some_iff.mp hx).1
  refine ⟨show i < xs.toArray.size by simpa using hlt, fun v' H3 ⟨h3, c', hc, hv⟩ => ?_⟩
  subst h3 hv
  have hc' : xs[i]? = some c' := by
    have z : xs.toArray[i]? = some c' := hc
    simpa using z
  rw [hx] at hc'
  cases hc'
  exact ⟨F2, .refl F2, g2, rfl, rfl⟩
def small62 (i : Int) : Prop := -(2 ^ 62) ≤ i ∧ i < 2 ^ 62
instance {i : Int} : Decidable (small62 i) := by unfold small62; exact inferInstance
def rng (lo hi : Int) : List Int := (List.range (hi - lo).toNat).map fun (k : Nat) => lo + (k : Int)
theorem yld_rng {lo hi : Int} {F : Hp} : Yld (Itr lo (hi - lo).toNat) tInt (rng lo hi) F := by
  intro F2 M2 H2 s2 g2 i
  refine ⟨fun hi => show (_ : Nat) ≤ i by simpa [rng] using hi, fun x hx => ?_⟩
  have hlt : i < (hi - lo).toNat := by
    have z := (List.getElem?_eq_some_iff.mp hx).1
    simpa [rng] using z
  refine ⟨hlt, fun v' H3 ⟨h3, hv⟩ => ?_⟩
  subst h3 hv
  unfold rng at hx
  rw [List.getElem?_map, List.getElem?_range hlt] at hx
  cases hx
  exact ⟨F2, .refl F2, g2, rfl, rfl⟩
theorem ri_range1 (xo : XOk X N sc B k) {tg : Expr} (ga ma : Nat) {m : SM (OT os) (AT [tInt])} (h : RA X Γ os [e] [tInt] m) (hg : sc.names[ga]? = some (gI "range") := by rfl) (hm : B[ma]? = some "range" := by rfl)
    (hs : starEach [e] X.env = [(false, eval e X.env)] := by rfl) : RI X Γ os tg (.Call (.Name "range" p) [e] [] pos) tInt (SM.bind m fun x => SM.lift (if small62 x.1 then some (rng 0 x.1) else none)) := by
  intro σ F M R H o W K tk c w g q
  refine ⟨_, pi_range1 (xo.gl ga _ hg) (xo.fr ma _ hm) (pa_best X [e]) hs, ?_⟩
  refine args_end h tk c w g q fun x o2 vs F2 M2 H2 h2 s2 w2 g2 ⟨v, us, e1, ⟨_, e2⟩, e3⟩ => ?_
  have e3' : us = [] := e3
  have e2' : v = V.int x.1 := e2
  subst e3' e1 e2'
  unfold SM.lift at h2
  by_cases hz : small62 x.1
  · rw [if_pos hz] at h2
    refine ⟨x.1, rfl, hz.1, hz.2, (show NormI os tInt σ F R K (rng 0 x.1) o2 from h2) _ F2 M2 H2 s2 w2 g2 ?_⟩
    have y := yld_rng (lo := 0) (hi := x.1) (F := F2)
    rw [show (x.1 - 0).toNat = x.1.toNat by rw [Int.sub_zero]] at y
    exact y
  · rw [if_neg hz] at h2; exact h2.elim
theorem ri_range2 (xo : XOk X N sc B k) {tg e2 : Expr} (ga ma : Nat) {m : SM (OT os) (AT [tInt, tInt])} (h : RA X Γ os [e, e2] [tInt, tInt] m) (hg : sc.names[ga]? = some (gI "range") := by rfl) (hm : B[ma]? = some "range" := by rfl)
    (hs : starEach [e, e2] X.env = [(false, eval e X.env), (false, eval e2 X.env)] := by rfl) (hs2 : starEach [e2] X.env = [(false, eval e2 X.env)] := by rfl) :
    RI X Γ os tg (.Call (.Name "range" p) [e, e2] [] pos) tInt (SM.bind m fun x => SM.lift (if small62 x.1 ∧ small62 x.2.1 then some (rng x.1 x.2.1) else none)) := by
  intro σ F M R H o W K tk c w g q
  refine ⟨_, pi_range2 (xo.gl ga _ hg) (xo.fr ma _ hm) (pa_best X [e, e2]) hs hs2, ?_⟩
  refine args_end h tk c w g q fun x o2 vs F2 M2 H2 h2 s2 w2 g2 ⟨v, us, e1, ⟨_, ev⟩, v2, us2, e3, ⟨_, ev2⟩, e4⟩ => ?_
  have e4' : us2 = [] := e4
  have ev' : v = V.int x.1 := ev
  have ev2' : v2 = V.int x.2.1 := ev2
  subst e4' e3 e1 ev' ev2'
  unfold SM.lift at h2
  by_cases hz : small62 x.1 ∧ small62 x.2.1
  · rw [if_pos hz] at h2
    exact ⟨x.1, x.2.1, rfl, ⟨hz.1.1, hz.1.2, hz.2.1, hz.2.2⟩, (show NormI os tInt σ F R K (rng x.1 x.2.1) o2 from h2) _ F2 M2 H2 s2 w2 g2 yld_rng⟩
  · rw [if_neg hz] at h2; exact h2.elim
end
end Mi

namespace Mi
open PySem PySem.Spec PyProof.Rows L2
section
variable {X : Cx} {N : List Str} {sc : Scope} {B : List Str} {k : Nat} {Γ : Ctx} {os : Os} {pos p p2 apos : Pos} {e a b : Expr} {es : List Expr} {t u : Ty}

/-! ### more of ints -/
instance {i j : Int} : Decidable (CDivW i j) := by unfold CDivW; exact inferInstance
theorem re_fdiv {ma mb : SM (OT os) Int} (ha : RE X Γ os a tInt ma) (hb : RE X Γ os b tInt mb) : RE X Γ os (.BinOp a .FloorDiv b pos) tInt (SM.bind ma fun x => SM.bind mb fun y => SM.lift (if CDivW x y then some (x / y) else none)) := re_op op_fdivW v_I imF imF ha hb
theorem v_II2 {gg : Int → Int → Int} : VCall (fun xs H Q => ∃ i j, xs = [.int i, .int j] ∧ Q (.int (gg i j)) H) [tInt, tInt] tInt (fun x => some (gg x.1 x.2.1)) := by
  intro x z vs F M H Q e h g q
  obtain ⟨v, us, e1, ⟨_, ev⟩, v2, us2, e3, ⟨_, ev2⟩, e4⟩ := h
  cases e
  have e4' : us2 = [] := e4
  have ev' : v = V.int x.1 := ev
  have ev2' : v2 = V.int x.2.1 := ev2
  subst e4' e3 e1 ev' ev2'
  exact ⟨x.1, x.2.1, rfl, fl (gA := V.int) q g⟩
theorem re_max2 (xo : XOk X N sc B k) {m : SM (OT os) (AT [tInt, tInt])} (ga ma : Nat) (ha : RA X Γ os [a, b] [tInt, tInt] m) (hg : sc.names[ga]? = some (gI "max") := by rfl) (hm : B[ma]? = some "max" := by rfl)
    (he : starEach [a, b] X.env = (false, eval a X.env) :: starEach [b] X.env := by rfl) (hpl : (backTo pos (starEach [b] X.env)).any (·.1) = false := by rfl) :
    RE X Γ os (.Call (.Name "max" p) [a, b] [] pos) tInt (SM.bind m fun x => SM.lift (some (if x.2.1 > x.1 then x.2.1 else x.1))) := re_callB (call_max2 xo.calm) (v_II2 (gg := fun i j => if j > i then j else i)) (xo.gl ga _ hg) (xo.fr ma _ hm) boot_max ha (by decide) (by decide) he hpl
theorem re_min2 (xo : XOk X N sc B k) {m : SM (OT os) (AT [tInt, tInt])} (ga ma : Nat) (ha : RA X Γ os [a, b] [tInt, tInt] m) (hg : sc.names[ga]? = some (gI "min") := by rfl) (hm : B[ma]? = some "min" := by rfl)
    (he : starEach [a, b] X.env = (false, eval a X.env) :: starEach [b] X.env := by rfl) (hpl : (backTo pos (starEach [b] X.env)).any (·.1) = false := by rfl) :
    RE X Γ os (.Call (.Name "min" p) [a, b] [] pos) tInt (SM.bind m fun x => SM.lift (some (if x.2.1 < x.1 then x.2.1 else x.1))) := re_callB (call_min2 xo.calm) (v_II2 (gg := fun i j => if j < i then j else i)) (xo.gl ga _ hg) (xo.fr ma _ hm) boot_min ha (by decide) (by decide) he hpl

/-! ### a list that we own is changed -/
variable {G : FX} {L : LC} {β : Type} {Γn : β → Ctx} {osn : Os} {rest : List Stmt}
/-- xs[i] = e -/
theorem rb_setL (xo : XOk X N sc B k) (hS : OSub os G.ps) {i : Nat} (h : OMem os i (tOwn t)) (jn : Nat) {nm : Str} {kd : NameKind} {me : SM (OT os) t.A} {mi : SM (OT os) Int} {kk : OT os → OutT G L β osn} (it : Imm t) (he : RE X Γ os e t me) (hi : RE X Γ os a tInt mi) (hk : RB X G L Γ os rest Γn osn kk)
    (hjb : sc.names[jn]? = some (nm, kd) := by rfl) (hkb : visK kd = true := by rfl) (hN : N[i]? = some nm := by rfl)
    (hs : swapsWithSole [.Subscript (.Name nm p) a p2] e pos.line X.env = pure false := by rfl) (hw : swappedStores [.Subscript (.Name nm p) a p2] e X.env = pure none := by rfl)
    (h1 : (assignEach [.Subscript (.Name nm p) a p2] X.env).map (·.2) = [assign (.Subscript (.Name nm p) a p2) X.env] := by rfl)
    (ha : ∀ v, assign (.Subscript (.Name nm p) a p2) X.env v = (do
      let ov ← holding [v] (eval (.Name nm p) X.env)
      let iv ← holding [v, ov] (eval a X.env)
      standAt p2
      holding [v, ov, iv] (setItem ov iv v)
      release [v, ov, iv] []) := by intro _; rfl) :
    RB X G L Γ os (.Assign [.Subscript (.Name nm p) a p2] e pos :: rest) Γn osn (fun o => bindX hS (me o) fun x o => bindX hS (mi o) fun y o => match ixN (h.get o).length y with
      | some n => kk (h.set ((h.get o).set n x) o)
      | none => none) := by
  intro σ F M R H o W D tk c w g q
  refine ⟨_, pss_cons (ps_asg (pe_best X e) (pg_sub (pe_var (by rw [xo.nN]; exact hN) (xo.vs jn nm kd hjb hkb) (xo.db jn nm kd hjb).1 (xo.db jn nm kd hjb).2.1) (pe_best X a) set_list ha) hs hw h1) (pss_best X rest), ?_⟩
  refine he σ F M R H o W _ tk c w g (q.bindX.imp (fun x o1 z => ?_) fun _ _ z => z)
  intro v F1 M1 mm M1' H1 s1 w1 p1 g1 r1
  have e := it r1; subst e
  have e := p1.emp_l; subst e
  obtain ⟨v0, m0, M0, e0, r0, s0, _⟩ := h.at w1
  refine ⟨v0, e0, ?_⟩
  refine hi σ F1 _ R H1 o1 W _ tk (c.mono s1) w1 g1 ((WantS.bindX z).imp (fun y o2 z2 => ?_) fun _ _ z => z.mono s1)
  intro v' F2 M2 mm2 M2' H2 s2 w2 p2 g2 r2
  obtain ⟨e, ey⟩ := r2
  subst e
  have e := p2.emp_l; subst e
  obtain ⟨v1, m1, M3, e1, ⟨a, vs, ea, em, ra⟩, s3, up⟩ := h.at w2
  rw [e0] at e1
  cases e1
  have z2' : WantS X G L Γn osn σ F R W D (match ixN (h.get o2).length y with
      | some n => kk (h.set ((h.get o2).set n x) o2)
      | none => none) := z2
  cases hix : ixN (h.get o2).length y with
  | none => rw [hix] at z2'; exact z2'.elim
  | some n =>
    rw [hix] at z2'
    subst em ea
    have hH : H2 a = some (.lst vs) := g2.m _ _ (s3.l _ _ sing_same)
    refine ⟨a, vs, y, n, rfl, ey, hH, by rw [ra.length]; exact hix, ?_⟩
    obtain ⟨M4, s4, g4⟩ := g2.set (o' := .lst (vs.set n v)) s3
    exact hk σ F2 M4 R _ _ W D tk (c.mono (s1.trans s2)) (up _ _ M4 F2 (.refl F2) ⟨a, _, rfl, rfl, ra.set n (t.mono r1 s2)⟩ s4) g4 (z2'.mono (s1.trans s2) .refl)
end
end Mi
namespace Mi
open PySem PySem.Spec PyProof.Rows L2
section
variable {X : Cx} {N : List Str} {sc : Scope} {B : List Str} {k : Nat} {Γ : Ctx} {os : Os} {pos p p2 apos : Pos} {e a b : Expr}
/-- the script -/
abbrev tScr (K : PySem.W.Frag) : Ty := imTy (List Int) (fun xs v F => ∃ a, v = .ref a ∧ SqL K F a (xs.map V.int)) fun ⟨a, e, r⟩ s => ⟨a, e, r.imp (fun r => r.imp (s _ _) fun ⟨o, h⟩ => ⟨o, s _ _ h⟩) id⟩
theorem im_scr {K : PySem.W.Frag} : Imm (tScr K) := fun a => a.1
theorem sql_good {K : PySem.W.Frag} {F M H : Hp} {a : Addr} {xs : List V} (g : Good F M H) (h : SqL K F a xs) : SqL K H a xs := h.imp (fun r => r.imp (g.f _ _) fun ⟨o, h⟩ => ⟨o, g.f _ _ h⟩) id
theorem rd_good {F M H : Hp} {a : Addr} {u : HO} (g : Good F M H) (h : Rd F a u) : Rd H a u := h.imp (g.f _ _) fun ⟨o, h⟩ => ⟨o, g.f _ _ h⟩
variable {K : PySem.W.Frag}
theorem v_lenX : VCall (fun xs H Q => ∃ p ys, xs = [.ref p] ∧ (SqL K H p ys ∨ SqT K H p ys) ∧ Q (.int ys.length) H) [tScr K] tInt (fun x => some (x.1.length : Int)) := by
  intro x z vs F M H Q e ⟨v, us, e1, ⟨_, a, ea, fa⟩, e2⟩ g q
  cases e
  have e2' : us = [] := e2
  subst e2' e1 ea
  refine ⟨a, x.1.map V.int, rfl, .inl (sql_good g fa), ?_⟩
  rw [List.length_map]
  exact fl (gA := V.int) q g
theorem re_lenX (xo : XOk X N sc B k) (xk : X.K = K) {m : SM (OT os) (AT [tScr K])} (ga ma : Nat) (ha : RA X Γ os [e] [tScr K] m) (hg : sc.names[ga]? = some (gI "len") := by rfl) (hm : B[ma]? = some "len" := by rfl)
    (he : starEach [e] X.env = (false, eval e X.env) :: starEach [] X.env := by rfl) :
    RE X Γ os (.Call (.Name "len" p) [e] [] pos) tInt (SM.bind m fun x => SM.lift (some (x.1.length : Int))) := by
  subst xk
  exact re_callB call_len_seq v_lenX (xo.gl ga _ hg) (xo.fr ma _ hm) boot_len ha (by decide) (by decide) he rfl
theorem re_ixX (xk : X.K = K) {m : SM (OT os) (List Int)} {n : SM (OT os) Int} (ha : RE X Γ os a (tScr K) m) (hb : RE X Γ os b tInt n) (hs : PlainIx b := by exact fun _ _ => rfl) :
    RE X Γ os (.Subscript a b pos) tInt (SM.bind m fun x => SM.bind n fun y => SM.lift (atI x y)) := by
  subst xk
  refine re_ix (ta := tScr X.K) (tb := tInt) (tc := tInt) (f := atI) ix_list (fun {x y z v u F M H Q} e hx hy g q => ?_) im_scr imF ha hb hs
  obtain ⟨_, a, ea, fa⟩ := hx
  refine ⟨a, _, y, .int z, ea, hy.2, sql_good g fa, ?_, fl (gA := V.int) q g⟩
  unfold atI at e ⊢
  rw [List.length_map]
  cases q : ixN x.length y with
  | none => rw [q] at e; cases e
  | some j =>
    rw [q] at e
    have e' : x[j]? = some z := e
    show (x.map V.int)[j]? = _
    rw [List.getElem?_map, e'] <;> rfl
end
end Mi

namespace Mi
open PySem PySem.Spec PyProof.Rows L2

/-! ### a comprehension's block -/
def blkB (N : List Str) (sc scope : Scope) (own : List (Str × Nat)) : Bool :=
  decide (scope.kind = .function) && (scope.names.all (fun y => decide (scope.names.lookup y.1 = some y.2)) && (own.all (fun p => decide (N[p.2]? = some p.1)) &&
  (scope.names.all (fun y => !decide (y.2 = .free) || (sc.names.any fun z => decide (z.1 = y.1) && (decide (z.2 = .cell) || decide (z.2 = .free)))) &&
  (scope.names.all (fun y => !(decide (y.2 = .local) || decide (y.2 = .cell)) || (decide (y.1 ∈ own.map (·.1)) || decide (y.1 ∉ N))) &&
  (scope.names.all fun y => (!(y.1 == ("__debug__" : Str)) && (!(y.1 == ("__classdict__" : Str)) && decide (y.1 ≠ "__name__"))))))))
section
variable {X : Cx} {N : List Str} {sc scope : Scope} {B : List Str} {k : Nat} {own : List (Str × Nat)}
theorem blkB_ok (xo : XOk X N sc B k) (h : blkB N sc scope own = true) : BlkOk X.N X.env.scope scope own ∧ ∀ y ∈ scope.names, (y.1 == ("__debug__" : Str)) = false ∧ (y.1 == ("__classdict__" : Str)) = false ∧ y.1 ≠ "__name__" := by
  unfold blkB at h
  simp only [Bool.and_eq_true, decide_eq_true_eq, Bool.not_eq_true', List.all_eq_true, Bool.or_eq_true, decide_eq_false_iff_not, List.any_eq_true] at h
  obtain ⟨h1, h2, h3, h4, h5, h6⟩ := h
  rw [xo.nN]
  refine ⟨⟨h1, h2, h3, fun y hy e => ?_, fun y hy e => ?_⟩, h6⟩
  · rcases h4 y hy with z | ⟨z, hz, e1, e2⟩
    · exact absurd e z
    · obtain ⟨j, hj⟩ := List.getElem?_of_mem hz
      have q := xo.ce j z.1 z.2 hj e2
      rw [e1] at q
      exact q
  · rcases h5 y hy with z | z
    · exact absurd e (by
        have z' := z
        simp only [Bool.or_eq_false_iff, decide_eq_false_iff_not] at z'
        rintro (q | q)
        · exact z'.1 q
        · exact z'.2 q)
    · exact z
theorem lookup_relS_free {sc : Scope} : ∀ {names : List (Str × NameKind)} {x : Str}, names.lookup x = some .free →
    (names.map fun (n, k) => if (k == NameKind.free && sc.kind == .function && sc.names.lookup n == some .cell) then (n, NameKind.cell) else (n, k)).lookup x = some .free ∨
    (names.map fun (n, k) => if (k == NameKind.free && sc.kind == .function && sc.names.lookup n == some .cell) then (n, NameKind.cell) else (n, k)).lookup x = some .cell
  | [], x, h => by simp at h
  | (n, k₀) :: r, x, h => by
    have ih := @lookup_relS_free sc r x
    show List.lookup x ((if (k₀ == NameKind.free && sc.kind == .function && sc.names.lookup n == some .cell) = true then (n, NameKind.cell) else (n, k₀)) :: (r.map _)) = some .free ∨ List.lookup x ((if (k₀ == NameKind.free && sc.kind == .function && sc.names.lookup n == some .cell) = true then (n, NameKind.cell) else (n, k₀)) :: (r.map _)) = some .cell
    cases hx : x == n with
    | true =>
      simp only [List.lookup_cons, hx] at h
      cases h
      by_cases hc : (NameKind.free == NameKind.free && sc.kind == .function && sc.names.lookup n == some .cell) = true
      · rw [if_pos hc]; simp only [List.lookup_cons, hx]; simp
      · rw [if_neg hc]; simp only [List.lookup_cons, hx]; simp
    | false =>
      simp only [List.lookup_cons, hx] at h
      by_cases hc : (k₀ == NameKind.free && sc.kind == .function && sc.names.lookup n == some .cell) = true
      · rw [if_pos hc]; simp only [List.lookup_cons, hx]; exact ih h
      · rw [if_neg hc]; simp only [List.lookup_cons, hx]; exact ih h
theorem xo_blk (xo : XOk X N sc B k) (h : blkB N sc scope own = true) (s : Shared) (H : Hp) (C : Addr) (cl : List (Str × Addr)) (fp : List Addr) : XOk (X.blk s H scope (compEnvC scope cl C X.env) fp) N scope B k := by
  obtain ⟨ok, hd⟩ := blkB_ok xo h
  have rl : (compEnvC scope cl C X.env).scope = relS scope X.env.scope := rfl
  have keep : ∀ (x : Str) (kd : NameKind), kd ≠ .free → scope.names.lookup x = some kd → (compEnvC scope cl C X.env).scope.names.lookup x = some kd := fun x kd hk e => by
    rw [rl]
    exact lookup_relS_keep hk e
  have free : ∀ (x : Str), scope.names.lookup x = some .free → (compEnvC scope cl C X.env).scope.names.lookup x = some .free ∨ (compEnvC scope cl C X.env).scope.names.lookup x = some .cell := fun x e => by
    rw [rl]
    exact lookup_relS_free e
  refine ⟨xo.nN, fun j x kd e => hd _ (List.mem_of_getElem? e), fun j x kd e hk => ?_, fun j x e => ?_, fun j x kd e hk => ?_, fun j x kd e hk => ?_, xo.nd, xo.fr, xo.room, xo.calm⟩
  · have q := ok.uniq _ (List.mem_of_getElem? e)
    cases kd with
    | «local» => exact .inl (keep x _ (by decide) q)
    | cell => exact .inr (.inl (keep x _ (by decide) q))
    | free => exact (free x q).elim (fun z => .inr (.inr z)) fun z => .inr (.inl z)
    | _ => cases hk
  · exact keep x _ (by decide) (ok.uniq _ (List.mem_of_getElem? e))
  · have q := ok.uniq _ (List.mem_of_getElem? e)
    cases kd with
    | «local» => exact ⟨.inl (keep x _ (by decide) q), .inr (keep x _ (by decide) q)⟩
    | cell =>
      refine ⟨.inr (keep x _ (by decide) q), .inl ?_⟩
      show (scope.names.lookup x == some .cell) = true
      rw [show scope.names.lookup x = some .cell from q] <;> rfl
    | _ => cases hk
  · have q := ok.uniq _ (List.mem_of_getElem? e)
    rcases hk with rfl | rfl
    · exact .inl (keep x _ (by decide) q)
    · exact (free x q).elim .inr .inl
end
section
variable {X : Cx} {Γ : Ctx} {os : Os}
def bestTs (X : Cx) (ifs : List Expr) : TT := fun σ H Q => ∃ t, PTs X ifs t ∧ t σ H Q
def RTs (X : Cx) (Γ : Ctx) (os : Os) (ifs : List Expr) (m : SM (OT os) Bool) : Prop :=
  ∀ (σ : L2.St) (F M R H : Hp) (o : OT os) (W : WX) (Q : Bool → Hp → Prop), Takes X W → CtxOk Γ σ F → OwnOk os o σ F M R → Good F M H →
    Want (m o) (NormT os σ F R Q) (ExcE X os σ F R W) → bestTs X ifs σ H Q
theorem rts_nil : RTs X Γ os [] (SM.ret true) := fun σ F M R H o W Q tk c w g q => ⟨_, pts_nil, q F M H (.refl F) w g⟩
theorem rts_one {e : Expr} {m : SM (OT os) Bool} (h : RT X Γ os e m) : RTs X Γ os [e] m := fun σ F M R H o W Q tk c w g q => ⟨_, pts_one (pt_best X e), h σ F M R H o W Q tk c w g q⟩
/-- one turn after another; what raises is left out -/
def noX {O A : Type} (m : SM O A) : SM O A := fun o => match m o with
  | some (.ok x, o) => some (.ok x, o)
  | _ => none
def mapS {O A C : Type} (mt : A → SM O Bool) (me : A → SM O C) : List A → SM O (List C)
  | [] => SM.ret []
  | x :: xs => SM.bind (noX (mt x)) fun b => if b = true then SM.bind (noX (me x)) fun y => SM.bind (mapS mt me xs) fun ys => SM.ret (y :: ys) else mapS mt me xs
def wipeC (Γ : Ctx) : List Nat → Ctx
  | [] => Γ
  | i :: r => (wipeC Γ r).set i none
theorem CtxOk.wipe {σ : L2.St} {F : Hp} (h : CtxOk Γ σ F) : ∀ vs : List Nat, CtxOk (wipeC Γ vs) (wipe σ vs) F
  | [] => h
  | i :: r => (CtxOk.wipe h r).out
theorem wipe_ne {σ : L2.St} {i : Nat} : ∀ {vs : List Nat}, i ∉ vs → (wipe σ vs)[i]? = σ[i]?
  | [], _ => rfl
  | v :: vs, h => by
    unfold wipe
    rw [List.getElem?_set_ne fun e => h (by rw [e]; exact List.mem_cons_self)]
    exact wipe_ne fun e => h (List.mem_cons_of_mem _ e)
theorem wipe_in {σ : L2.St} {i : Nat} : ∀ {vs : List Nat}, i ∈ vs → i < σ.length → (wipe σ vs)[i]? = some none
  | [], h, _ => by cases h
  | v :: vs, h, l => by
    unfold wipe
    by_cases e : v = i
    · subst e
      exact List.getElem?_set_self (by rw [wipe_length]; exact l)
    · rw [List.getElem?_set_ne e]
      refine wipe_in ?_ l
      rcases List.mem_cons.mp h with z | z
      · exact absurd z.symm e
      · exact z
theorem wipe_same {σ σ2 : L2.St} {vs kp : List Nat} {n : Nat} (hl : σ.length = n) (h : (List.range n).all (fun i => vs.contains i || kp.contains i) = true) (k : Keep kp (wipe σ vs) σ2) : wipe σ2 vs = wipe σ vs := by
  have l2 : σ2.length = σ.length := k.1.trans (wipe_length _ _)
  apply List.ext_getElem?
  intro i
  by_cases hi : i < n
  · by_cases hv : i ∈ vs
    · rw [wipe_in hv (by rw [l2, hl]; exact hi), wipe_in hv (by rw [hl]; exact hi)]
    · have z := List.all_eq_true.mp h i (List.mem_range.mpr hi)
      simp only [Bool.or_eq_true, List.contains_iff_mem] at z
      rw [wipe_ne hv]
      exact k.2 i (z.resolve_left hv)
  · rw [List.getElem?_eq_none (by rw [wipe_length, l2, hl]; omega), List.getElem?_eq_none (by rw [wipe_length, hl]; omega)]
/-- ours besides -/
theorem Sep.swap {A B C D E : Hp} (s : Sep A B C) (t : Sep D C E) : ∃ G, Sep D B G ∧ Sep A G E := s.assoc t

variable {N : List Str} {sc scope : Scope} {B : List Str} {k : Nat} {pos : Pos} {t u : Ty} {elt tg iter : Expr} {ifs : List Expr}
/-- [elt for tg in iter if ..] -/
theorem re_lc {Lks : Md → Prop} (lks : Lks X.md) (xo : XOk X N sc B k) (own : List (Str × Nat)) (kp : List Nat) {mi : SM (OT os) (List t.A)} {Γx : t.A → Ctx} {mt : t.A → SM (OT os) Bool} {me : t.A → SM (OT os) u.A} (iu : Imm u)
    (hi : RI X Γ os tg iter t mi)
    (hg : ∀ X', XOk X' N scope B k → RG X' kp (wipeC Γ (own.map (·.2))) os tg t Γx)
    (ht : ∀ X', Lks X'.md → XOk X' N scope B k → ∀ x, RTs X' (Γx x) os ifs (mt x))
    (he : ∀ X', Lks X'.md → XOk X' N scope B k → ∀ x, RE X' (Γx x) os elt u (me x))
    (hb : blkB N sc scope own = true := by decide +kernel) (hkp : (List.range Γ.length).all (fun i => (own.map (·.2)).contains i || kp.contains i) = true := by rfl)
    (ho : (own.all fun p => noSlot p.2 os) = true := by rfl)
    (hs : ∀ x, foldedSetIterable iter X.env x = pure x := by intro _; rfl) :
    RE X Γ os (.ListComp elt [⟨tg, iter, ifs, 0⟩] scope pos) (tOwn u) (SM.bind mi fun xs => if xs.length ≤ sizeLine then mapS mt me xs else SM.fail) := by
  intro σ F M R H o W Q tk c w g q
  obtain ⟨ok, _⟩ := blkB_ok xo hb
  -- the family of the blocks' contexts
  let Fam : Cx → Prop := fun X' => ∃ s H C cl fp, X' = X.blk s H scope (compEnvC scope cl C X.env) fp
  have fo : ∀ X', Fam X' → XOk X' N scope B k := by rintro _ ⟨s, H, C, cl, fp, rfl⟩; exact xo_blk xo hb s H C cl fp
  have fl : ∀ X', Fam X' → Lks X'.md := by rintro _ ⟨s, H, C, cl, fp, rfl⟩; exact lks
  have ft : ∀ X', Fam X' → Takes X' (fun _ _ _ _ => False) := by
    rintro _ ⟨s, H, C, cl, fp, rfl⟩ u s' ⟨a, B, sI, pins, σ, H, cls, d, e, I, nb, up, sky, na, os, ag, w⟩
    exact w.elim
  let gg : TG := fun v σ H K => ∀ X', Fam X' → ∃ g', PG X' tg g' ∧ g' v σ H K
  let tt : TT := fun σ H Q => ∀ X', Fam X' → bestTs X' ifs σ H Q
  let te : TE := fun σ H Q => ∀ X', Fam X' → best X' elt σ H Q
  have pg : ∀ (s : Shared) (H : Hp) (C : Addr) (cl : List (Str × Addr)) (fp : List Addr), PG (X.blk s H scope (compEnvC scope cl C X.env) fp) tg gg := fun s H C cl fp =>
    ⟨fun pins s1 σ H1 v u Q I r h => by obtain ⟨g', p, z⟩ := h _ ⟨s, H, C, cl, fp, rfl⟩; exact p.run pins s1 σ H1 v u Q I r z⟩
  have pt : ∀ (s : Shared) (H : Hp) (C : Addr) (cl : List (Str × Addr)) (fp : List Addr), PTs (X.blk s H scope (compEnvC scope cl C X.env) fp) ifs tt := fun s H C cl fp =>
    ⟨fun pins s1 σ H1 Q I h => by obtain ⟨g', p, z⟩ := h _ ⟨s, H, C, cl, fp, rfl⟩; exact p.run pins s1 σ H1 Q I z⟩
  have pe : ∀ (s : Shared) (H : Hp) (C : Addr) (cl : List (Str × Addr)) (fp : List Addr), PE (X.blk s H scope (compEnvC scope cl C X.env) fp) elt te := fun s H C cl fp =>
    ⟨fun pins s1 σ H1 Q I h => by obtain ⟨g', p, z⟩ := h _ ⟨s, H, C, cl, fp, rfl⟩; exact p.run pins s1 σ H1 Q I z⟩
  refine ⟨_, pe_lc xo.calm xo.nd (pi_best X tg iter) ok pg pt pe hs, ?_⟩
  refine hi σ F M R H o W _ tk c w g (q.bind.imp (fun xs o1 z => ?_) fun _ _ z => z)
  intro J F1 M1 H1 s1 w1 g1 y1 D hD
  by_cases hlen : xs.length ≤ sizeLine
  · rw [if_pos hlen] at z
    have hsl : ∀ (σ2 : L2.St), (∀ i, i ∉ own.map (·.2) → σ2[i]? = σ[i]?) → ∀ p ∈ os, σ2[p.1]? = σ[p.1]? := fun σ2 h p hp => h p.1 fun hm => by
      obtain ⟨y, hy, e⟩ := List.mem_map.mp hm
      exact noSlot_ne (List.all_eq_true.mp ho y hy) p hp e.symm
    refine ⟨fun i m H2 => m = xs.length - i ∧ i ≤ xs.length ∧ ∃ accx acc o2 F2 M0 M2, Sub F1 F2 ∧ OwnOk os o2 σ F2 M0 R ∧ Sep (sing D (.lst acc)) M0 M2 ∧ Good F2 M2 H2 ∧ AllR u accx acc F2 ∧ acc.length ≤ i ∧
      Want (mapS mt me (xs.drop i) o2) (fun ys o => NormE os (tOwn u) σ F2 R Q (accx ++ ys) o) (ExcE X os σ F2 R W), ?_, ?_⟩
    · obtain ⟨g2, s2⟩ := g1.newM (o := .lst []) hD
      exact ⟨_, rfl, Nat.zero_le _, [], [], o1, F1, M1, _, .refl _, w1, s2, g2, rfl, Nat.le_refl _, z.imp (fun ys o2 y => y.mono s1) fun _ _ y => y.mono s1⟩
    · rintro i m H2 ⟨rfl, hi2, accx, acc, o2, F2, M0, M2, s2, w2, p2, g2, r2, l2, q2⟩
      obtain ⟨st, go⟩ := y1 F2 M2 H2 s2 g2 i
      by_cases hlt : i < xs.length
      · have hx : xs[i]? = some xs[i] := List.getElem?_eq_getElem hlt
        obtain ⟨go1, go2⟩ := go xs[i] hx
        refine .inr ⟨go1, fun H3 => i + 1 ≤ xs.length ∧ ∃ accx acc o2 F2 M0 M2, Sub F1 F2 ∧ OwnOk os o2 σ F2 M0 R ∧ Sep (sing D (.lst acc)) M0 M2 ∧ Good F2 M2 H3 ∧ AllR u accx acc F2 ∧ acc.length ≤ i + 1 ∧
          Want (mapS mt me (xs.drop (i + 1)) o2) (fun ys o => NormE os (tOwn u) σ F2 R Q (accx ++ ys) o) (ExcE X os σ F2 R W), fun H3 h => ⟨xs.length - (i + 1), by omega, rfl, h.1, h.2⟩, fun v H3 hy => ?_⟩
        obtain ⟨F3, s3, g3, r3⟩ := go2 v H3 hy
        intro X' fam
        obtain ⟨g', pg', hg'⟩ := hg X' (fo X' fam)
        have cw : CtxOk (wipeC Γ (own.map (·.2))) (wipe σ (own.map (·.2))) F3 := (c.mono ((s1.trans s2).trans s3)).wipe _
        obtain ⟨R2, pR, w3⟩ := (w2.mono s3).frame p2
        have w4 : OwnOk os o2 (wipe σ (own.map (·.2))) F3 M2 R2 := w3.slots (hsl _ fun i hi => wipe_ne hi)
        refine ⟨g', pg', hg' _ F3 M2 R2 H3 o2 xs[i] v _ cw w4 g3 r3 fun σ4 k4 c4 w5 => ?_⟩
        have ew : wipe σ4 (own.map (·.2)) = wipe σ (own.map (·.2)) := wipe_same c.1.symm hkp k4
        have es : ∀ i, i ∉ own.map (·.2) → σ4[i]? = σ[i]? := fun i hi => by
          have z1 := wipe_ne (σ := σ4) hi
          rw [ew, wipe_ne hi] at z1
          exact z1.symm
        refine ⟨ew, fun X2 fam2 => ?_⟩
        have q3 : Want (mapS mt me (xs.drop i) o2) (fun ys o => NormE os (tOwn u) σ F2 R Q (accx ++ ys) o) (ExcE X os σ F2 R W) := q2
        rw [List.drop_eq_getElem_cons hlt] at q3
        have q4 := (show Want (SM.bind (noX (mt xs[i])) _ o2) _ _ from q3).bind
        refine ht X2 (fl X2 fam2) (fo X2 fam2) xs[i] σ4 F3 M2 R2 H3 o2 _ _ (ft X2 fam2) c4 w5 g3 ?_
        unfold noX at q4
        cases et : mt xs[i] o2 with
        | none => rw [et] at q4; exact q4
        | some rt =>
          obtain ⟨rt, o3⟩ := rt
          rw [et] at q4
          cases rt with
          | error ex => exact q4.elim
          | ok b =>
            intro F4 M4 H4 s4 w6 g4
            have w7 := w6.slots (fun p hp => (hsl σ4 es p hp).symm)
            cases b with
            | false =>
              obtain ⟨M5, p5, w8⟩ := OwnOk.unframe w7 pR
              exact ⟨hlt, accx, acc, o3, F4, M5, M4, (s2.trans s3).trans s4, w8, p5, g4, r2.mono (s3.trans s4), Nat.le_succ_of_le l2, (show Want (mapS mt me (xs.drop (i + 1)) o3) _ _ from q4).imp (fun ys o y => y.mono (s3.trans s4)) fun _ _ y => y.mono (s3.trans s4)⟩
            | true =>
              intro X3 fam3
              have q5 := (show Want (SM.bind (noX (me xs[i])) _ o3) _ _ from q4).bind
              refine he X3 (fl X3 fam3) (fo X3 fam3) xs[i] σ4 F4 M4 R2 H4 o3 _ _ (ft X3 fam3) (c4.mono s4) w6 g4 ?_
              unfold noX at q5
              cases ee : me xs[i] o3 with
              | none => rw [ee] at q5; exact q5
              | some re =>
                obtain ⟨re, o4⟩ := re
                rw [ee] at q5
                cases re with
                | error ex => exact q5.elim
                | ok y =>
                  intro v' F5 M5 mm M5' H5 s5 w8 p8 g5 r5
                  have e := iu r5; subst e
                  have e := p8.emp_l; subst e
                  have w9 := w8.slots (fun p hp => (hsl σ4 es p hp).symm)
                  obtain ⟨M6, p6, w10⟩ := OwnOk.unframe w9 pR
                  have hDm : H5 D = some (.lst acc) := g5.m _ _ (p6.l _ _ sing_same)
                  refine ⟨acc, hDm, Nat.lt_of_le_of_lt l2 (Nat.lt_of_lt_of_le hlt hlen), ?_⟩
                  obtain ⟨M7, p7, g7⟩ := g5.set (o' := .lst (acc ++ [v'])) p6
                  refine ⟨hlt, accx ++ [y], acc ++ [v'], o4, F5, M6, M7, ((s2.trans s3).trans s4).trans s5, w10, p7, g7, (r2.mono ((s3.trans s4).trans s5)).snoc r5, by rw [List.length_append]; exact Nat.succ_le_succ l2, ?_⟩
                  refine (show Want (SM.bind (mapS mt me (xs.drop (i + 1))) _ o4) _ _ from q5).bind.imp (fun ys o y => ?_) fun _ _ y => y.mono ((s3.trans s4).trans s5)
                  rw [List.append_assoc]
                  exact NormE.mono (show NormE os (tOwn u) σ F2 R Q _ o from y) ((s3.trans s4).trans s5)
      · have e : i = xs.length := by omega
        subst e
        rw [List.drop_length] at q2
        have q3 : NormE os (tOwn u) σ F2 R Q (accx ++ []) o2 := q2
        rw [List.append_nil] at q3
        exact .inl ⟨st (Nat.le_refl _), q3 (.ref D) F2 M0 _ M2 H2 (.refl _) w2 p2 g2 ⟨D, acc, rfl, rfl, r2⟩⟩
  · rw [if_neg hlen] at z; exact z.elim
end
end Mi

namespace Mi
open PySem PySem.Spec PyProof.Rows L2
theorem im_dat : Imm tDat := fun a => a.1
theorem boot_isi : bootBuiltins "isinstance" = some (.builtin "isinstance") := by decide +kernel
theorem boot_str : bootBuiltins "str" = some (.type "str") := by decide +kernel
theorem boot_repr : bootBuiltins "repr" = some (.builtin "repr") := by decide +kernel
theorem boot_list : bootBuiltins "list" = some (.type "list") := by decide +kernel
theorem boot_sorted : bootBuiltins "sorted" = some (.builtin "sorted") := by decide +kernel
theorem boot_all : bootBuiltins "all" = some (.builtin "all") := by decide +kernel
section
variable {X : Cx} {N : List Str} {sc : Scope} {B : List Str} {k : Nat} {Γ : Ctx} {os : Os} {pos p p2 p3 cpos apos : Pos} {e a b : Expr} {es rest : List Expr} {t u : Ty}
/-- another reading of the slots -/
theorem re_ctx {Γ' : Ctx} {m : SM (OT os) t.A} (h : RE X Γ' os e t m) (hc : ∀ σ F, CtxOk Γ σ F → CtxOk Γ' σ F) : RE X Γ os e t m := fun σ F M R H o W Q tk c w g q => h σ F M R H o W Q tk (hc σ F c) w g q
theorem rw_ctx {Γ' : Ctx} {m : SM (OT os) Bool} (h : RW X Γ' os e m) (hc : ∀ σ F, CtxOk Γ σ F → CtxOk Γ' σ F) : RW X Γ os e m := fun σ F M R H o W Q tk c w g q => h σ F M R H o W Q tk (hc σ F c) w g q
theorem ctx_cv {i : Nat} {x : t.A} {f : u.A} (hΓ : Γ[i]? = some (some ⟨t, x⟩)) (hc : ∀ v F, t.rep x v F emp → u.rep f v F emp) : ∀ σ F, CtxOk Γ σ F → CtxOk (Γ.set i (some ⟨u, f⟩)) σ F := by
  intro σ F c
  obtain ⟨v, e, r⟩ := c.2 i t x hΓ
  have c3 := c.set (i := i) (t := u) (x := f) (v := v) (hc v F r)
  have e3 : σ.set i (some v) = σ := by
    apply List.ext_getElem?
    intro j
    by_cases hj : j = i
    · subst hj
      have hl : j < σ.length := (List.getElem?_eq_some_iff.mp e).1
      rw [List.getElem?_set_self hl, e]
    · rw [List.getElem?_set_ne (Ne.symm hj)]
  rw [e3] at c3
  exact c3
/-! ### isinstance(x, str) -/
def isStr : Dat → Bool
  | .str _ => true
  | _ => false
theorem kit_str : kitB "str" "str" = some true ∧ kitB "int" "str" = some false ∧ kitB "bool" "str" = some false ∧ kitB "NoneType" "str" = some false ∧ kitB "list" "str" = some false ∧ kitB "tuple" "str" = some false ∧ kitB "dict" "str" = some false := by decide +kernel
theorem dat_isi {K : PySem.W.Frag} {x : Dat} {v : V} {F M H : Hp} (r : DRep x v F) (g : Good F M H) : ∃ t, TyX K H v t ∧ PySem.W.kitOne K t (.type "str") = some (isStr x) := by
  obtain ⟨k1, k2, k3, k4, k5, k6, k7⟩ := kit_str
  cases x with
  | non => unfold DRep at r; subst r; exact ⟨_, .base .non, kit_ty k4⟩
  | bl b => unfold DRep at r; subst r; exact ⟨_, .base (.bl b), kit_ty k3⟩
  | int i => unfold DRep at r; subst r; exact ⟨_, .base (.int i), kit_ty k2⟩
  | str s => unfold DRep at r; subst r; exact ⟨_, .base (.str _), kit_ty k1⟩
  | lst xs => unfold DRep at r; obtain ⟨a, vs, e, q, _⟩ := r; subst e; exact ⟨_, .base (.lst (g.f _ _ q)), kit_ty k5⟩
  | tup xs => unfold DRep at r; obtain ⟨a, vs, e, q, _⟩ := r; subst e; exact ⟨_, .base (.tup (g.f _ _ q)), kit_ty k6⟩
  | dct ks xs => unfold DRep at r; obtain ⟨a, o, vs, e, q, _⟩ := r; subst e; exact ⟨_, .fDict (g.f _ _ q), kit_ty k7⟩
  | opq =>
    unfold DRep at r
    obtain ⟨a, e, q⟩ := r
    subst e
    rcases q with ⟨xs, z⟩ | ⟨xs, z⟩ | ⟨xs, z⟩
    · exact ⟨_, .base (.lst (g.f _ _ z)), kit_ty k5⟩
    · exact ⟨_, .base (.tup (g.f _ _ z)), kit_ty k6⟩
    · exact ⟨_, .base (.dK (g.f _ _ z)), kit_ty k7⟩
theorem re_isi (xo : XOk X N sc B k) (ga ma g2 m2 : Nat) {m : SM (OT os) Dat} (h : RE X Γ os e tDat m) (hg : sc.names[ga]? = some (gI "isinstance") := by rfl) (hm : B[ma]? = some "isinstance" := by rfl) (hg2 : sc.names[g2]? = some (gI "str") := by rfl) (hm2 : B[m2]? = some "str" := by rfl)
    (he : starEach [e, .Name "str" p2] X.env = (false, eval e X.env) :: starEach [.Name "str" p2] X.env := by rfl) (he2 : starEach [.Name "str" p2] X.env = (false, eval (.Name "str" p2) X.env) :: starEach [] X.env := by rfl) (hpl : (backTo pos (starEach [.Name "str" p2] X.env)).any (·.1) = false := by rfl) :
    RE X Γ os (.Call (.Name "isinstance" p) [e, .Name "str" p2] [] pos) tBool (SM.bind m fun x => SM.ret (isStr x)) := by
  intro σ F M R H o W Q tk c w g q
  refine ⟨_, pe_callB call_isi (xo.gl ga _ hg) (xo.fr ma _ hm) boot_isi (pa_cons (pe_best X e) (pa_cons (pe_bltn (v := .ty "str") (xo.gl g2 _ hg2) (xo.fr m2 _ hm2) boot_str rfl) pa_nil he2) he) (by decide) (by decide) he hpl, ?_⟩
  refine one_end im_dat h tk c w g q fun x o2 v F2 M2 H2 h2 s2 w2 g2 r2 => ?_
  obtain ⟨t, ty, kit⟩ := dat_isi (K := X.K) r2.2 g2
  exact ⟨v, .ty "str", t, .type "str", isStr x, rfl, .ty "str", ty, kit, end_flat (g := V.bl) (show NormE os tBool σ F R Q (isStr x) o2 from h2) s2 w2 g2⟩
theorem cv_strD : Cv tStr tDat Dat.str := fun h => ⟨h.1, by unfold DRep; exact h.2⟩
theorem cv_chrD : Cv tChr tDat (fun c => Dat.str [c]) := fun h => ⟨h.1, by unfold DRep; exact h.2⟩
theorem cv_intD : Cv tInt tDat Dat.int := fun h => ⟨h.1, by unfold DRep; exact h.2⟩
theorem cv_boolD : Cv tBool tDat Dat.bl := fun h => ⟨h.1, by unfold DRep; exact h.2⟩
theorem cv_nonD : Cv tNone tDat (fun _ => Dat.non) := fun h => ⟨h.1, by unfold DRep; exact h.2⟩
theorem cv_lstO : Cv (tLst t) tDat (fun _ => Dat.opq) := fun h => ⟨h.1, by unfold DRep; obtain ⟨_, a, vs, e, q, _⟩ := h; exact ⟨a, e, .inl ⟨vs, q⟩⟩⟩
theorem cv_tupO {ts : List Ty} : Cv (tTup ts) tDat (fun _ => Dat.opq) := fun h => ⟨h.1, by unfold DRep; obtain ⟨_, a, vs, e, q, _⟩ := h; exact ⟨a, e, .inr (.inl ⟨vs, q⟩)⟩⟩
/-- isinstance(x, str) and .. -/
def Dat.asStr {A : Type} (x : Dat) (n : List Nat → A) (d : A) : A := match x with
  | .str s => n s
  | _ => d
theorem ctx_asStr {i : Nat} {s : List Nat} (hΓ : Γ[i]? = some (some ⟨tDat, Dat.str s⟩)) : ∀ σ F, CtxOk Γ σ F → CtxOk (Γ.set i (some ⟨tStr, s⟩)) σ F := ctx_cv (u := tStr) (f := s) hΓ fun v F h => ⟨rfl, by have z := h.2; unfold DRep at z; exact z⟩
theorem re_andIsi (xo : XOk X N sc B k) (i j ga ma g2 m2 : Nat) {nm : Str} {kd : NameKind} {x : Dat} {n : List Nat → SM (OT os) Bool} (hb : ∀ s, RE X (Γ.set i (some ⟨tStr, s⟩)) os (.BoolOp .And (b :: rest) pos) tBool (n s))
    (hj : sc.names[j]? = some (nm, kd) := by rfl) (hk : visK kd = true := by rfl) (hN : N[i]? = some nm := by rfl) (hΓ : Γ[i]? = some (some ⟨tDat, x⟩) := by rfl)
    (hg : sc.names[ga]? = some (gI "isinstance") := by rfl) (hm : B[ma]? = some "isinstance" := by rfl) (hg2 : sc.names[g2]? = some (gI "str") := by rfl) (hm2 : B[m2]? = some "str" := by rfl) :
    RE X Γ os (.BoolOp .And (.Call (.Name "isinstance" p) [.Name nm p3, .Name "str" p2] [] cpos :: b :: rest) pos) tBool (Dat.asStr x n (SM.ret false)) := by
  have h0 : RE X Γ os (.Call (.Name "isinstance" p) [.Name nm p3, .Name "str" p2] [] cpos) tBool _ := re_isi xo ga ma g2 m2 (re_var xo i j hj hk hN hΓ) hg hm hg2 hm2 (by rfl) (by rfl) (by rfl)
  intro σ F M R H o W Q tk c w g q
  refine ⟨_, L2.pe_and (pe_best X _) (pe_best X _), h0 σ F M R H o W _ tk c w g ?_⟩
  show NormE os tBool σ F R _ (isStr x) o
  intro v F' M1 mm M' H' s w' p' g' ⟨e1, r1⟩
  subst e1
  have e := p'.emp_l; subst e
  refine ⟨isStr x, r1, ?_⟩
  cases x with
  | str z => exact hb z σ F' _ R H' o W Q tk (ctx_asStr hΓ σ F' (c.mono s)) w' g' ((show Want (n z o) _ _ from q).imp (fun x o2 z => z.mono s) fun _ _ z => z.mono s)
  | _ => exact end_flat (g := V.bl) (show NormE os tBool σ F R Q false o from q) s w' g'
theorem rw_andIsi (xo : XOk X N sc B k) (i j ga ma g2 m2 : Nat) {nm : Str} {kd : NameKind} {x : Dat} {n : List Nat → SM (OT os) Bool} (hb : ∀ s, RW X (Γ.set i (some ⟨tStr, s⟩)) os (.BoolOp .And (b :: rest) pos) (n s))
    (hj : sc.names[j]? = some (nm, kd) := by rfl) (hk : visK kd = true := by rfl) (hN : N[i]? = some nm := by rfl) (hΓ : Γ[i]? = some (some ⟨tDat, x⟩) := by rfl)
    (hg : sc.names[ga]? = some (gI "isinstance") := by rfl) (hm : B[ma]? = some "isinstance" := by rfl) (hg2 : sc.names[g2]? = some (gI "str") := by rfl) (hm2 : B[m2]? = some "str" := by rfl) :
    RW X Γ os (.BoolOp .And (.Call (.Name "isinstance" p) [.Name nm p3, .Name "str" p2] [] cpos :: b :: rest) pos) (Dat.asStr x n (SM.ret false)) := by
  have h0 : RT X Γ os (.Call (.Name "isinstance" p) [.Name nm p3, .Name "str" p2] [] cpos) _ := rt_val (re_isi xo ga ma g2 m2 (re_var xo i j hj hk hN hΓ) hg hm hg2 hm2 (by rfl) (by rfl) (by rfl)) (by intro _; rfl)
  intro σ F M R H o W Q tk c w g q
  refine ⟨_, pw_and (pt_best X _) (pw_best X _), h0 σ F M R H o W _ tk c w g ?_⟩
  change NormT os σ F R (fun c H1 => if c = true then bestW X _ σ H1 Q else Q false H1) (isStr x) o
  intro F' M' H' s w' g'
  cases x with
  | str z => exact hb z σ F' M' R H' o W Q tk (ctx_asStr hΓ σ F' (c.mono s)) w' g' ((show Want (n z o) _ _ from q).imp (fun x o2 z F2 M2 H2 s2 => z F2 M2 H2 (s.trans s2)) fun _ _ z => z.mono s)
  | _ => exact (show NormT os σ F R Q false o from q) F' M' H' s w' g'
/-- a text of the module -/
def LkC (M : Md) (nm : Str) (v : V) : Prop := ∃ u, M.mg nm = some u ∧ RelV v u
theorem re_gstr (xo : XOk X N sc B k) {nm : Str} {s : List Nat} (l : LkC X.md nm (.str (sOf s))) (ga : Nat) (hg : sc.names[ga]? = some (nm, .globalImplicit) := by rfl) : RE X Γ os (.Name nm pos) tStr (SM.ret s) := fun σ F M R H o W Q tk c w g h =>
  ⟨_, C8.pe_gc (xo.gl ga _ hg) l (xo.db ga _ _ hg).1, end_flat (g := fun l => V.str (sOf l)) h (.refl F) w g⟩
/-! ### texts: join, repr, count -/
theorem join_chr : ∀ l : List Nat, Txt.join (sOf []) (l.map fun c => sOf [c]) = sOf l := by
  intro l
  have z : (Txt.join (sOf []) (l.map fun c => sOf [c])).cps.toList = l := by
    show (Builtin.Str.glued (sOf []) (l.map fun c => sOf [c])).cps.toList = l
    cases l with
    | nil => rfl
    | cons c r =>
      show ((r.map fun c => sOf [c]).foldl (fun acc p => acc ++ (sOf []).cps ++ p.cps) (sOf [c]).cps).toList = c :: r
      rw [PySem.StrLaws.glue_fold]
      have h : ∀ r : List Nat, PySem.StrLaws.glueL (sOf []).cps.toList (r.map fun c => sOf [c]) = r := by
        intro r
        induction r with
        | nil => rfl
        | cons d r ih =>
          show [] ++ ([d] ++ PySem.StrLaws.glueL _ _) = d :: r
          rw [ih] <;> rfl
      rw [h] <;> rfl
  generalize Txt.join (sOf []) (l.map fun c => sOf [c]) = y at z
  cases y with
  | mk a => show (⟨a⟩ : Str) = ⟨l.toArray⟩; rw [← z]
theorem allR_chr {F : Hp} : ∀ {l : List Nat} {vs : List V}, AllR tChr l vs F → vs = (l.map fun c => sOf [c]).map V.str
  | [], vs, h => h
  | c :: l, _, ⟨v, r, e, q, k⟩ => by
    subst e
    rw [allR_chr k, show v = V.str (sOf [c]) from q.2] <;> rfl
theorem chr_sum : ∀ l : List Nat, ((l.map fun c => sOf [c]).map (·.length)).sum = l.length
  | [] => rfl
  | c :: l => by
    show 1 + ((l.map fun c => sOf [c]).map (·.length)).sum = l.length + 1
    rw [chr_sum l]; omega
/-- the empty text -/
abbrev tC0 : Ty := flat (List Nat) fun _ => V.str (sOf [])
theorem im_c0 : Imm tC0 := imF
theorem re_c0 {j : Nat} : RE X Γ os (.Constant (.str "") j p) tC0 (SM.ret []) := fun σ F M R H o W Q tk c w g h => ⟨_, pe_str, end_flat (g := fun _ => V.str (sOf [])) h (.refl F) w g⟩
theorem re_join0 {j : Nat} {m : SM (OT os) (List Nat)} (h : RE X Γ os e (tLst tChr) m) (hline : (apos.endLine == pos.line) = true := by rfl) (he : starEach [e] X.env = (false, eval e X.env) :: starEach [] X.env := by rfl)
    (hpl : (backTo pos (starEach [] X.env)).any (·.1) = false := by rfl)
    (hfew : ((backTo pos (starEach [e] X.env)).all (fun x => !x.1) && (backToKw pos (keywordEach [] X.env)).all (fun x => x.1.isSome)
      && decide ([e].length + ([] : List Keyword).length + (if ([] : List Keyword).isEmpty then 0 else 1) < 30)) = true := by rfl) :
    RE X Γ os (.Call (.Attribute (.Constant (.str "") j p) "join" apos) [e] [] pos) tStr (SM.bind (SM.ret ([] : List Nat)) fun _ => SM.bind (SM.bind m fun x => SM.bind (SM.ret ()) fun y => SM.ret (x, y)) fun x => SM.lift (if x.1.length ≤ 16777216 then some x.1 else none)) := by
  have hr : RA X Γ os [e] [tLst tChr] _ := ra_cons im_lst h ra_nil he
  refine re_bm (to := tC0) (ts := [tLst tChr]) (tc := tStr) (f := fun s x => if x.1.length ≤ 16777216 then some x.1 else none) F.plainAttrs_str F.slot_str_join F.type_str_join mt_join (fun r _ => by
    obtain ⟨_, e⟩ := r; subst e; rfl) (fun {x y z v vs F M H Q} e hx hy g q => ?_) im_c0 re_c0 hr rfl hline he hpl hfew
  obtain ⟨_, ea⟩ := hx
  obtain ⟨v1, us, e1, ⟨_, a, ws, ea1, fa, r⟩, e2⟩ := hy
  have e2' : us = [] := e2
  subst e2' e1 ea1 ea
  have e' : (if y.1.length ≤ 16777216 then some y.1 else none) = some z := e
  by_cases hl : y.1.length ≤ 16777216
  · rw [if_pos hl] at e'
    cases e'
    have ew := allR_chr r
    subst ew
    refine ⟨sOf [], a, y.1.map fun c => sOf [c], rfl, rfl, .inl (.inl (.inl (g.f _ _ fa))), ?_, ?_⟩
    · rw [chr_sum]; show y.1.length + _ * 0 ≤ _; omega
    · rw [join_chr]
      exact fl (gA := fun l => V.str (sOf l)) q g
  · rw [if_neg hl] at e'; cases e'
end
end Mi

namespace Mi
open PySem PySem.Spec PyProof.Rows L2
section
variable {X : Cx} {N : List Str} {sc : Scope} {B : List Str} {k : Nat} {Γ : Ctx} {os : Os} {pos p p1 p2 p3 cpos apos : Pos} {e a b : Expr} {es rest : List Expr} {t u : Ty}
/-! ### repr of a bool -/
theorem call_repr_bool : CallR X (.builtin "repr") (fun xs H Q => ∃ b, xs = [.bl b] ∧ Q (.str (if b then "True" else "False")) H) := by
  intro pins s σ H xs us Q I r h
  obtain ⟨b, rfl, q⟩ := h
  obtain ⟨u, rfl, r1⟩ := vals1 r
  have e : u = Value.bool b := r1
  subst e
  exact PySem.P.repr_of_bool ⟨.str _, H, I.tok _, ⟨_, rfl⟩, q⟩
def reprB (b : Bool) : List Nat := if b then [84, 114, 117, 101] else [70, 97, 108, 115, 101]
theorem reprB_of (b : Bool) : (if b then ("True" : Str) else "False") = sOf (reprB b) := by cases b <;> decide +kernel
theorem re_reprB (xo : XOk X N sc B k) {m : SM (OT os) (AT [tBool])} (ga ma : Nat) (ha : RA X Γ os [e] [tBool] m) (hg : sc.names[ga]? = some (gI "repr") := by rfl) (hm : B[ma]? = some "repr" := by rfl)
    (he : starEach [e] X.env = (false, eval e X.env) :: starEach [] X.env := by rfl) :
    RE X Γ os (.Call (.Name "repr" p) [e] [] pos) tStr (SM.bind m fun x => SM.lift (some (reprB x.1))) := by
  refine re_callB (ts := [tBool]) (tc := tStr) (f := fun x => some (reprB x.1)) call_repr_bool (fun {x z vs F M H Q} e h g q => ?_) (xo.gl ga _ hg) (xo.fr ma _ hm) boot_repr ha (by decide) (by decide) he rfl
  obtain ⟨v, us, e1, ⟨_, ev⟩, e2⟩ := h
  cases e
  have e2' : us = [] := e2
  have ev' : v = V.bl x.1 := ev
  subst e2' e1 ev'
  refine ⟨x.1, rfl, ?_⟩
  rw [reprB_of]
  exact fl (gA := fun l => V.str (sOf l)) q g
/-! ### list(text) -/
theorem call_list_str1 (hc : X.calm = true) : CallR X (.type "list") (fun xs H Q => ∃ l : List Nat, xs = [.str (sOf l)] ∧ l.length ≤ sizeLine ∧ ∀ p, H p = none → Q (.ref p) (upd H p (.lst (l.map fun c => V.str (sOf [c]))))) := by
  intro pins s σ H xs us Q I r h
  obtain ⟨l, rfl, hl, q⟩ := h
  obtain ⟨u, rfl, t, rfl⟩ := vals1 r
  refine PySem.call_list_str (I.ok.hd hc) (sOf l) t (hn := by show l.toArray.size ≤ _; simpa using hl) fun h' tk acc' c' hk hS' hacc => ?_
  have hv : Vals (l.map fun c => V.str (sOf [c])) acc'.toList := by
    have hsz : acc'.size = l.length := by
      have z := hacc.1
      rw [z]; show l.toArray.size = _; simp
    have key : ∀ (n : Nat) (xs : List Nat) (vs : List Value), (∀ j, j < xs.length → ∃ c u, xs[j]? = some c ∧ vs[j]? = some (.str ⟨#[c]⟩ u)) → vs.length = xs.length → Vals (xs.map fun c => V.str (sOf [c])) vs := by
      intro n xs
      induction xs with
      | nil => intro vs _ h; cases vs with
        | nil => exact .nil
        | cons _ _ => cases h
      | cons c xs ih => intro vs h hlen; cases vs with
        | nil => cases hlen
        | cons v vs =>
          obtain ⟨c', u, e1, e2⟩ := h 0 (by simp)
          simp at e1 e2
          subst e1 e2
          exact .cons ⟨u, rfl⟩ (ih vs (fun j hj => by have z := h (j + 1) (by simpa using hj); simpa using z) (by simpa using hlen))
    refine key 0 l acc'.toList (fun j hj => ?_) (by simp [hsz])
    have hj' : j < acc'.size := by rw [hsz]; exact hj
    obtain ⟨c, u, hc, e⟩ := hacc.2 j acc'[j] (Array.getElem?_eq_getElem hj')
    refine ⟨c, u, ?_, ?_⟩
    · have z : l.toArray[j]? = some c := hc
      simpa using z
    · rw [← e]; simp [hj']
  refine ⟨.ref s.heap.objs.size, _, I.laid (t' := tk) hk (Nat.le_refl _) (o := .lst (l.map fun c => V.str (sOf [c]))) ⟨by simpa using hl, acc'.toList, c', hv, by simpa using hS'⟩, rfl, q _ (I.hok.fresh (Nat.le_refl _))⟩
theorem allR_of_chr {F : Hp} : ∀ l : List Nat, AllR tChr l (l.map fun c => V.str (sOf [c])) F
  | [] => rfl
  | c :: l => ⟨_, _, rfl, ⟨rfl, rfl⟩, allR_of_chr l⟩
theorem re_listS (xo : XOk X N sc B k) {m : SM (OT os) (AT [tStr])} (ga ma : Nat) (ha : RA X Γ os [e] [tStr] m) (hg : sc.names[ga]? = some (gI "list") := by rfl) (hm : B[ma]? = some "list" := by rfl)
    (he : starEach [e] X.env = (false, eval e X.env) :: starEach [] X.env := by rfl) :
    RE X Γ os (.Call (.Name "list" p) [e] [] pos) (tOwn tChr) (SM.bind m fun x => SM.lift (if x.1.length ≤ sizeLine then some x.1 else none)) := by
  refine re_callTy (ts := [tStr]) (tc := tOwn tChr) (f := fun x => if x.1.length ≤ sizeLine then some x.1 else none) (call_list_str1 xo.calm) (fun {x z vs F M H Q} e h g q => ?_) (xo.gl ga _ hg) (xo.fr ma _ hm) boot_list ha (by decide) (by decide) he rfl
  obtain ⟨v, us, e1, ⟨_, ev⟩, e2⟩ := h
  have e2' : us = [] := e2
  have ev' : v = V.str (sOf x.1) := ev
  subst e2' e1 ev'
  have e' : (if x.1.length ≤ sizeLine then some x.1 else none) = some z := e
  by_cases hl : x.1.length ≤ sizeLine
  · rw [if_pos hl] at e'
    cases e'
    refine ⟨x.1, rfl, hl, fun p hp => ?_⟩
    obtain ⟨g2, s2⟩ := g.newM (o := .lst (x.1.map fun c => V.str (sOf [c]))) hp
    exact q (.ref p) F _ _ _ (.refl F) s2 g2 ⟨p, _, rfl, rfl, allR_of_chr x.1⟩
  · rw [if_neg hl] at e'; cases e'
/-! ### sorted(a list of signs) -/
def insC (c : Nat) : List Nat → List Nat
  | [] => [c]
  | d :: r => if c ≤ d then c :: d :: r else d :: insC c r
def sortC : List Nat → List Nat
  | [] => []
  | c :: r => insC c (sortC r)
theorem insC_perm (c : Nat) : ∀ l, (insC c l).Perm (c :: l)
  | [] => .refl _
  | d :: r => by
    unfold insC
    split
    · exact .refl _
    · exact ((insC_perm c r).cons d).trans (.swap c d r)
theorem sortC_perm : ∀ l, (sortC l).Perm l
  | [] => .refl _
  | c :: r => (insC_perm c _).trans ((sortC_perm r).cons c)
theorem insC_sorted (c : Nat) : ∀ l : List Nat, l.Pairwise (· ≤ ·) → (insC c l).Pairwise (· ≤ ·)
  | [], _ => by unfold insC; simp
  | d :: r, h => by
    have h' := List.pairwise_cons.mp h
    unfold insC
    split
    · rename_i hc
      refine List.pairwise_cons.mpr ⟨fun x hx => ?_, h⟩
      rcases List.mem_cons.mp hx with rfl | z
      · exact hc
      · exact Nat.le_trans hc (h'.1 x z)
    · rename_i hc
      refine List.pairwise_cons.mpr ⟨fun x hx => ?_, insC_sorted c r h'.2⟩
      rcases List.mem_cons.mp ((insC_perm c r).mem_iff.mp hx) with rfl | z
      · omega
      · exact h'.1 x z
theorem sortC_sorted : ∀ l, (sortC l).Pairwise (· ≤ ·)
  | [] => .nil
  | c :: r => insC_sorted c _ (sortC_sorted r)
theorem perm_sorted_eq : ∀ {l k : List Nat}, l.Perm k → l.Pairwise (· ≤ ·) → k.Pairwise (· ≤ ·) → l = k
  | [], k, h, _, _ => by rw [List.nil_perm.mp h]
  | a :: l, [], h, _, _ => by cases h.length_eq
  | a :: l, b :: k, h, h1, h2 => by
    have p1 := List.pairwise_cons.mp h1
    have p2 := List.pairwise_cons.mp h2
    have e : a = b := by
      have z1 : a ∈ b :: k := h.mem_iff.mp List.mem_cons_self
      have z2 : b ∈ a :: l := h.mem_iff.mpr List.mem_cons_self
      rcases List.mem_cons.mp z1 with z | z
      · exact z
      · rcases List.mem_cons.mp z2 with y | y
        · exact y.symm
        · exact Nat.le_antisymm (p1.1 b y) (p2.1 a z)
    subst e
    rw [perm_sorted_eq (List.Perm.cons_inv h) p1.2 p2.2]
theorem ltCps_one {a b : Nat} : ltCps [a] [b] = decide (a < b) := by
  unfold ltCps
  by_cases h : a < b
  · simp [h]
  · simp [h, ltCps]
theorem rising_chr : ∀ (l : List Nat) (c : Nat), PyProof.Rows.risingS (sOf [c]) (l.map fun c => sOf [c]) = true → (c :: l).Pairwise (· ≤ ·)
  | [], c, _ => by simp
  | d :: l, c, h => by
    have h' : (!ltCps [d] [c] && PyProof.Rows.risingS (sOf [d]) (l.map fun c => sOf [c])) = true := h
    rw [ltCps_one, Bool.and_eq_true] at h'
    have ih := rising_chr l d h'.2
    have hcd : c ≤ d := by have z := h'.1; simp at z; exact z
    refine List.pairwise_cons.mpr ⟨fun x hx => ?_, ih⟩
    rcases List.mem_cons.mp hx with rfl | z
    · exact hcd
    · exact Nat.le_trans hcd ((List.pairwise_cons.mp ih).1 x z)
theorem sorted_chr : ∀ (l : List Nat), PyProof.Rows.sortedS (l.map fun c => sOf [c]) = true → l.Pairwise (· ≤ ·)
  | [], _ => .nil
  | c :: l, h => rising_chr l c h
theorem chr_of_map {ys : List Str} {l : List Nat} (h : ys.Perm (l.map fun c => sOf [c])) : ∃ k : List Nat, ys = k.map fun c => sOf [c] := by
  have : ∀ y ∈ ys, ∃ c, y = sOf [c] := fun y hy => by
    obtain ⟨c, _, e⟩ := List.mem_map.mp (h.mem_iff.mp hy)
    exact ⟨c, e.symm⟩
  clear h
  induction ys with
  | nil => exact ⟨[], rfl⟩
  | cons y ys ih =>
    obtain ⟨c, e⟩ := this y List.mem_cons_self
    obtain ⟨k, ek⟩ := ih fun z hz => this z (List.mem_cons_of_mem _ hz)
    exact ⟨c :: k, by rw [e, ek] <;> rfl⟩
theorem chr_unmap {k l : List Nat} (h : (k.map fun c => sOf [c]).Perm (l.map fun c => sOf [c])) : k.Perm l := by
  have z := h.map (fun y : Str => y.cps.toList.headD 0)
  rw [List.map_map, List.map_map] at z
  have e : ((fun y : Str => y.cps.toList.headD 0) ∘ fun c => sOf [c]) = id := by funext c; rfl
  rw [e, List.map_id, List.map_id] at z
  exact z
theorem re_sortedC (xo : XOk X N sc B k) {m : SM (OT os) (AT [tLst tChr])} (ga ma : Nat) (ha : RA X Γ os [e] [tLst tChr] m) (hg : sc.names[ga]? = some (gI "sorted") := by rfl) (hm : B[ma]? = some "sorted" := by rfl)
    (he : starEach [e] X.env = (false, eval e X.env) :: starEach [] X.env := by rfl) :
    RE X Γ os (.Call (.Name "sorted" p) [e] [] pos) (tOwn tChr) (SM.bind m fun x => SM.lift (if x.1.length < 64 then some (sortC x.1) else none)) := by
  refine re_callB (ts := [tLst tChr]) (tc := tOwn tChr) (f := fun x => if x.1.length < 64 then some (sortC x.1) else none) cr_sortedS (fun {x z vs F M H Q} e h g q => ?_) (xo.gl ga _ hg) (xo.fr ma _ hm) boot_sorted ha (by decide) (by decide) he rfl
  obtain ⟨v, us, e1, ⟨_, a, ws, ea, fa, r⟩, e2⟩ := h
  have e2' : us = [] := e2
  subst e2' e1 ea
  have e' : (if x.1.length < 64 then some (sortC x.1) else none) = some z := e
  by_cases hl : x.1.length < 64
  · rw [if_pos hl] at e'
    cases e'
    have ew := allR_chr r
    subst ew
    refine ⟨a, _, rfl, .inl (.inl (g.f _ _ fa)), by simpa using hl, fun ys p hp hs hn => ?_⟩
    obtain ⟨k, ek⟩ := chr_of_map hp
    subst ek
    have ekk : k = sortC x.1 := perm_sorted_eq ((chr_unmap hp).trans (sortC_perm x.1).symm) (sorted_chr k hs) (sortC_sorted x.1)
    subst ekk
    obtain ⟨g2, s2⟩ := g.newM (o := .lst (((sortC x.1).map fun c => sOf [c]).map V.str)) hn
    refine q (.ref p) F _ _ _ (.refl F) s2 g2 ⟨p, _, rfl, rfl, ?_⟩
    rw [List.map_map]
    exact allR_of_chr (sortC x.1)
  · rw [if_neg hl] at e'; cases e'
/-! ### text.count(sign) -/
def cntC (l : List Nat) (c : Nat) : Int := Txt.count (sOf l) (sOf [c])
theorem re_count {ob : Expr} {mo : SM (OT os) (List Nat)} {m : SM (OT os) (AT [tChr])} (ho : RE X Γ os ob tStr mo) (ha : RA X Γ os [e] [tChr] m)
    (hbase : attributeBase ob "count" X.env (eval ob X.env) = eval ob X.env := by rfl) (hline : (apos.endLine == pos.line) = true := by rfl)
    (he : starEach [e] X.env = (false, eval e X.env) :: starEach [] X.env := by rfl)
    (hpl : (backTo pos (starEach [] X.env)).any (·.1) = false := by rfl)
    (hfew : ((backTo pos (starEach [e] X.env)).all (fun x => !x.1) && (backToKw pos (keywordEach [] X.env)).all (fun x => x.1.isSome)
      && decide ([e].length + ([] : List Keyword).length + (if ([] : List Keyword).isEmpty then 0 else 1) < 30)) = true := by rfl) :
    RE X Γ os (.Call (.Attribute ob "count" apos) [e] [] pos) tInt (SM.bind mo fun x => SM.bind m fun y => SM.lift (some (cntC x y.1))) := by
  refine re_bm (to := tStr) (ts := [tChr]) (tc := tInt) (f := fun x y => some (cntC x y.1)) F.plainAttrs_str F.slot_str_count F.type_str_count mt_count (fun r _ => by
    obtain ⟨_, e⟩ := r; subst e; rfl) (fun {x y z v vs F M H Q} e hx hy g q => ?_) imF ho ha hbase hline he hpl hfew
  cases e
  obtain ⟨_, ea⟩ := hx
  obtain ⟨v1, us, e1, ⟨_, ev⟩, e2⟩ := hy
  have e2' : us = [] := e2
  have ev' : v1 = V.str (sOf [y.1]) := ev
  subst e2' e1 ev' ea
  exact ⟨sOf x, sOf [y.1], rfl, rfl, fl (gA := V.int) q g⟩
/-! ### text[::-1] -/
theorem re_rev {j : Nat} {m : SM (OT os) (List Nat)} (h : RE X Γ os e tStr m) :
    RE X Γ os (.Subscript e (.Slice none none (some (.UnaryOp .USub (.Constant (.int 1) j p1) p2)) p3) pos) tStr (SM.bind m fun x => SM.lift (if x.length ≤ sizeLine then some x.reverse else none)) := by
  intro σ F M R H o W Q tk c w g q
  have pe : PE X (.Subscript e (.Slice none none (some (.UnaryOp .USub (.Constant (.int 1) j p1) p2)) p3) pos) (fun σ H Q => best X e σ H fun x H1 => ∃ l : List Nat, x = .str (sOf l) ∧ l.length ≤ sizeLine ∧ Q (.str (sOf l.reverse)) H1) := by
    refine ⟨fun pins s σ H Q I h => ?_⟩
    refine Subscript_ (thn ((pe_best X e).run pins s σ H _ I h) fun v s1 ⟨x, H1, I1, r1, q1⟩ => ?_)
    obtain ⟨l, ex, hl, q⟩ := q1
    subst ex
    obtain ⟨tv, ev⟩ := r1
    subst ev
    have hst : PO X (some (.UnaryOp .USub (.Constant (.int 1) j p1) p2)) (tPart (tUn (rU fun i => .int (-i)) (tC (.int 1)))) := po_some (pe_un un_neg pe_int)
    refine wpAny_Slice (thn (po_none.run pins s1 σ H1 (fun o H2 => o = none ∧ H2 = H1) I1 ⟨rfl, rfl⟩) fun vl s2 ⟨l2, H2, I2, pl, el, e2⟩ => ?_)
    subst el e2
    refine thn (po_none.run pins s2 σ H2 (fun o H3 => o = none ∧ H3 = H2) I2 ⟨rfl, rfl⟩) fun vu s3 ⟨u, H3, I3, pu, eu, e3⟩ => ?_
    subst eu e3
    refine thn (hst.run pins s3 σ H3 (fun o H4 => o = some (-1) ∧ H4 = H3) I3 ⟨1, rfl, -1, rfl, rfl, rfl⟩) fun vs s4 ⟨o, H4, I4, ps, eo, e4⟩ => ?_
    subst eo e4
    have I5 : Inv X pins σ H4 { s4 with heap := s4.heap.push { cls := .type "slice", data := .fields #[vl, vu, vs] } } := I4.kept (t' := s4.toks) fun b ob q => Heap.get?_push_of_some _ q
    cases pl
    cases pu
    obtain ⟨ts, ets⟩ : ∃ t, vs = .int (-1) t := by cases ps; exact ⟨_, rfl⟩
    subst ets
    refine tail_any (ops := [.ref s4.heap.objs.size, .str (sOf l) tv]) (typeIs_str _ _ _) (_root_.PySem.F.slot_str_getitem.lookup) ?_ (by with_unfolding_all rfl)
    refine wpAny_getItem_str_slice (l := none) (u := none) (st := some (-1, ts)) ⟨_, Heap.get?_push_size _ rfl, rfl, rfl⟩ (by rfl) ?_
    have es : Txt.sliceBy (sOf l) none none (-1, ts) = sOf l.reverse := by
      have z := PyProof.Rows.step_rev_list (sOf l) ts
      have z2 : (Txt.sliceBy (sOf l) none none (-1, ts)).cps.toList = l.reverse := by
        rw [z]
        apply List.ext_getElem?
        intro i
        by_cases hi : i < l.length
        · have hi' : i < (sOf l).length := hi
          rw [List.getElem?_map, List.getElem?_range hi', List.getElem?_reverse hi]
          show some ((l.toArray).getD (l.length - 1 - i) 0) = _
          have h2 : l.length - 1 - i < l.length := by omega
          rw [List.getElem?_eq_getElem h2]
          simp [Array.getD, h2]
        · rw [List.getElem?_eq_none (by simp [lenS]; omega), List.getElem?_eq_none (by simp; omega)]
      generalize Txt.sliceBy (sOf l) none none (-1, ts) = y at z2
      cases y with
      | mk a => show (⟨a⟩ : Str) = ⟨l.reverse.toArray⟩; rw [← z2]
    have hp : (if ((((some ((-1 : Int), ts)).map (·.1)).getD 1 == 1 && (slicePicked (sOf l) none none (some (-1, ts))).length == (sOf l).length) = true) then Made.val (.str (sOf l) tv) else Made.str ⟨((slicePicked (sOf l) none none (some (-1, ts))).filterMap ((sOf l).cps[·]?)).toArray⟩).post (EP X pins σ Q) { s4 with heap := s4.heap.push { cls := .type "slice", data := .fields #[.none, .none, .int (-1) ts] } } := by
      refine post_val_or_str ⟨?_, fun t' k => ?_⟩
      · show (Txt.sliceBy (sOf l) none none (-1, ts)).length ≤ sizeLine
        rw [es]; show l.reverse.toArray.size ≤ _; simpa using hl
      · show EP X pins σ Q (.str (Txt.sliceBy (sOf l) none none (-1, ts)) t') _
        rw [es]
        exact ⟨.str (sOf l.reverse), _, I5.tok k, ⟨t', rfl⟩, q⟩
    exact hp
  refine ⟨_, pe, ?_⟩
  refine one_end (ta := tStr) imF h tk c w g q fun x o2 v F2 M2 H2 h2 s2 w2 g2 r1 => ?_
  obtain ⟨_, ev⟩ := r1
  refine lift_fin (tc := tStr) h2 s2 w2 fun z e q => ?_
  by_cases hl : x.length ≤ sizeLine
  · rw [if_pos hl] at e
    cases e
    exact ⟨x, ev, hl, fl (gA := fun l => V.str (sOf l)) q g2⟩
  · rw [if_neg hl] at e; cases e
/-! ### text * int -/
theorem op_mulS : OpR X (binaryOp .Mult) (fun x y H Q => ∃ (l : List Nat) (n : Nat), x = .str (sOf l) ∧ y = .int (n : Int) ∧ 2 ≤ n ∧ n ≤ 1000 ∧ l.length ≤ 10000 ∧ Q (.str (sOf (List.replicate n l).flatten)) H) := by
  intro pins s σ H x y v u Q I rx ry h
  obtain ⟨l, n, rfl, rfl, h2, h3, h5, q⟩ := h
  obtain ⟨t, rfl⟩ := rx
  obtain ⟨t', rfl⟩ := ry
  have hlen : (sOf l).length = l.length := rfl
  have ef : ∀ (n : Nat) (acc : Array Nat), (List.replicate n (sOf l).cps).foldl (· ++ ·) acc = acc ++ (List.replicate n l).flatten.toArray := by
    intro n
    induction n with
    | zero => intro acc; simp
    | succ n ih => intro acc; rw [List.replicate_succ, List.foldl_cons, ih, List.replicate_succ, List.flatten_cons]; show acc ++ l.toArray ++ _ = _; simp
  have hc1 : ¬ (n : Int) < 1 := by omega
  have hc2 : ((n : Int) == 1 || (sOf l).length == 0) = (l.length == 0) := by
    rw [hlen]
    have a1 : ((n : Int) == 1) = false := by rw [beq_eq_false_iff_ne]; omega
    rw [a1]; rfl
  have hsz : l.length * n ≤ 10000 * 1000 := Nat.mul_le_mul h5 h3
  refine P.mul_str ?_ (fun _ _ => ?_) (fun _ _ => ?_) ?_
  · rw [decide_eq_false (by omega), decide_eq_false (by omega)]; rfl
  · rw [hlen]
    intro hgt
    have : (2 ^ 63 - 1) / (n : Int) ≥ 9223372036854775807 / 1000 := by
      apply Int.le_ediv_of_mul_le (by omega)
      have : (9223372036854775807 / 1000 : Int) * n ≤ (9223372036854775807 / 1000 : Int) * 1000 := Int.mul_le_mul_of_nonneg_left (by omega) (by decide)
      omega
    omega
  · rw [hlen]
    have e : (n : Int).toNat = n := by omega
    rw [e]
    show decide (_ > sizeLine) = false
    rw [sizeLine_eq]
    exact decide_eq_false (by omega)
  · rw [if_neg hc1, hc2]
    by_cases h0 : l.length = 0
    · have e0 := List.eq_nil_of_length_eq_zero h0
      subst e0
      rw [if_pos (by rfl)]
      refine ⟨.str (sOf []), H, I.tok _, ⟨_, rfl⟩, ?_⟩
      have ez : (List.replicate n ([] : List Nat)).flatten = [] := by simp
      rw [ez] at q
      exact q
    rw [if_neg (by simpa using h0)]
    have e : (n : Int).toNat = n := by omega
    rw [e, ef]
    have e2 : (#[] ++ (List.replicate n l).flatten.toArray : Array Nat) = (List.replicate n l).flatten.toArray := by simp
    rw [e2]
    refine ⟨?_, .str (sOf (List.replicate n l).flatten), H, I.tok _, ⟨_, rfl⟩, q⟩
    show (List.replicate n l).flatten.toArray.size ≤ sizeLine
    rw [List.size_toArray, List.length_flatten, List.map_replicate, List.sum_replicate_nat, sizeLine_eq, Nat.mul_comm]
    omega
theorem nat_of {y : Int} (h1 : 2 ≤ y) (h2 : y ≤ 1000) : y = (y.toNat : Int) ∧ 2 ≤ y.toNat ∧ y.toNat ≤ 1000 := by omega
theorem re_mulS {m : SM (OT os) (List Nat)} {n : SM (OT os) Int} (ha : RE X Γ os a tStr m) (hb : RE X Γ os b tInt n) :
    RE X Γ os (.BinOp a .Mult b pos) tStr (SM.bind m fun x => SM.bind n fun y => SM.lift (if 2 ≤ y ∧ y ≤ 1000 ∧ x.length ≤ 10000 then some (List.replicate y.toNat x).flatten else none)) := by
  refine re_op (ta := tStr) (tb := tInt) (tc := tStr) (f := fun x y => if 2 ≤ y ∧ y ≤ 1000 ∧ x.length ≤ 10000 then some (List.replicate y.toNat x).flatten else none) op_mulS (fun {x y z v u F M H Q} e hx hy g q => ?_) imF imF ha hb
  obtain ⟨_, rx⟩ := hx
  obtain ⟨_, ry⟩ := hy
  have e' : (if 2 ≤ y ∧ y ≤ 1000 ∧ x.length ≤ 10000 then some (List.replicate y.toNat x).flatten else none) = some z := e
  by_cases h : 2 ≤ y ∧ y ≤ 1000 ∧ x.length ≤ 10000
  · rw [if_pos h] at e'
    cases e'
    obtain ⟨h1, h2, h3⟩ := h
    obtain ⟨n1, n2, n3⟩ := nat_of h1 h2
    exact ⟨x, y.toNat, rx, by rw [ry]; exact congrArg V.int n1, n2, n3, h3, fl (gA := fun l => V.str (sOf l)) q g⟩
  · rw [if_neg h] at e'; cases e'
end
end Mi

namespace Mi
open PySem PySem.Spec PyProof.Rows L2
section
variable {X : Cx} {N : List Str} {sc : Scope} {B : List Str} {k : Nat} {Γ : Ctx} {os : Os} {pos p p1 p2 p3 cpos apos : Pos} {e a b : Expr} {es rest : List Expr} {t u : Ty}
/-! ### == [] -/
theorem dp_chr {K : PySem.W.Frag} {H : Hp} : ∀ l : List Nat, DpAll K H ((l.map fun c => sOf [c]).map V.str) (l.map fun c => PyData.str (sOf [c]))
  | [] => .nil
  | c :: l => .cons (.str _) (dp_chr l)
abbrev okC (l : List Nat) : Bool := l.all fun c => decide (c < 1114112)
theorem can_chr : ∀ l : List Nat, okC l = true → PyData.canLayAll0 (l.map fun c => PyData.str (sOf [c])) = true
  | [], _ => rfl
  | c :: l, h => by
    have h' : decide (c < 1114112) = true ∧ okC l = true := by
      have z : (decide (c < 1114112) && okC l) = true := h
      simpa [Bool.and_eq_true] using z
    show PyData.canLayAll0 (PyData.str (sOf [c]) :: _) = true
    rw [PyData.canLayAll0, can_chr l h'.2, PyData.canLay0, Bool.and_true]
    show (#[c].all fun c => decide (c < 1114112)) = true
    simpa using h'.1
theorem dep_chr : ∀ l : List Nat, PyData.depthAll (l.map fun c => PyData.str (sOf [c])) ≤ 1
  | [] => by decide
  | c :: l => by
    show PyData.depthAll (PyData.str (sOf [c]) :: _) ≤ 1
    have ih := dep_chr l
    rw [PyData.depthAll]
    have h : (PyData.str (sOf [c])).depth ≤ 1 := by rw [PyData.depth] <;> decide
    omega
theorem shp_chr (l : List Nat) (hl : okC l = true) : SeqAt.shaped (.list (l.map fun c => PyData.str (sOf [c]))) = true := by
  unfold SeqAt.shaped
  rw [Bool.and_eq_true]
  refine ⟨?_, decide_eq_true ?_⟩
  · rw [PyData.canLay0]; exact can_chr l hl
  · have h := dep_chr l
    rw [PyData.depth]
    omega
theorem eqv_chr0 (l : List Nat) : PyData.eqv (.list (l.map fun c => PyData.str (sOf [c]))) (.list []) = decide (l = []) := by
  rw [PyData.eqv]
  cases l with
  | nil => rw [List.map_nil, PyData.eqvAll]; rfl
  | cons c l => rw [List.map_cons, PyData.eqvAll]; rfl
theorem v_eq0 : VOp (rEqD X.K) (tLst tChr) (tLst tChr) tBool (fun x y => if y = [] ∧ okC x = true then some (decide (x = [])) else none) := by
  intro x y z v u F M H Q e ⟨_, a, vs, ea, fa, ra⟩ ⟨_, b, us, eb, fb, rb⟩ g q
  have e' : (if y = [] ∧ okC x = true then some (decide (x = [])) else none) = some z := e
  by_cases hy : y = [] ∧ okC x = true
  · rw [if_pos hy] at e'
    cases e'
    obtain ⟨hy, hx⟩ := hy
    subst hy
    have e1 := allR_chr ra
    have e2 : us = [] := rb
    subst e1 e2 ea eb
    refine ⟨.list (x.map fun c => PyData.str (sOf [c])), .list [], .lst (.inl (.inl (g.f _ _ fa))) (dp_chr x), .lst (.inl (.inl (g.f _ _ fb))) .nil, shp_chr x hx, shp_chr [] rfl, ?_⟩
    rw [eqv_chr0]
    exact fl (gA := V.bl) q g
  · rw [if_neg hy] at e'; cases e'
theorem v_ne0 : VOp (rNeD X.K) (tLst tChr) (tLst tChr) tBool (fun x y => if y = [] ∧ okC x = true then some (!decide (x = [])) else none) := by
  intro x y z v u F M H Q e ⟨_, a, vs, ea, fa, ra⟩ ⟨_, b, us, eb, fb, rb⟩ g q
  have e' : (if y = [] ∧ okC x = true then some (!decide (x = [])) else none) = some z := e
  by_cases hy : y = [] ∧ okC x = true
  · rw [if_pos hy] at e'
    cases e'
    obtain ⟨hy, hx⟩ := hy
    subst hy
    have e1 := allR_chr ra
    have e2 : us = [] := rb
    subst e1 e2 ea eb
    refine ⟨.list (x.map fun c => PyData.str (sOf [c])), .list [], .lst (.inl (.inl (g.f _ _ fa))) (dp_chr x), .lst (.inl (.inl (g.f _ _ fb))) .nil, shp_chr x hx, shp_chr [] rfl, ?_⟩
    rw [eqv_chr0]
    exact fl (gA := V.bl) q g
  · rw [if_neg hy] at e'; cases e'
theorem units_ok (xo : XOk X N sc B k) : X.A.units + 64 < cLine := by have h := xo.room.un; omega
theorem re_eq0 (xo : XOk X N sc B k) {m n : SM (OT os) (List Nat)} (ha : RE X Γ os a (tLst tChr) m) (hb : RE X Γ os (.List [] p) (tLst tChr) n) :
    RE X Γ os (.Compare a [.Eq] [.List [] p] pos) tBool (SM.bind m fun x => SM.bind n fun y => SM.lift (if y = [] ∧ okC x = true then some (decide (x = [])) else none)) := re_cmp (op_eqD (units_ok xo)) v_eq0 im_lst im_lst ha hb
theorem re_ne0 (xo : XOk X N sc B k) {m n : SM (OT os) (List Nat)} (ha : RE X Γ os a (tLst tChr) m) (hb : RE X Γ os (.List [] p) (tLst tChr) n) :
    RE X Γ os (.Compare a [.NotEq] [.List [] p] pos) tBool (SM.bind m fun x => SM.bind n fun y => SM.lift (if y = [] ∧ okC x = true then some (!decide (x = [])) else none)) := re_cmp (op_neD (units_ok xo)) v_ne0 im_lst im_lst ha hb
/-! ### all(a list of bools) -/
theorem allR_bl {F : Hp} : ∀ {l : List Bool} {vs : List V}, AllR tBool l vs F → vs = l.map V.bl
  | [], vs, h => h
  | c :: l, _, ⟨v, r, e, q, k⟩ => by
    subst e
    rw [allR_bl k, show v = V.bl c from q.2] <;> rfl
theorem re_all (xo : XOk X N sc B k) {m : SM (OT os) (AT [tLst tBool])} (ga ma : Nat) (ha : RA X Γ os [e] [tLst tBool] m) (hg : sc.names[ga]? = some (gI "all") := by rfl) (hm : B[ma]? = some "all" := by rfl)
    (he : starEach [e] X.env = (false, eval e X.env) :: starEach [] X.env := by rfl) :
    RE X Γ os (.Call (.Name "all" p) [e] [] pos) tBool (SM.bind m fun x => SM.lift (some (x.1.all id))) := by
  refine re_callB (ts := [tLst tBool]) (tc := tBool) (f := fun x => some (x.1.all id)) (cr_all xo.calm) (fun {x z vs F M H Q} e h g q => ?_) (xo.gl ga _ hg) (xo.fr ma _ hm) boot_all ha (by decide) (by decide) he rfl
  obtain ⟨v, us, e1, ⟨_, a, ws, ea, fa, r⟩, e2⟩ := h
  have e2' : us = [] := e2
  subst e2' e1 ea
  cases e
  have ew := allR_bl r
  subst ew
  exact ⟨a, x.1, rfl, .inl (.inl (g.f _ _ fa)), fl (gA := V.bl) q g⟩
/-! ### dicts of which nothing is asked -/
theorem re_dict0 : RE X Γ os (.Dict [] [] pos) tDat (SM.ret Dat.opq) := by
  intro σ F M R H o W Q tk c w g h
  refine ⟨_, pe_dnewK, fun p hp => ?_⟩
  have hF : F p = none := g.f.none hp
  have s2 := sub_upd (o := .dK []) hF
  exact (show NormE os tDat σ F R Q Dat.opq o from h) (.ref p) _ M emp M _ s2 (w.mono s2) (sep_emp_l M) (g.newF hp) ⟨rfl, by unfold DRep; exact ⟨p, rfl, .inr (.inr ⟨[], upd_same⟩)⟩⟩
/-- {text: int} -/
theorem re_dict1 {z : Str} {i : Int} {j1 j2 : Nat} : RE X Γ os (.Dict [some (.Constant (.str z) j1 p1)] [.Constant (.int i) j2 p2] pos) tDat (SM.ret Dat.opq) := by
  intro σ F M R H o W Q tk c w g h
  refine ⟨_, pe_disp (pps_cons pe_str pe_int pps_nil) rfl rfl (by simp) (by simp), fun p hp => ?_⟩
  refine ⟨upd_same, [(.inr z, .int i)], rfl, by simp, ?_⟩
  have hF : F p = none := g.f.none hp
  have s2 := sub_upd (o := .dK (mergeK [] [(.inr z, .int i)])) hF
  have hu : upd (upd H p (.dK [])) p (.dK (mergeK [] [(.inr z, .int i)])) = upd H p (.dK (mergeK [] [(.inr z, .int i)])) := by
    funext b
    by_cases hb : b = p
    · subst hb; rw [upd_same, upd_same]
    · rw [upd_ne hb, upd_ne hb, upd_ne hb]
  rw [hu]
  exact (show NormE os tDat σ F R Q Dat.opq o from h) (.ref p) _ M emp M _ s2 (w.mono s2) (sep_emp_l M) (g.newF hp) ⟨rfl, by unfold DRep; exact ⟨p, rfl, .inr (.inr ⟨_, upd_same⟩)⟩⟩
/-! ### f(a = e, ..), all arguments by keyword, in the parameters' order -/
def LkK (M : Md) (nm : Str) (ps : List Str) (ts : List Ty) (tr : Ty) (fn : AT ts → Option (Except Exn tr.A)) (j : Nat) : Prop := ∃ f fd, LkF M nm ps (spP M.mg ts tr fn) j f fd ∧ ∀ (s : Shared) (ws : List Value), ws.length = ps.length → BindsTo s fd ⟨[], ps.zip ws⟩ (ps.zip ws)
theorem LkK.toP {M : Md} {nm : Str} {ps : List Str} {ts : List Ty} {tr : Ty} {fn : AT ts → Option (Except Exn tr.A)} {j : Nat} (h : LkK M nm ps ts tr fn j) : LkP M nm ps ts tr fn j := by
  obtain ⟨f, fd, l, _⟩ := h
  exact ⟨f, fd, l⟩
def bestK (X : Cx) (kws : List Keyword) : TA := fun σ H Q => ∃ t, PK X kws t ∧ t σ H Q
theorem pk_best (X : Cx) (kws : List Keyword) : PK X kws (bestK X kws) := ⟨fun pos pins s σ H Q I ⟨_, p, h⟩ => p.run pos pins s σ H Q I h⟩
def RK (X : Cx) (Γ : Ctx) (os : Os) (kws : List Keyword) (ts : List Ty) (m : SM (OT os) (AT ts)) : Prop :=
  ∀ (σ : L2.St) (F M R H : Hp) (o : OT os) (W : WX) (Q : List V → Hp → Prop), Takes X W → CtxOk Γ σ F → OwnOk os o σ F M R → Good F M H →
    Want (m o) (NormA os ts σ F R Q) (ExcE X os σ F R W) → bestK X kws σ H Q
theorem rk_nil : RK X Γ os [] [] (SM.ret ()) := fun σ F M R H o W Q tk c w g q => ⟨_, pk_nil, q [] F M H (.refl F) w g rfl⟩
theorem rk_cons {ts : List Ty} {kws : List Keyword} {nm : Option Str} {kpos : Pos} {m : SM (OT os) t.A} {n : SM (OT os) (AT ts)} (it : Imm t) (h : RE X Γ os e t m) (hr : RK X Γ os kws ts n) :
    RK X Γ os (⟨nm, e, kpos⟩ :: kws) (t :: ts) (SM.bind m fun x => SM.bind n fun y => SM.ret (x, y)) := by
  intro σ F M R H o W Q tk c w g q
  refine ⟨_, pk_cons (pe_best X e) (pk_best X kws), h σ F M R H o W _ tk c w g (q.bind.imp (fun x o1 z => ?_) fun _ _ z => z)⟩
  intro v F' M1 mm M' H' s w' p' g' r
  have e := it r; subst e
  have e := p'.emp_l; subst e
  refine hr σ F' _ R H' o1 W _ tk (c.mono s) w' g' (z.bind.imp (fun y o2 z => ?_) fun _ _ z => z.mono s)
  intro us F2 M2 H2 s2 w2 g2 r2
  exact z (v :: us) F2 M2 H2 (s.trans s2) w2 g2 ⟨v, us, rfl, t.mono r s2, r2⟩
theorem re_callK (xo : XOk X N sc B k) {nm : Str} {ps : List Str} {ts : List Ty} {tr : Ty} {fn : AT ts → Option (Except Exn tr.A)} {j : Nat} {kws : List Keyword} {m : SM (OT os) (AT ts)} (l : LkK X.md nm ps ts tr fn j) (g : Nat)
    (ha : RK X Γ os kws ts m) (hg : sc.names[g]? = some (nm, .globalImplicit) := by rfl) (hj : j ≤ k := by decide)
    (hall : (backToKw pos (keywordEach kws X.env)).all (·.1.isSome) = true := by rfl) (hks : (backToKw pos (keywordEach kws X.env)).filterMap (·.1) = ps := by rfl)
    (hpl : ((backTo pos (starEach [] X.env)).any (·.1) || (backToKw pos (keywordEach kws X.env)).any (·.1.isNone)) = false := by rfl) :
    RE X Γ os (.Call (.Name nm p) [] kws pos) tr (SM.bind m fun x => SM.lifx (fn x)) := by
  obtain ⟨f, fd, lf, bk⟩ := l
  intro σ F M R H o W Q tk c w gd h
  have pe : PE X (.Call (.Name nm p) [] kws pos) (fun σ' H' Q' => σ' = σ ∧ bestK X kws σ H' fun zs H1 => spP X.mg ts tr fn zs H1 Q' (WE W σ)) := by
    refine ⟨fun pins s σ' H' Q' I q => ?_⟩
    obtain ⟨rfl, q⟩ := q
    refine wpAny_Call_Name_kw (ld_glob I (xo.gl g nm hg) lf.mg ?_ (xo.db g nm _ hg).1)
    refine PySem.W.callWith_KW0 (h₀ := X.base) I.ok.mod.kin lf.kp hall ?_ hpl
    refine thn ((pk_best X kws).run pos pins s σ' H' _ I q) fun ws s2 ⟨zs, H2, I2, rz, q2⟩ => ⟨I2.kIn, ?_⟩
    rw [hks]
    have hl : ws.length = ps.length := by rw [← rz.length]; exact lf.ok.len _ _ _ _ q2
    refine wpAny_call (codeAny_mono (lf.ok.run X.A X.stack s2 H2 ⟨[], ps.zip ws⟩ ws zs Q' (WE W σ') (xo.room.mono hj) I2.env0 (bk s2 ws hl) rz q2) fun r s' hq => ?_)
    cases r with
    | error e => exact passAt tk σ' pins H2 s2 e s' I2 hq
    | ok fl =>
      cases fl with
      | ret u => exact I2.after hq
      | next => exact False.elim hq
      | brk => exact False.elim hq
      | cont => exact False.elim hq
  refine ⟨_, pe, rfl, ?_⟩
  refine ha σ F M R H o W _ tk c w gd (h.bind.imp (fun x o2 h2 => ?_) fun _ _ z => z)
  intro vs F2 M2 H2 s2 w2 g2 r2
  refine ⟨x, F2, M2, r2, g2, ?_⟩
  unfold SM.lifx at h2
  cases z : fn x with
  | none => rw [z] at h2; exact h2
  | some r =>
    rw [z] at h2
    cases r with
    | ok y => exact fun v F' mm M' H' s' p' g' r' => (show NormE os tr σ F R Q y o2 from h2) v F' M2 mm M' H' (s2.trans s') (w2.mono s') p' g' r'
    | error ex => exact fun cls d F' H' s' g' x' => (show ExcE X os σ F R W ex o2 from h2) cls d F' M2 H' (s2.trans s') (w2.mono s') g' x'
end
end Mi

namespace Mi
open PySem PySem.Spec PyProof.Rows L2
/-! ### one token is out -/
def PE1 (X : Cx) (e : Expr) (t : TE) : Prop :=
  ∀ (pins : List (Addr × Obj)) (s : Shared) (σ : L2.St) (H : Hp) (Q : VK), Inv X pins σ H s → t σ H Q → wpAny (model X.prog X.w) X.A (eval e X.env) (fun u s' => 1 ≤ s'.toks ∧ EP X pins σ Q u s') X.xe s
section
variable {X : Cx} {N : List Str} {sc : Scope} {B : List Str} {k : Nat} {Γ : Ctx} {os : Os} {pos p p1 p2 p3 cpos apos : Pos} {e a b : Expr} {es : List Expr} {rest : List Stmt} {t u : Ty}
def bestBT (X : Cx) (st : List Stmt) : TS := fun D σ H => ∃ t, PSsT X st t ∧ t D σ H
theorem psst_best (X : Cx) (st : List Stmt) : PSsT X st (bestBT X st) := fun pins s σ H D h0 I ⟨_, p, h⟩ => p pins s σ H D h0 I h
variable {G : FX} {L : LC} {β : Type} {Γn : β → Ctx} {osn : Os} {st : Stmt}
def RBT (X : Cx) (G : FX) (L : LC) (Γ : Ctx) (os : Os) (sts : List Stmt) {β : Type} (Γn : β → Ctx) (osn : Os) (m : OT os → OutT G L β osn) : Prop :=
  ∀ (σ : L2.St) (F M R H : Hp) (o : OT os) (W : WX) (D : Ends), Takes X W → CtxOk Γ σ F → OwnOk os o σ F M R → Good F M H → WantS X G L Γn osn σ F R W D (m o) → bestBT X sts D σ H
theorem rbt_of {m : OT os → OutT G L β osn} (h : RB X G L Γ os rest Γn osn m) : RBT X G L Γ os rest Γn osn m := fun σ F M R H o W D tk c w g q => ⟨_, PSsT.of (pss_best X rest), h σ F M R H o W D tk c w g q⟩
theorem rbt_cons {γ : Type} {Γm : γ → Ctx} {om : Os} {m1 : OT os → OutT G L γ om} {m2 : γ → OT om → OutT G L β osn} (h1 : RS X G L Γ os st Γm om m1) (h2 : ∀ b, RBT X G L (Γm b) om rest Γn osn (m2 b)) :
    RBT X G L Γ os (st :: rest) Γn osn (fun o => Out.bind (m1 o) m2) := by
  intro σ F M R H o W D tk c w g q
  refine ⟨_, psst_cons (PST.of (ps_best X st)) (psst_best X rest), ?_⟩
  refine h1 σ F M R H o W { D with nx := bestBT X rest D } tk c w g ?_
  have q' : WantS X G L Γn osn σ F R W D (Out.bind (m1 o) m2) := q
  cases z : m1 o with
  | none => rw [z] at q'; exact q'
  | some r =>
    rw [z] at q'
    cases r with
    | nxt n => exact fun σ' F' M' H' s k' c' w' g' => h2 n.1 σ' F' M' R H' n.2 W D tk c' w' g' (q'.mono s k')
    | brk n => exact q'
    | cnt n => exact q'
    | ret x p => exact q'
    | exc e p => exact q'
theorem rbt_asg (xo : XOk X N sc B k) (hS : OSub os G.ps) (i j : Nat) {nm : Str} {kd : NameKind} {me : SM (OT os) t.A} {kk : t.A → OT os → OutT G L β osn} (it : Imm t) (he : RE X Γ os e t me)
    (hk : ∀ x, RBT X G L (Γ.set i (some ⟨t, x⟩)) os rest Γn osn (kk x))
    (hj : sc.names[j]? = some (nm, kd) := by rfl) (hkd : locK kd = true := by rfl) (hN : N[i]? = some nm := by rfl) (hf : noSlot i os = true := by rfl) (hkp : G.kp.all (· != i) = true := by rfl)
    (hs : swapsWith e (some (.Name nm p)) pos.line X.env = pure false := by rfl) : RBT X G L Γ os (.Assign [.Name nm p] e pos :: rest) Γn osn (fun o => bindX hS (me o) kk) := by
  intro σ F M R H o W D tk c w g q
  obtain ⟨l1, l2⟩ := xo.lc j nm kd hj hkd
  refine ⟨_, psst_cons (PST.of (ps_set (i := i) xo.nd (by rw [xo.nN]; exact hN) l1 (pe_best X e) hs l2)) (psst_best X rest), ?_⟩
  refine he σ F M R H o W _ tk c w g (q.bindX.imp (fun x o1 z => ?_) fun _ _ z => z)
  intro v F' M1 mm M' H' s' w' p' g' r'
  have e := it r'; subst e
  have e := p'.emp_l; subst e
  exact hk x (σ.set i (some v)) F' _ R H' o1 W D tk ((c.mono s').set r') (w'.set hf) g' (z.mono s' (keep_set hkp))
/-- what one evaluates with a token out (or that lets one out), stored under a name; then with a token out -/
theorem pet_set {i : Nat} {y : Str} {te : TE} {u : TS} (hN : X.N.Nodup) (hi : X.N[i]? = some y) (hx : Loc X.env.scope y) (he : PET X e te) (h2 : PSsT X rest u) (hs : swapsWith e (some (.Name y p)) pos.line X.env = pure false)
    (hf : X.fn y = true ∨ X.env.scope.names.lookup y = some .local) : PSsT X (.Assign [.Name y p] e pos :: rest) (tSeq (tAsg te (gName i)) u) := by
  intro pins s σ H D h0 I h
  refine wpAny_execs_cons (wpAny_Assign_Name (wpAny_mono (PySem.wpAny_toks_of h0 (he pins s σ H _ h0 I h)) (fun v s1 q => ?_) fun _ _ z => z.2) hs)
  obtain ⟨hk, x, H1, I1, r1, q1⟩ := q
  refine wpAny_mono (PySem.wpAny_toks_of hk (store_ok (Q := fun _ s2 => Inv X pins (σ.set i (some x)) H1 s2) I1 hN hi hx r1 (fun _ I2 => I2) hf)) (fun _ s2 q => ?_) fun _ _ z => z.2
  exact h2 pins s2 _ H1 D q.1 q.2 q1
theorem pe1_set {i : Nat} {y : Str} {te : TE} {u : TS} (hN : X.N.Nodup) (hi : X.N[i]? = some y) (hx : Loc X.env.scope y) (he : PE1 X e te) (h2 : PSsT X rest u) (hs : swapsWith e (some (.Name y p)) pos.line X.env = pure false)
    (hf : X.fn y = true ∨ X.env.scope.names.lookup y = some .local) : PSs X (.Assign [.Name y p] e pos :: rest) (tSeq (tAsg te (gName i)) u) := by
  refine ⟨fun pins s σ H D I h => ?_⟩
  refine wpAny_execs_cons (wpAny_Assign_Name (wpAny_mono (he pins s σ H _ I h) (fun v s1 q => ?_) fun _ _ z => z) hs)
  obtain ⟨hk, x, H1, I1, r1, q1⟩ := q
  refine wpAny_mono (PySem.wpAny_toks_of hk (store_ok (Q := fun _ s2 => Inv X pins (σ.set i (some x)) H1 s2) I1 hN hi hx r1 (fun _ I2 => I2) hf)) (fun _ s2 q => ?_) fun _ _ z => z.2
  exact h2 pins s2 _ H1 D q.1 q.2 q1
def best1 (X : Cx) (e : Expr) : TE := fun σ H Q => ∃ t, PE1 X e t ∧ t σ H Q
theorem pe1_best (X : Cx) (e : Expr) : PE1 X e (best1 X e) := fun pins s σ H Q I ⟨_, p, h⟩ => p pins s σ H Q I h
def RE1 (X : Cx) (Γ : Ctx) (os : Os) (e : Expr) (t : Ty) (m : SM (OT os) t.A) : Prop :=
  ∀ (σ : L2.St) (F M R H : Hp) (o : OT os) (W : WX) (Q : VK), Takes X W → CtxOk Γ σ F → OwnOk os o σ F M R → Good F M H →
    Want (m o) (NormE os t σ F R Q) (ExcE X os σ F R W) → best1 X e σ H Q
/-- x = e; .., e lets a token out -/
theorem rb_asg1 (xo : XOk X N sc B k) (hS : OSub os G.ps) (i j : Nat) {nm : Str} {kd : NameKind} {me : SM (OT os) t.A} {kk : t.A → OT os → OutT G L β osn} (it : Imm t) (he : RE1 X Γ os e t me)
    (hk : ∀ x, RBT X G L (Γ.set i (some ⟨t, x⟩)) os rest Γn osn (kk x))
    (hj : sc.names[j]? = some (nm, kd) := by rfl) (hkd : locK kd = true := by rfl) (hN : N[i]? = some nm := by rfl) (hf : noSlot i os = true := by rfl) (hkp : G.kp.all (· != i) = true := by rfl)
    (hs : swapsWith e (some (.Name nm p)) pos.line X.env = pure false := by rfl) : RB X G L Γ os (.Assign [.Name nm p] e pos :: rest) Γn osn (fun o => bindX hS (me o) kk) := by
  intro σ F M R H o W D tk c w g q
  obtain ⟨l1, l2⟩ := xo.lc j nm kd hj hkd
  refine ⟨_, pe1_set (i := i) xo.nd (by rw [xo.nN]; exact hN) l1 (pe1_best X e) (psst_best X rest) hs l2, ?_⟩
  refine he σ F M R H o W _ tk c w g (q.bindX.imp (fun x o1 z => ?_) fun _ _ z => z)
  intro v F' M1 mm M' H' s' w' p' g' r'
  have e := it r'; subst e
  have e := p'.emp_l; subst e
  exact hk x (σ.set i (some v)) F' _ R H' o1 W D tk ((c.mono s').set r') (w'.set hf) g' (z.mono s' (keep_set hkp))
/-- f(b, C), b lent, C a written int: a token is out -/
theorem re1_callO (xo : XOk X N sc B k) {nm nb : Str} {ps : List Str} {t0 : Ty} {tr : Ty} {fn : t0.A → AT [tInt] → Option (Except Exn tr.A × t0.A)} {j i j1 : Nat} {kd : NameKind} {pb : Pos} {n : Int} (l : LkO X.md nm ps t0 [tInt] tr fn j) (g : Nat)
    (hm : OMem os i t0) (jb : Nat) (hjb : sc.names[jb]? = some (nb, kd) := by rfl) (hkb : visK kd = true := by rfl) (hN : N[i]? = some nb := by rfl)
    (hg : sc.names[g]? = some (nm, .globalImplicit) := by rfl) (hj : j ≤ k := by decide)
    (he : starEach [.Name nb pb, .Constant (.int n) j1 p1] X.env = (false, eval (.Name nb pb) X.env) :: starEach [.Constant (.int n) j1 p1] X.env := by rfl)
    (he2 : starEach [.Constant (.int n) j1 p1] X.env = (false, eval (.Constant (.int n) j1 p1) X.env) :: starEach [] X.env := by rfl)
    (hpl : (backTo pos (starEach [.Constant (.int n) j1 p1] X.env)).any (·.1) = false := by rfl) :
    RE1 X Γ os (.Call (.Name nm p) [.Name nb pb, .Constant (.int n) j1 p1] [] pos) tr (SM.callO hm fn (n, ())) := by
  obtain ⟨f, fd, lf⟩ := l
  intro σ F M R H o W Q tk c w gd h
  obtain ⟨v0, m0, M0, e0, r0, s0, up⟩ := hm.at w
  have pe : PE1 X (.Call (.Name nm p) [.Name nb pb, .Constant (.int n) j1 p1] [] pos) (fun σ' H' Q' => σ' = σ ∧ spO X.mg t0 [tInt] tr fn [v0, .int n] H' Q' (WE W σ)) := by
    intro pins s σ' H' Q' I q
    obtain ⟨rfl, q⟩ := q
    refine wpAny_Call_Name_kw (ld_glob I (xo.gl g nm hg) lf.mg ?_ (xo.db g nm _ hg).1)
    refine PySem.W.callWith_K (h₀ := X.base) I.ok.mod.kin lf.kp ?_ he hpl
    rw [he]
    show wpAny _ _ (spliced ((false, eval (.Name nb pb) X.env) :: backTo pos (starEach [.Constant (.int n) j1 p1] X.env))) _ _ s
    refine Calls.spliced_cons (thn ((pe_var (X := X) (pos := pb) (i := i) (by rw [xo.nN]; exact hN) (xo.vs jb nb kd hjb hkb) (xo.db jb nb kd hjb).1 (xo.db jb nb kd hjb).2.1).run pins s σ' H' (fun v H1 => v = v0 ∧ H1 = H') I ⟨v0, e0, rfl, rfl⟩) fun u s1 ⟨v, H1, I1, r1, ev, eh⟩ => ?_)
    subst ev eh
    rw [he2]
    show wpAny _ _ (spliced ((false, eval (.Constant (.int n) j1 p1) X.env) :: backTo pos (starEach [] X.env))) _ _ s1
    refine Calls.spliced_cons (wpAny_Constant_int (Calls.spliced_nil ⟨I1.kIn, ?_⟩))
    have rv : Vals [v, V.int n] [u, Value.int n s1.toks] := .cons r1 (.cons ⟨_, rfl⟩ .nil)
    exact PySem.wpAny_toks_of (n := 1) (Nat.succ_le_succ (Nat.zero_le _)) (run_fnSD (E := WE W) lf.ok (xo.room.mono hj) lf.bd .nil (passAt tk σ') (I1.tok (s1.toks + 1)) rv (by rw [List.append_nil]; exact q)) |> fun z => wpAny_mono z (fun _ _ y => y) fun _ _ y => y.2
  refine ⟨_, pe, rfl, ?_⟩
  refine ⟨v0, [.int n], hm.get o, (n, ()), F, m0, M0, M, rfl, r0, s0, ⟨.int n, [], rfl, ⟨rfl, rfl⟩, rfl⟩, gd, ?_⟩
  have h3 := h
  unfold SM.callO at h3
  cases z : fn (hm.get o) (n, ()) with
  | none => rw [z] at h3; exact h3
  | some r =>
    obtain ⟨r, y0⟩ := r
    rw [z] at h3
    cases r with
    | ok y => exact fun v F' m' M3 mm M' H' s' q' p1 p2 g' r' => (show NormE os tr σ F R Q y (hm.set y0 o) from h3) v F' M3 mm M' H' s' (up y0 m' M3 F' s' q' p1) p2 g' r'
    | error ex => exact fun cls d F' m' M3 H' s' q' p1 g' x' => (show ExcE X os σ F R W ex (hm.set y0 o) from h3) cls d F' M3 H' s' (up y0 m' M3 F' s' q' p1) g' x'
/-! ### text.replace(C, '') -/
theorem pet_rep {te : TE} {y z : Str} {j0 j1 : Nat} {c0 c1 : Pos} (he : PE X e te) (hyz : (y == z) = false)
    (hst : starEach [.Constant (.str y) j0 c0, .Constant (.str z) j1 c1] X.env = [(false, eval (.Constant (.str y) j0 c0) X.env), (false, eval (.Constant (.str z) j1 c1) X.env)])
    (hbase : attributeBase e "replace" X.env (eval e X.env) = eval e X.env) (hline : (apos.endLine == pos.line) = true) :
    PET X (.Call (.Attribute e "replace" apos) [.Constant (.str y) j0 c0, .Constant (.str z) j1 c1] [] pos) (fun σ H Q => te σ H fun x H1 => ∃ l, x = .str l ∧ l.length + (l.length + 1) * z.length ≤ 16777216 ∧ Q (.str (Txt.replace l y z)) H1) := by
  intro pins s σ H Q h0 I h
  refine PySem.Call_method2 hbase hst hline (wpAny_mono (PySem.wpAny_toks_of h0 (he.run pins s σ H _ I h)) (fun v s1 q => ?_) fun _ _ z => z.2)
  obtain ⟨hk, x, H1, I1, r1, l, ex, hb, q⟩ := q
  subst ex
  obtain ⟨tx, ev⟩ := r1
  subst ev
  refine ⟨"str", _, _root_.PySem.F.plainAttrs_str, _root_.PySem.F.slot_str_replace, _root_.PySem.F.type_str_replace, typeIs_str _ _ _, (fun _ e => nomatch e), Calls.callWith_builtin rfl (Calls.evalArgs_plain (Calls.spliced_cons ?_))⟩
  refine Calls.Constant_str (Calls.spliced_cons (Calls.Constant_str (Calls.spliced_nil ?_)))
  exact PySem.SC.replace (show s1.toks ≠ 0 by omega) (show s1.toks + 1 ≠ 0 by omega) (show s1.toks ≠ s1.toks + 1 by omega) hyz hb fun t' k => ⟨.str (Txt.replace l y z), H1, I1.tok k, ⟨t', rfl⟩, q⟩
theorem strike_of (l : List Nat) (c : Nat) : Txt.replace (sOf l) (sOf [c]) (sOf []) = sOf (l.filter (· != c)) := by
  have z := PyProof.Rows.replace_strikes (sOf l) c
  generalize e : Txt.replace (sOf l) (sOf [c]) (sOf []) = y
  have z' : y.cps.toList = l.filter (· != c) := by rw [← e]; exact z
  cases y with
  | mk a => show (⟨a⟩ : Str) = ⟨(l.filter (· != c)).toArray⟩; rw [← z']
/-- x = e.replace(C, ''); .. -/
theorem rbt_rep (xo : XOk X N sc B k) (hS : OSub os G.ps) (i j : Nat) {nm : Str} {kd : NameKind} {y : Str} {j0 j1 : Nat} {c0 c1 : Pos} {m : SM (OT os) (List Nat)} {kk : List Nat → OT os → OutT G L β osn} (c : Nat) (he : RE X Γ os e tStr m)
    (hk : ∀ x : List Nat, RBT X G L (Γ.set i (some ⟨tStr, x⟩)) os rest Γn osn (kk x)) (hy : y = sOf [c] := by rfl)
    (hj : sc.names[j]? = some (nm, kd) := by rfl) (hkd : locK kd = true := by rfl) (hN : N[i]? = some nm := by rfl) (hf : noSlot i os = true := by rfl) (hkp : G.kp.all (· != i) = true := by rfl)
    (hs : swapsWith (.Call (.Attribute e "replace" apos) [.Constant (.str y) j0 c0, .Constant (.str "") j1 c1] [] cpos) (some (.Name nm p)) pos.line X.env = pure false := by rfl)
    (hst : starEach [.Constant (.str y) j0 c0, .Constant (.str "") j1 c1] X.env = [(false, eval (.Constant (.str y) j0 c0) X.env), (false, eval (.Constant (.str "") j1 c1) X.env)] := by rfl)
    (hbase : attributeBase e "replace" X.env (eval e X.env) = eval e X.env := by rfl) (hline : (apos.endLine == cpos.line) = true := by rfl) :
    RBT X G L Γ os (.Assign [.Name nm p] (.Call (.Attribute e "replace" apos) [.Constant (.str y) j0 c0, .Constant (.str "") j1 c1] [] cpos) pos :: rest) Γn osn
      (fun o => bindX hS ((SM.bind m fun l => SM.lift (if l.length ≤ 16777216 then some (l.filter (· != c)) else none)) o) kk) := by
  intro σ F M R H o W D tk cc w g q
  obtain ⟨l1, l2⟩ := xo.lc j nm kd hj hkd
  have hyz : (y == ("" : Str)) = false := by
    subst hy
    rw [beq_eq_false_iff_ne]
    intro h
    have h2 : (#[c] : Array Nat) = #[] := congrArg Str.cps (show sOf [c] = sOf [] from h)
    simp at h2
  refine ⟨_, pet_set (i := i) xo.nd (by rw [xo.nN]; exact hN) l1 (pet_rep (pe_best X e) hyz hst hbase hline) (psst_best X rest) hs l2, ?_⟩
  refine one_end (ta := tStr) imF he tk cc w g q.bindX fun x o2 v F2 M2 H2 h2 s2 w2 g2 r1 => ?_
  obtain ⟨_, ev⟩ := r1
  unfold SM.lift at h2
  by_cases hl : x.length ≤ 16777216
  · rw [if_pos hl] at h2
    refine ⟨sOf x, ev, by show x.length + _ * 0 ≤ _; omega, ?_⟩
    have er : Txt.replace (sOf x) y "" = sOf (x.filter (· != c)) := by rw [hy]; exact strike_of x c
    rw [er]
    exact hk _ (σ.set i (some (.str (sOf (x.filter (· != c)))))) F2 M2 R H2 o2 W D tk ((cc.mono s2).set ⟨rfl, rfl⟩) (w2.set hf) g2 (WantS.mono h2 s2 (keep_set hkp))
  · rw [if_neg hl] at h2; exact h2.elim
end
end Mi

namespace Mi
open PySem PySem.Spec PyProof.Rows L2
section
variable {X : Cx} {N : List Str} {sc : Scope} {B : List Str} {k : Nat} {Γ : Ctx} {os : Os} {pos p p1 p2 p3 cpos apos : Pos} {e a b : Expr} {es : List Expr} {rest : List Stmt} {t u : Ty}
variable {G : FX} {L : LC} {β : Type} {Γn : β → Ctx} {osn : Os} {st : Stmt}
/-- what is never reached -/
theorem rs_fail : RS X G L Γ os st Γn osn (fun _ => none) := fun σ F M R H o W D tk c w g q => q.elim
/-! ### one text in another -/
def inS (x y : List Nat) : Bool := !(Builtin.Str.occurrences (sOf y) (sOf x) 0 (sOf y).length 1).isEmpty
theorem v_inS : VOp (fun x y H Q => ∃ i j, x = .str i ∧ y = .str j ∧ Q (.bl (!(Builtin.Str.occurrences j i 0 j.length 1).isEmpty)) H) tStr tStr tBool (fun x y => some (inS x y)) := by
  intro x y z v u F M H Q e ⟨_, rx⟩ ⟨_, ry⟩ g q
  cases e
  exact ⟨sOf x, sOf y, rx, ry, fl (gA := V.bl) q g⟩
theorem v_niS : VOp (fun x y H Q => ∃ i j, x = .str i ∧ y = .str j ∧ Q (.bl (!(!(Builtin.Str.occurrences j i 0 j.length 1).isEmpty))) H) tStr tStr tBool (fun x y => some (!inS x y)) := by
  intro x y z v u F M H Q e ⟨_, rx⟩ ⟨_, ry⟩ g q
  cases e
  exact ⟨sOf x, sOf y, rx, ry, fl (gA := V.bl) q g⟩
theorem re_inS {m n : SM (OT os) (List Nat)} (ha : RE X Γ os a tStr m) (hb : RE X Γ os b tStr n) (hm : behindInMarks .In b = false := by rfl) : RE X Γ os (.Compare a [.In] [b] pos) tBool (SM.bind m fun x => SM.bind n fun y => SM.lift (some (inS x y))) := re_cmp op_in_str v_inS imF imF ha hb hm
theorem re_niS {m n : SM (OT os) (List Nat)} (ha : RE X Γ os a tStr m) (hb : RE X Γ os b tStr n) (hm : behindInMarks .NotIn b = false := by rfl) : RE X Γ os (.Compare a [.NotIn] [b] pos) tBool (SM.bind m fun x => SM.bind n fun y => SM.lift (some (!inS x y))) := re_cmp op_notin_str v_niS imF imF ha hb hm
theorem inS_one (l : List Nat) (c : Nat) : inS [c] l = decide (c ∈ l) := SX.in_one l c
/-! ### comparisons as tests -/
theorem rt_lt {ma mb : SM (OT os) Int} (ha : RE X Γ os a tInt ma) (hb : RE X Γ os b tInt mb) : RT X Γ os (.Compare a [.Lt] [b] pos) (SM.bind ma fun x => SM.bind mb fun y => SM.lift (some (decide (x < y)))) := rt_cmp op_lt v_IB imF imF ha hb
theorem rt_le {ma mb : SM (OT os) Int} (ha : RE X Γ os a tInt ma) (hb : RE X Γ os b tInt mb) : RT X Γ os (.Compare a [.LtE] [b] pos) (SM.bind ma fun x => SM.bind mb fun y => SM.lift (some (decide (x ≤ y)))) := rt_cmp op_le v_IB imF imF ha hb
theorem rt_gt {ma mb : SM (OT os) Int} (ha : RE X Γ os a tInt ma) (hb : RE X Γ os b tInt mb) : RT X Γ os (.Compare a [.Gt] [b] pos) (SM.bind ma fun x => SM.bind mb fun y => SM.lift (some (decide (y < x)))) := rt_cmp op_gt v_IB imF imF ha hb
theorem rt_ge {ma mb : SM (OT os) Int} (ha : RE X Γ os a tInt ma) (hb : RE X Γ os b tInt mb) : RT X Γ os (.Compare a [.GtE] [b] pos) (SM.bind ma fun x => SM.bind mb fun y => SM.lift (some (decide (y ≤ x)))) := rt_cmp op_ge v_IB imF imF ha hb
theorem rt_eq {A : Type} {gA : A → V} [DecidableEq A] (s : Sca A gA) {ma mb : SM (OT os) A} (ha : RE X Γ os a (flat A gA) ma) (hb : RE X Γ os b (flat A gA) mb) : RT X Γ os (.Compare a [.Eq] [b] pos) (SM.bind ma fun x => SM.bind mb fun y => SM.lift (some (decide (x = y)))) := rt_cmp op_eq (v_eq s) imF imF ha hb
theorem rt_eq0 (xo : XOk X N sc B k) {m n : SM (OT os) (List Nat)} (ha : RE X Γ os a (tLst tChr) m) (hb : RE X Γ os (.List [] p) (tLst tChr) n) : RT X Γ os (.Compare a [.Eq] [.List [] p] pos) (SM.bind m fun x => SM.bind n fun y => SM.lift (if y = [] ∧ okC x = true then some (decide (x = [])) else none)) := rt_cmp (op_eqD (units_ok xo)) v_eq0 im_lst im_lst ha hb
theorem rt_ne {A : Type} {gA : A → V} [DecidableEq A] (s : Sca A gA) {ma mb : SM (OT os) A} (ha : RE X Γ os a (flat A gA) ma) (hb : RE X Γ os b (flat A gA) mb) : RT X Γ os (.Compare a [.NotEq] [b] pos) (SM.bind ma fun x => SM.bind mb fun y => SM.lift (some (!decide (x = y)))) := rt_cmp op_ne (v_ne s) imF imF ha hb
theorem rt_ne0 (xo : XOk X N sc B k) {m n : SM (OT os) (List Nat)} (ha : RE X Γ os a (tLst tChr) m) (hb : RE X Γ os (.List [] p) (tLst tChr) n) : RT X Γ os (.Compare a [.NotEq] [.List [] p] pos) (SM.bind m fun x => SM.bind n fun y => SM.lift (if y = [] ∧ okC x = true then some (!decide (x = [])) else none)) := rt_cmp (op_neD (units_ok xo)) v_ne0 im_lst im_lst ha hb
theorem rt_inC {m : SM (OT os) Nat} {n : SM (OT os) (List Nat)} (ha : RE X Γ os a tChr m) (hb : RE X Γ os b tStr n) (hm : behindInMarks .In b = false := by rfl) : RT X Γ os (.Compare a [.In] [b] pos) (SM.bind m fun x => SM.bind n fun y => SM.lift (some (decide (x ∈ y)))) := rt_cmp op_in_sign v_inC imF imF ha hb hm
theorem rt_inS {m n : SM (OT os) (List Nat)} (ha : RE X Γ os a tStr m) (hb : RE X Γ os b tStr n) (hm : behindInMarks .In b = false := by rfl) : RT X Γ os (.Compare a [.In] [b] pos) (SM.bind m fun x => SM.bind n fun y => SM.lift (some (inS x y))) := rt_cmp op_in_str v_inS imF imF ha hb hm
theorem rt_niC {m : SM (OT os) Nat} {n : SM (OT os) (List Nat)} (ha : RE X Γ os a tChr m) (hb : RE X Γ os b tStr n) (hm : behindInMarks .NotIn b = false := by rfl) : RT X Γ os (.Compare a [.NotIn] [b] pos) (SM.bind m fun x => SM.bind n fun y => SM.lift (some (!decide (x ∈ y)))) := rt_cmp op_notIn_sign v_niC imF imF ha hb hm
theorem rt_niS {m n : SM (OT os) (List Nat)} (ha : RE X Γ os a tStr m) (hb : RE X Γ os b tStr n) (hm : behindInMarks .NotIn b = false := by rfl) : RT X Γ os (.Compare a [.NotIn] [b] pos) (SM.bind m fun x => SM.bind n fun y => SM.lift (some (!inS x y))) := rt_cmp op_notin_str v_niS imF imF ha hb hm
end
end Mi

namespace Mi
open PySem PySem.Spec PyProof.Rows L2
theorem bindsK {K : PySem.W.Frag} {x qual : Str} {params : Arguments} {body : List Stmt} {scope : Scope} {kws : List (Str × V)} {f : Addr} {fd : FuncData} {ps : List Str} (F : FunD K x qual params body scope [] kws f fd)
    (h : ∀ (kV doc pm : Value) (an : Option Addr) (cdv ct : Value) (us : List Value), us.length = ps.length → bindArgs (PySem.W.fnOf x qual params body scope .none kV doc pm an cdv ct) ⟨[], ps.zip us⟩ = pure (ps.zip us)) (s : Shared) (us : List Value) (hl : us.length = ps.length) : BindsTo s fd ⟨[], ps.zip us⟩ (ps.zip us) := by
  obtain ⟨oc, od, dV, kV, doc, pm, an, cdv, ct, osl, rfl, lk, hcd, hD, hK⟩ := F.ex
  rcases hD with ⟨_, rfl⟩ | ⟨e, _⟩
  · exact .of_eq (h kV doc pm an cdv ct us hl)
  · exact absurd rfl e
/-- an exception's way out, of any world -/
def CXA : CXT := fun outer H s E u s' => ∃ P w, L2.CX P w outer H s E u s'
theorem any_world {P : Program} {w : World} {K : PySem.W.Frag} {mg : Str → Option Value} {base : Heap} {k : Nat} {f : Addr} {fd : FuncData} {ps : List Str} {sp : Sp} (F : FnOk P w K mg base (L2.CX P w) k f fd ps sp) : FnOk P w K mg base CXA k f fd ps sp := by
  refine ⟨F.len, fun A outer s H args us vs Q E hr he hb hv hs => codeAny_mono (F.run A outer s H args us vs Q E hr he hb hv hs) fun r s' h => ?_⟩
  cases r with
  | error e => exact ⟨P, w, h⟩
  | ok fl => cases fl <;> exact h
end Mi

namespace Mi
open PySem PySem.Spec PyProof.Rows L2
/-! ### plain laws of the mirrors -/
theorem at0 {a b c : Int} : atI [a, b, c] 0 = some a := rfl
theorem at1 {a b c : Int} : atI [a, b, c] 1 = some b := rfl
theorem at2 {a b c : Int} : atI [a, b, c] 2 = some c := rfl
theorem ix0 {a b c : Int} : ixN [a, b, c].length 0 = some 0 := rfl
theorem ix2 {a b c : Int} : ixN [a, b, c].length 2 = some 2 := rfl
theorem set0 {a b c d : Int} : [a, b, c].set 0 d = [d, b, c] := rfl
theorem set2 {a b c d : Int} : [a, b, c].set 2 d = [a, b, d] := rfl
theorem div_ok {x m : Int} (h0 : 0 < m) (h : m < 2 ^ 40) : CDivW x m := by
  refine ⟨h0, ?_⟩
  have h2 : m.natAbs < 2 ^ 40 := by omega
  by_cases hz : m.natAbs = 0
  · rw [hz]; decide
  · have := (Nat.log2_lt hz).mpr h2
    omega
theorem pow_ok {x j : Int} (h0 : 0 ≤ x) (h : x < 2 ^ 64) (hj : 0 ≤ j) (hk : j ≤ 1000000) : CPow x j := ⟨hj, hk, by omega⟩
theorem mul_ok {x y : Int} (h : -(2 ^ 64) < x ∧ x < 2 ^ 64) : CMul x y := .inl h
theorem mapS_pure {O A C : Type} {mt : A → SM O Bool} {me : A → SM O C} {p : A → Bool} {f : A → C} {o : O} : ∀ (xs : List A), (∀ x ∈ xs, mt x o = some (.ok (p x), o)) → (∀ x ∈ xs, p x = true → me x o = some (.ok (f x), o)) → mapS mt me xs o = some (.ok ((xs.filter p).map f), o)
  | [], _, _ => rfl
  | x :: xs, hp, hf => by
    have ih := mapS_pure xs (fun y hy => hp y (List.mem_cons_of_mem _ hy)) (fun y hy => hf y (List.mem_cons_of_mem _ hy))
    have e := hp x List.mem_cons_self
    cases hx : p x with
    | true =>
      have e2 := hf x List.mem_cons_self hx
      rw [hx] at e
      simp only [mapS, SM.bind, SM.ret, noX, e, e2, ih, if_true, List.filter_cons, hx, List.map_cons]
    | false =>
      rw [hx] at e
      simp only [mapS, SM.bind, SM.ret, noX, e, ih, Bool.false_eq_true, if_false, List.filter_cons, hx]
/-- all turns add an item -/
theorem mapS_all {O A C : Type} {mt : A → SM O Bool} {me : A → SM O C} {I : Nat → O → Prop} {R : C → Prop} (ht : ∀ x o, mt x o = some (.ok true, o)) : ∀ (xs : List A) (n : Nat) (o : O),
    (∀ x ∈ xs, ∀ k o, n ≤ k → k < n + xs.length → I k o → ∃ y o', me x o = some (.ok y, o') ∧ I (k + 1) o' ∧ R y) → I n o → ∃ ys o', mapS mt me xs o = some (.ok ys, o') ∧ I (n + xs.length) o' ∧ ys.length = xs.length ∧ ∀ y ∈ ys, R y
  | [], n, o, _, h => ⟨[], o, rfl, h, rfl, fun y hy => by cases hy⟩
  | x :: xs, n, o, hs, h => by
    obtain ⟨y, o1, e1, i1, r1⟩ := hs x List.mem_cons_self n o (Nat.le_refl _) (by rw [List.length_cons]; omega) h
    obtain ⟨ys, o2, e2, i2, l2, r2⟩ := mapS_all ht xs (n + 1) o1 (fun z hz k o hk hk2 => hs z (List.mem_cons_of_mem _ hz) k o (by omega) (by rw [List.length_cons]; omega)) i1
    refine ⟨y :: ys, o2, ?_, by rw [List.length_cons]; rwa [show n + (xs.length + 1) = n + 1 + xs.length by omega], by rw [List.length_cons, List.length_cons, l2], fun z hz => ?_⟩
    · simp only [mapS, SM.bind, SM.ret, noX, ht, e1, e2, if_true]
    · rcases List.mem_cons.mp hz with rfl | q
      · exact r1
      · exact r2 z q
theorem forS_inv {α β : Type} {G : FX} {L : LC} {os : Os} {body : α → β → OT os → Option (Out (β × OT os) (β × OT os) G.tr.A (OT G.ps))} {P : Nat → β → OT os → Prop} : ∀ (xs : List α) (n : Nat) (b : β) (o : OT os),
    (∀ x ∈ xs, ∀ k b o, n ≤ k → k < n + xs.length → P k b o → ∃ b' o', body x b o = some (.nxt (b', o')) ∧ P (k + 1) b' o') → P n b o → ∃ b' o', forS (L := L) body xs b o = some (.nxt (b', o')) ∧ P (n + xs.length) b' o'
  | [], n, b, o, _, h => ⟨b, o, rfl, h⟩
  | x :: xs, n, b, o, hs, h => by
    obtain ⟨b1, o1, e1, i1⟩ := hs x List.mem_cons_self n b o (Nat.le_refl _) (by rw [List.length_cons]; omega) h
    obtain ⟨b2, o2, e2, i2⟩ := forS_inv (L := L) xs (n + 1) b1 o1 (fun z hz k b o hk hk2 => hs z (List.mem_cons_of_mem _ hz) k b o (by omega) (by rw [List.length_cons]; omega)) i1
    refine ⟨b2, o2, ?_, by rw [List.length_cons]; rwa [show n + (xs.length + 1) = n + 1 + xs.length by omega]⟩
    show Out.turn (body x b o) (forS body xs) = _
    rw [e1]
    exact e2
/-- every turn leaves all as it was -/
theorem forS_same {α : Type} {G : FX} {L : LC} {os : Os} {body : α → Unit → OT os → Option (Out (Unit × OT os) (Unit × OT os) G.tr.A (OT G.ps))} {o : OT os} : ∀ (xs : List α), (∀ x ∈ xs, body x () o = some (.nxt ((), o))) → forS (L := L) body xs () o = some (.nxt ((), o))
  | [], _ => rfl
  | x :: xs, h => by
    show Out.turn (body x () o) (forS body xs) = _
    rw [h x List.mem_cons_self]
    exact forS_same xs fun y hy => h y (List.mem_cons_of_mem _ hy)
theorem small_len {α : Type} {l : List α} (h : l.length ≤ 16777216) : l.length ≤ sizeLine := by rw [sizeLine_eq]; exact h
theorem cnt_pos (l : List Nat) (c : Nat) : decide (0 < cntC l c) = decide (c ∈ l) := by
  have h1 := PySem.StrLaws.occ_head (sOf l) (sOf [c]) ((sOf l).length + 1) (by omega)
  have h2 := PySem.StrLaws.occ_head (sOf l) (sOf [c]) 1 (by omega)
  have h3 : (!(Builtin.Str.occurrences (sOf l) (sOf [c]) 0 (sOf l).length 1).isEmpty) = decide (c ∈ l) := SX.in_one l c
  have e : cntC l c = ((Builtin.Str.occurrences (sOf l) (sOf [c]) 0 (sOf l).length ((sOf l).length + 1)).length : Int) := rfl
  rw [← h3, e]
  rcases h1 with ⟨e1, n1⟩ | ⟨i, r, e1, a1, _⟩
  · rcases h2 with ⟨e2, n2⟩ | ⟨j, r2, e2, a2, _⟩
    · rw [e1, e2]; rfl
    · exact absurd a2 (n1 j)
  · rcases h2 with ⟨e2, n2⟩ | ⟨j, r2, e2, a2, _⟩
    · exact absurd a1 (n2 i)
    · rw [e1, e2]
      simp
end Mi

namespace K
open PySem PySem.Spec PyProof.Rows L2 Mi

def top (i : Nat) : Stmt := PySem.Challenge.pw_canontext_k01_characters_and_texts.main.body.getD i (.Pass ⟨0, 0, 0, 0⟩)
abbrev Bn : List Str := ["isinstance", "str", "len", "range", "max", "min", "repr", "all", "sorted", "list"]
/-! ### _law_signs -/
abbrev st__law_signs : Stmt := top 12
abbrev N__law_signs : List Str := []
abbrev ps__law_signs : List Str := []
abbrev G__law_signs : FX := ⟨[], [], tStr⟩
def L__law_signs (K : PySem.W.Frag) (M : Md) : Prop := M.K = K
set_option maxHeartbeats 4000000 in
noncomputable def d__law_signs (K : PySem.W.Frag) : { m : (Unit) → OT [] → OutT G__law_signs LC.none Unit [] // ∀ (X : Cx) (lks : L__law_signs K X.md) (xo : XOk X N__law_signs (defScope st__law_signs) Bn 0) (xs : XS X) (x : Unit), RB X G__law_signs LC.none [] [] (defBody st__law_signs) (fun _ : Unit => []) [] (m x) } := ⟨_, fun X lks xo xs x =>
  rb_one (rs_ret (G := G__law_signs) .nil (re_str [97, 98, 99, 100, 101, 102, 103, 104, 105, 106, 107, 108, 109, 110, 111, 112, 113, 114, 115, 116, 117, 118, 119, 120, 121, 122, 65, 66, 67, 68, 69, 70, 71, 72, 73, 74, 75, 76, 77, 78, 79, 80, 81, 82, 83, 84, 85, 86, 87, 88, 89, 90, 48, 49, 50, 51, 52, 53, 54, 55, 56, 57]))⟩
noncomputable def r__law_signs (K : PySem.W.Frag) : (Unit) → Option (Except Exn tStr.A) := fun x => runZ (none) ((d__law_signs K).1 x ())

/-! ### is_character -/
abbrev st_is_character : Stmt := top 5
abbrev N_is_character : List Str := ["value"]
abbrev ps_is_character : List Str := ["value"]
abbrev G_is_character : FX := ⟨[], [], tBool⟩
def L_is_character (K : PySem.W.Frag) (M : Md) : Prop := LkC M "CHARACTERS" (.str (sOf [48, 49, 50, 51, 52, 53, 54, 55, 56, 57, 65, 66, 67, 68, 69, 70, 71, 72, 73, 74, 75, 76, 77, 78, 79, 80, 81, 82, 83, 84, 85, 86, 87, 88, 89, 90, 97, 98, 99, 100, 101, 102, 103, 104, 105, 106, 107, 108, 109, 110, 111, 112, 113, 114, 115, 116, 117, 118, 119, 120, 121, 122])) ∧ M.K = K
set_option maxHeartbeats 4000000 in
noncomputable def d_is_character (K : PySem.W.Frag) : { m : (tDat.A × Unit) → OT [] → OutT G_is_character LC.none Unit [] // ∀ (X : Cx) (lks : L_is_character K X.md) (xo : XOk X N_is_character (defScope st_is_character) Bn 0) (xs : XS X) (x : tDat.A × Unit), RB X G_is_character LC.none [some ⟨tDat, x.1⟩] [] (defBody st_is_character) (fun _ : Unit => []) [] (m x) } := ⟨_, fun X lks xo xs x =>
  rb_one (rs_ret (G := G_is_character) .nil (re_andIsi xo 0 0 1 0 2 1 fun v6 => re_and (re_eq sca_int (re_lenS xo 3 2 (ra_cons imF (re_var xo 0 0) ra_nil)) re_int) (re_one (re_inS (re_var xo 0 0) (re_gstr xo (lks.1) 4)))))⟩
noncomputable def r_is_character (K : PySem.W.Frag) : (tDat.A × Unit) → Option (Except Exn tBool.A) := fun x => runZ (none) ((d_is_character K).1 x ())

/-! ### _law_all_signs_right -/
abbrev st__law_all_signs_right : Stmt := top 16
abbrev N__law_all_signs_right : List Str := ["signs", "sign"]
abbrev ps__law_all_signs_right : List Str := []
abbrev G__law_all_signs_right : FX := ⟨[], [], tBool⟩
def L__law_all_signs_right (K : PySem.W.Frag) (M : Md) : Prop := LkP M "_law_signs" ps__law_signs [] tStr (r__law_signs K) 1 ∧ LkP M "is_character" ps_is_character [tDat] tBool (r_is_character K) 1 ∧ M.K = K
set_option maxHeartbeats 4000000 in
noncomputable def d__law_all_signs_right (K : PySem.W.Frag) : { m : (Unit) → OT [] → OutT G__law_all_signs_right LC.none Unit [] // ∀ (X : Cx) (lks : L__law_all_signs_right K X.md) (xo : XOk X N__law_all_signs_right (defScope st__law_all_signs_right) Bn 1) (xs : XS X) (x : Unit), RB X G__law_all_signs_right LC.none [none, none] [] (defBody st__law_all_signs_right) (fun _ : Unit => []) [] (m x) } := ⟨_, fun X lks xo xs x =>
  rb_asg xo (G := G__law_all_signs_right) .nil 0 0 imF (re_addS (re_str [32, 33, 34, 35, 36, 38, 39, 40, 41, 42, 43, 44, 45, 46, 47, 58, 59, 60, 61, 62, 63, 64, 91, 92, 93, 94, 95, 96, 123, 124, 125, 126, 10]) (re_call0 xo (lks.1) 1)) fun v1 =>
  rb_one (rs_ret (G := G__law_all_signs_right) .nil (re_eq0 xo (re_frz frz_own (re_lc lks xo [("sign", 1)] [0] imF (ri_str (re_var xo 0 0)) (fun X3 o5 => rg_name o5 1 1) (fun X3 l4 o5 v2 => rts_one (rt_ne sca_bool (re_call o5 (l4.2.1) 2 (ra_cons im_dat (re_cv cv_chrD (re_var o5 1 1)) ra_nil)) (re_inC (re_var o5 1 1) (re_call0 o5 (l4.1) 3)))) (fun X3 l4 o5 v2 => re_var o5 1 1))) (re_frz frz_own (re_list (t := tChr) ral_nil))))⟩
noncomputable def r__law_all_signs_right (K : PySem.W.Frag) : (Unit) → Option (Except Exn tBool.A) := fun x => runZ (none) ((d__law_all_signs_right K).1 x ())

/-! ### _law_cell -/
abbrev st__law_cell : Stmt := top 9
abbrev N__law_cell : List Str := ["script", "k"]
abbrev ps__law_cell : List Str := ["script", "k"]
abbrev G__law_cell : FX := ⟨[], [], tInt⟩
def L__law_cell (K : PySem.W.Frag) (M : Md) : Prop := M.K = K
set_option maxHeartbeats 4000000 in
noncomputable def d__law_cell (K : PySem.W.Frag) : { m : (List Int × tInt.A × Unit) → OT [] → OutT G__law_cell LC.none Unit [] // ∀ (X : Cx) (lks : L__law_cell K X.md) (xo : XOk X N__law_cell (defScope st__law_cell) Bn 0) (xs : XS X) (x : List Int × tInt.A × Unit), RB X G__law_cell LC.none [some ⟨(tScr K), x.1⟩, some ⟨tInt, x.2.1⟩] [] (defBody st__law_cell) (fun _ : Unit => []) [] (m x) } := ⟨_, fun X lks xo xs x =>
  rb_cons (G := G__law_cell) (Γm := fun b10 : Unit => [some ⟨(tScr K), x.1⟩, some ⟨tInt, x.2.1⟩]) (om := []) (rs_if (G := G__law_cell) .nil (rt_lt (re_var xo 1 1) (re_lenX xo lks 2 2 (ra_cons im_scr (re_var xo 0 0) ra_nil))) (rb_one (rs_ret (G := G__law_cell) .nil (re_ixX lks (re_var xo 0 0) (re_var xo 1 1)))) (rb_nil (G := G__law_cell) (Γn := fun b10 : Unit => [some ⟨(tScr K), x.1⟩, some ⟨tInt, x.2.1⟩]) () (.same (.same .nil)) .nil)) fun b10 =>
  rb_one (rs_ret (G := G__law_cell) .nil (re_add (re_mul re_int (re_var xo 1 1)) re_int))⟩
noncomputable def r__law_cell (K : PySem.W.Frag) : (List Int × tInt.A × Unit) → Option (Except Exn tInt.A) := fun x => runZ (none) ((d__law_cell K).1 x ())

/-! ### _law_box -/
abbrev st__law_box : Stmt := top 10
abbrev N__law_box : List Str := ["cell"]
abbrev ps__law_box : List Str := ["cell"]
abbrev G__law_box : FX := ⟨[], [], (tOwn tInt)⟩
def L__law_box (K : PySem.W.Frag) (M : Md) : Prop := M.K = K
set_option maxHeartbeats 4000000 in
noncomputable def d__law_box (K : PySem.W.Frag) : { m : (tInt.A × Unit) → OT [] → OutT G__law_box LC.none Unit [] // ∀ (X : Cx) (lks : L__law_box K X.md) (xo : XOk X N__law_box (defScope st__law_box) Bn 0) (xs : XS X) (x : tInt.A × Unit), RB X G__law_box LC.none [some ⟨tInt, x.1⟩] [] (defBody st__law_box) (fun _ : Unit => []) [] (m x) } := ⟨_, fun X lks xo xs x =>
  rb_one (rs_ret (G := G__law_box) .nil (re_list (t := tInt) (ral_cons imF (re_max2 xo 1 4 (ra_cons imF re_int (ra_cons imF (re_sub (re_var xo 0 0) (re_pow re_int re_int)) ra_nil))) (ral_cons imF (re_mod (re_var xo 0 0) re_int) (ral_cons imF re_int ral_nil)))))⟩
noncomputable def r__law_box (K : PySem.W.Frag) : (tInt.A × Unit) → Option (Except Exn (tOwn tInt).A) := fun x => runZ (none) ((d__law_box K).1 x ())

/-! ### _law_take -/
abbrev st__law_take : Stmt := top 11
abbrev N__law_take : List Str := ["box", "many", "digit", "mixed"]
abbrev ps__law_take : List Str := ["box", "many"]
abbrev G__law_take : FX := ⟨[0], [(0, (tOwn tInt))], tInt⟩
def L__law_take (K : PySem.W.Frag) (M : Md) : Prop := M.K = K
set_option maxHeartbeats 4000000 in
noncomputable def d__law_take (K : PySem.W.Frag) : { m : (tInt.A × Unit) → OT [(0, (tOwn tInt))] → OutT G__law_take LC.none Unit [] // ∀ (X : Cx) (lks : L__law_take K X.md) (xo : XOk X N__law_take (defScope st__law_take) Bn 0) (xs : XS X) (x : tInt.A × Unit), RB X G__law_take LC.none [none, some ⟨tInt, x.1⟩, none, none] [(0, (tOwn tInt))] (defBody st__law_take) (fun _ : Unit => []) [] (m x) } := ⟨_, fun X lks xo xs x =>
  rb_cons (G := G__law_take) (Γm := fun b13 : Unit => [none, some ⟨tInt, x.1⟩, none, none]) (om := [(0, (tOwn tInt))]) (rs_if (G := G__law_take) (.keep .nil) (rt_gt (re_borrow .here frz_own flat_im fun v12 => re_ixL imF (re_var xo 0 0) re_int) re_int) (rb_asg xo (G := G__law_take) (.keep .nil) 2 2 imF (re_mod (re_borrow .here frz_own flat_im fun v14 => re_ixL imF (re_var xo 0 0) re_int) (re_var xo 1 1)) fun v15 =>
  rb_setL xo (G := G__law_take) (.keep .nil) .here 0 imF (re_fdiv (re_borrow .here frz_own flat_im fun v16 => re_ixL imF (re_var xo 0 0) re_int) (re_var xo 1 1)) re_int
  (rb_one (rs_ret (G := G__law_take) (.keep .nil) (re_var xo 2 2)))) (rb_nil (G := G__law_take) (Γn := fun b13 : Unit => [none, some ⟨tInt, x.1⟩, none, none]) () (.same (.same (.same (.same .nil)))) (.keep .nil))) fun b13 =>
  rb_setL xo (G := G__law_take) (.keep .nil) .here 0 imF (re_add (re_borrow .here frz_own flat_im fun v17 => re_ixL imF (re_var xo 0 0) re_int) re_int) re_int
  (rb_asg xo (G := G__law_take) (.keep .nil) 3 3 imF (re_mod (re_pow (re_add (re_add (re_borrow .here frz_own flat_im fun v18 => re_ixL imF (re_var xo 0 0) re_int) (re_mul re_int (re_borrow .here frz_own flat_im fun v19 => re_ixL imF (re_var xo 0 0) re_int))) re_int) re_int) re_int) fun v20 =>
  rb_asg xo (G := G__law_take) (.keep .nil) 3 3 imF (re_mod (re_pow (re_add (re_var xo 3 3) (re_mul re_int (re_borrow .here frz_own flat_im fun v21 => re_ixL imF (re_var xo 0 0) re_int))) re_int) re_int) fun v22 =>
  rb_one (rs_ret (G := G__law_take) (.keep .nil) (re_mod (re_fdiv (re_var xo 3 3) re_int) (re_var xo 1 1))))⟩
noncomputable def r__law_take (K : PySem.W.Frag) : (tOwn tInt).A → (tInt.A × Unit) → Option (Except Exn tInt.A × (tOwn tInt).A) := fun y x => runO ((d__law_take K).1 x (y, ()))

/-! ### _law_string -/
abbrev st__law_string : Stmt := top 13
abbrev N__law_string : List Str := ["box", "many", "k"]
abbrev ps__law_string : List Str := ["box", "many"]
abbrev G__law_string : FX := ⟨[0], [(0, (tOwn tInt))], tStr⟩
def L__law_string (K : PySem.W.Frag) (M : Md) : Prop := LkO M "_law_take" ps__law_take (tOwn tInt) [tInt] tInt (r__law_take K) 1 ∧ LkP M "_law_signs" ps__law_signs [] tStr (r__law_signs K) 1 ∧ M.K = K
set_option maxHeartbeats 4000000 in
noncomputable def d__law_string (K : PySem.W.Frag) : { m : (tInt.A × Unit) → OT [(0, (tOwn tInt))] → OutT G__law_string LC.none Unit [] // ∀ (X : Cx) (lks : L__law_string K X.md) (xo : XOk X N__law_string (defScope st__law_string) Bn 1) (xs : XS X) (x : tInt.A × Unit), RB X G__law_string LC.none [none, some ⟨tInt, x.1⟩, none] [(0, (tOwn tInt))] (defBody st__law_string) (fun _ : Unit => []) [] (m x) } := ⟨_, fun X lks xo xs x =>
  rb_one (rs_ret (G := G__law_string) (.keep .nil) (re_join0 (re_frz frz_own (re_lc lks xo [("k", 2)] [0, 1] imF (ri_range1 xo 2 3 (ra_cons imF (re_callO xo (lks.1) 3 .here 0 (ra_cons imF (re_add (re_var xo 1 1) re_int) ra_nil) (hib := by rfl)) ra_nil)) (fun X24 o26 => rg_name o26 2 1) (fun X24 l25 o26 v23 => rts_nil) (fun X24 l25 o26 v23 => re_ixS (re_call0 o26 (l25.2.1) 2) (re_callO o26 (l25.1) 3 .here 4 (ra_cons imF re_int ra_nil) (hib := by rfl)))))))⟩
noncomputable def r__law_string (K : PySem.W.Frag) : (tOwn tInt).A → (tInt.A × Unit) → Option (Except Exn tStr.A × (tOwn tInt).A) := fun y x => runO ((d__law_string K).1 x (y, ()))

/-! ### _law_odd -/
abbrev st__law_odd : Stmt := top 14
abbrev N__law_odd : List Str := ["box", "some"]
abbrev ps__law_odd : List Str := ["box"]
abbrev G__law_odd : FX := ⟨[0], [(0, (tOwn tInt))], tDat⟩
def L__law_odd (K : PySem.W.Frag) (M : Md) : Prop := LkO M "_law_take" ps__law_take (tOwn tInt) [tInt] tInt (r__law_take K) 1 ∧ M.K = K
set_option maxHeartbeats 4000000 in
noncomputable def d__law_odd (K : PySem.W.Frag) : { m : (Unit) → OT [(0, (tOwn tInt))] → OutT G__law_odd LC.none Unit [] // ∀ (X : Cx) (lks : L__law_odd K X.md) (xo : XOk X N__law_odd (defScope st__law_odd) Bn 1) (xs : XS X) (x : Unit), RB X G__law_odd LC.none [none, none] [(0, (tOwn tInt))] (defBody st__law_odd) (fun _ : Unit => []) [] (m x) } := ⟨_, fun X lks xo xs x =>
  rb_asg xo (G := G__law_odd) (.keep .nil) 1 1 im_lst (re_frz frz_own (re_list (t := tDat) (ral_cons im_dat (re_cv cv_nonD re_none) (ral_cons im_dat (re_cv cv_boolD re_bool) (ral_cons im_dat (re_cv cv_intD re_int) (ral_cons im_dat (re_cv cv_intD re_int) (ral_cons im_dat (re_cv cv_strD (re_str [])) (ral_cons im_dat (re_cv cv_strD (re_str [32])) (ral_cons im_dat (re_cv cv_strD (re_str [95])) (ral_cons im_dat (re_cv cv_strD (re_str [97, 32, 98])) (ral_cons im_dat (re_cv cv_strD (re_str [97, 98])) (ral_cons im_dat (re_cv cv_strD (re_str [97, 45])) (ral_cons im_dat (re_cv cv_strD (re_str [10])) (ral_cons im_dat (re_cv cv_tupO (re_tup (ts := []) ra_nil)) (ral_cons im_dat (re_cv cv_tupO (re_tup (ts := [tStr]) (ra_cons imF (re_str [97]) ra_nil))) (ral_cons im_dat (re_cv cv_lstO (re_frz frz_own (re_list (t := tStr) (ral_cons imF (re_str [97]) ral_nil)))) (ral_cons im_dat re_dict0 (ral_cons im_dat re_dict1 (ral_cons im_dat (re_cv cv_strD (re_str [122, 123])) (ral_cons im_dat (re_cv cv_strD (re_str [64, 65])) (ral_cons im_dat (re_cv cv_strD (re_str [57, 58])) ral_nil))))))))))))))))))))) fun v28 =>
  rb_one (rs_ret (G := G__law_odd) (.keep .nil) (re_ixL im_dat (re_var xo 1 1) (re_callO xo (lks.1) 2 .here 0 (ra_cons imF re_int ra_nil) (hib := by rfl))))⟩
noncomputable def r__law_odd (K : PySem.W.Frag) : (tOwn tInt).A → (Unit) → Option (Except Exn tDat.A × (tOwn tInt).A) := fun y x => runO ((d__law_odd K).1 x (y, ()))

/-! ### _law_is_sign -/
abbrev st__law_is_sign : Stmt := top 15
abbrev N__law_is_sign : List Str := ["thing", "sign"]
abbrev ps__law_is_sign : List Str := ["thing"]
abbrev G__law_is_sign : FX := ⟨[], [], tBool⟩
def L__law_is_sign (K : PySem.W.Frag) (M : Md) : Prop := LkP M "_law_signs" ps__law_signs [] tStr (r__law_signs K) 1 ∧ M.K = K
set_option maxHeartbeats 4000000 in
noncomputable def d__law_is_sign (K : PySem.W.Frag) : { m : (tDat.A × Unit) → OT [] → OutT G__law_is_sign LC.none Unit [] // ∀ (X : Cx) (lks : L__law_is_sign K X.md) (xo : XOk X N__law_is_sign (defScope st__law_is_sign) Bn 1) (xs : XS X) (x : tDat.A × Unit), RB X G__law_is_sign LC.none [some ⟨tDat, x.1⟩, none] [] (defBody st__law_is_sign) (fun _ : Unit => []) [] (m x) } := ⟨_, fun X lks xo xs x =>
  rb_one (rs_ret (G := G__law_is_sign) .nil (re_andIsi xo 0 0 1 0 2 1 fun v31 => re_one (re_ne0 xo (re_frz frz_own (re_lc lks xo [("sign", 1)] [0] imF (ri_str (re_call0 xo (lks.1) 3)) (fun X33 o35 => rg_name o35 1 1) (fun X33 l34 o35 v32 => rts_one (rt_eq sca_str (re_cv cv_chr (re_var o35 1 1)) (re_var o35 0 2))) (fun X33 l34 o35 v32 => re_var o35 1 1))) (re_frz frz_own (re_list (t := tChr) ral_nil)))))⟩
noncomputable def r__law_is_sign (K : PySem.W.Frag) : (tDat.A × Unit) → Option (Except Exn tBool.A) := fun x => runZ (none) ((d__law_is_sign K).1 x ())

/-! ### is_text -/
abbrev st_is_text : Stmt := top 6
abbrev N_is_text : List Str := ["value", "characters", "char"]
abbrev ps_is_text : List Str := ["value", "characters"]
abbrev G_is_text : FX := ⟨[], [], tBool⟩
def L_is_text (K : PySem.W.Frag) (M : Md) : Prop := M.K = K
set_option maxHeartbeats 4000000 in
noncomputable def d_is_text (K : PySem.W.Frag) : { m : (tDat.A × tStr.A × Unit) → OT [] → OutT G_is_text LC.none Unit [] // ∀ (X : Cx) (lks : L_is_text K X.md) (xo : XOk X N_is_text (defScope st_is_text) Bn 0) (xs : XS X) (x : tDat.A × tStr.A × Unit), RB X G_is_text LC.none [some ⟨tDat, x.1⟩, some ⟨tStr, x.2.1⟩, none] [] (defBody st_is_text) (fun _ : Unit => []) [] (m x) } := ⟨_, fun X lks xo xs x =>
  rb_one (rs_ret (G := G_is_text) .nil (re_andIsi xo 0 0 2 0 3 1 fun v43 => re_one (re_all xo 4 7 (ra_cons im_lst (re_frz frz_own (re_lc lks xo [("char", 2)] [0, 1] imF (ri_str (re_var xo 0 0)) (fun X45 o47 => rg_name o47 2 1) (fun X45 l46 o47 v44 => rts_nil) (fun X45 l46 o47 v44 => re_inC (re_var o47 2 1) (re_var o47 1 2)))) ra_nil))))⟩
noncomputable def r_is_text (K : PySem.W.Frag) : (tDat.A × tStr.A × Unit) → Option (Except Exn tBool.A) := fun x => runZ (none) ((d_is_text K).1 x ())

/-! ### in_order -/
abbrev st_in_order : Stmt := top 7
abbrev N_in_order : List Str := ["characters", "char"]
abbrev ps_in_order : List Str := ["characters"]
abbrev G_in_order : FX := ⟨[], [], tStr⟩
def L_in_order (K : PySem.W.Frag) (M : Md) : Prop := LkP M "is_character" ps_is_character [tDat] tBool (r_is_character K) 1 ∧ LkC M "CHARACTERS" (.str (sOf [48, 49, 50, 51, 52, 53, 54, 55, 56, 57, 65, 66, 67, 68, 69, 70, 71, 72, 73, 74, 75, 76, 77, 78, 79, 80, 81, 82, 83, 84, 85, 86, 87, 88, 89, 90, 97, 98, 99, 100, 101, 102, 103, 104, 105, 106, 107, 108, 109, 110, 111, 112, 113, 114, 115, 116, 117, 118, 119, 120, 121, 122])) ∧ M.K = K
set_option maxHeartbeats 4000000 in
noncomputable def d_in_order (K : PySem.W.Frag) : { m : (tStr.A × Unit) → OT [] → OutT G_in_order LC.none Unit [] // ∀ (X : Cx) (lks : L_in_order K X.md) (xo : XOk X N_in_order (defScope st_in_order) Bn 1) (xs : XS X) (x : tStr.A × Unit), RB X G_in_order LC.none [some ⟨tStr, x.1⟩, none] [] (defBody st_in_order) (fun _ : Unit => []) [] (m x) } := ⟨_, fun X lks xo xs x =>
  rb_cons (G := G_in_order) (Γm := fun b55 : Unit => [some ⟨tStr, x.1⟩, none]) (om := []) (rs_if (G := G_in_order) .nil (rt_not (rt_val (re_isi xo 2 0 3 1 (re_cv cv_strD (re_var xo 0 0))))) (rb_one rs_fail) (rb_nil (G := G_in_order) (Γn := fun b55 : Unit => [some ⟨tStr, x.1⟩, none]) () (.same (.same .nil)) .nil)) fun b55 =>
  rb_cons (G := G_in_order) (Γm := fun b56 : Unit => [some ⟨tStr, x.1⟩, none]) (om := []) (rs_for (G := G_in_order) (β := Unit) .nil xs.own xo.calm (ΓL := fun b56 : Unit => [some ⟨tStr, x.1⟩, none]) (b0 := ()) (.same (.same .nil)) (ri_str (re_var xo 0 0)) (fun b56 => rg_name xo 1 1) (fun v57 b56 =>
  rb_cons (G := G_in_order) (Γm := fun b58 : Unit => [some ⟨tStr, x.1⟩, some ⟨tChr, v57⟩]) (om := []) (rs_if (G := G_in_order) .nil (rt_not (rt_val (re_call xo (lks.1) 5 (ra_cons im_dat (re_cv cv_chrD (re_var xo 1 1)) ra_nil)))) (rb_one rs_fail) (rb_nil (G := G_in_order) (Γn := fun b58 : Unit => [some ⟨tStr, x.1⟩, some ⟨tChr, v57⟩]) () (.same (.same .nil)) .nil)) fun b58 =>
  rb_nil (G := G_in_order) (Γn := fun b56 : Unit => [some ⟨tStr, x.1⟩, none]) () (.same (.drop .nil)) .nil)) fun b56 =>
  rb_one (rs_ret (G := G_in_order) .nil (re_join0 (re_frz frz_own (re_lc lks xo [("char", 1)] [0] imF (ri_str (re_gstr xo (lks.2.1) 6)) (fun X60 o62 => rg_name o62 1 1) (fun X60 l61 o62 v59 => rts_one (rt_inC (re_var o62 1 1) (re_var o62 0 2))) (fun X60 l61 o62 v59 => re_var o62 1 1)))))⟩
noncomputable def r_in_order (K : PySem.W.Frag) : (tStr.A × Unit) → Option (Except Exn tStr.A) := fun x => runZ (none) ((d_in_order K).1 x ())

/-! ### law -/
abbrev st_law : Stmt := top 17
abbrev N_law : List Str := ["script", "k", "box", "known", "thing", "due", "long", "at", "less", "sign"]
abbrev ps_law : List Str := ["script"]
abbrev G_law : FX := ⟨[], [], tBool⟩
def L_law (K : PySem.W.Frag) (M : Md) : Prop := LkP M "_law_all_signs_right" ps__law_all_signs_right [] tBool (r__law_all_signs_right K) 2 ∧ LkP M "_law_cell" ps__law_cell [(tScr K), tInt] tInt (r__law_cell K) 1 ∧ LkP M "_law_box" ps__law_box [tInt] (tOwn tInt) (r__law_box K) 1 ∧ LkO M "_law_string" ps__law_string (tOwn tInt) [tInt] tStr (r__law_string K) 2 ∧ LkO M "_law_odd" ps__law_odd (tOwn tInt) [] tDat (r__law_odd K) 2 ∧ LkP M "is_character" ps_is_character [tDat] tBool (r_is_character K) 1 ∧ LkP M "_law_is_sign" ps__law_is_sign [tDat] tBool (r__law_is_sign K) 2 ∧ LkK M "is_text" ps_is_text [tDat, tStr] tBool (r_is_text K) 1 ∧ LkP M "_law_signs" ps__law_signs [] tStr (r__law_signs K) 1 ∧ LkK M "in_order" ps_in_order [tStr] tStr (r_in_order K) 2 ∧ LkO M "_law_take" ps__law_take (tOwn tInt) [tInt] tInt (r__law_take K) 1 ∧ M.K = K
set_option maxHeartbeats 4000000 in
noncomputable def d_law (K : PySem.W.Frag) : { m : (List Int × Unit) → OT [] → OutT G_law LC.none Unit [] // ∀ (X : Cx) (lks : L_law K X.md) (xo : XOk X N_law (defScope st_law) Bn 2) (xs : XS X) (x : List Int × Unit), RB X G_law LC.none [some ⟨(tScr K), x.1⟩, none, none, none, none, none, none, none, none, none] [] (defBody st_law) (fun _ : Unit => []) [] (m x) } := ⟨_, fun X lks xo xs x =>
  rb_cons (G := G_law) (Γm := fun b7 : Unit => [some ⟨(tScr K), x.1⟩, none, none, none, none, none, none, none, none, none]) (om := []) (rs_if (G := G_law) .nil (rt_not (rt_val (re_call0 xo (lks.1) 9))) (rb_one (rs_ret (G := G_law) .nil re_bool)) (rb_nil (G := G_law) (Γn := fun b7 : Unit => [some ⟨(tScr K), x.1⟩, none, none, none, none, none, none, none, none, none]) () (.same (.same (.same (.same (.same (.same (.same (.same (.same (.same .nil)))))))))) .nil)) fun b7 =>
  rb_cons (G := G_law) (Γm := fun b8 : Unit => [some ⟨(tScr K), x.1⟩, none, none, none, none, none, none, none, none, none]) (om := []) (rs_for (G := G_law) (β := Unit) .nil xs.own xo.calm (ΓL := fun b8 : Unit => [some ⟨(tScr K), x.1⟩, none, none, none, none, none, none, none, none, none]) (b0 := ()) (.same (.same (.same (.same (.same (.same (.same (.same (.same (.same .nil)))))))))) (ri_range1 xo 10 3 (ra_cons imF (re_max2 xo 11 4 (ra_cons imF re_int (ra_cons imF (re_min2 xo 12 5 (ra_cons imF re_int (ra_cons imF (re_lenX xo (lks.2.2.2.2.2.2.2.2.2.2.2) 13 2 (ra_cons im_scr (re_var xo 0 0) ra_nil)) ra_nil))) ra_nil))) ra_nil)) (fun b8 => rg_name xo 1 1) (fun v9 b8 =>
  rb_asgO xo (G := G_law) .nil 2 2 (re_call xo (lks.2.2.1) 14 (ra_cons imF (re_call xo (lks.2.1) 15 (ra_cons im_scr (re_var xo 0 0) (ra_cons imF (re_var xo 1 1) ra_nil))) ra_nil))
  (rb_asg xo (G := G_law) (.skip .nil) 3 3 imF (re_callO xo (lks.2.2.2.1) 16 .here 2 (ra_cons imF re_int ra_nil) (hib := by rfl)) fun v27 =>
  rb_cons (G := G_law) (Γm := fun b29 : Unit => [some ⟨(tScr K), x.1⟩, some ⟨tInt, v9⟩, none, some ⟨tStr, v27⟩, none, none, none, none, none, none]) (om := [(2, (tOwn tInt))]) (rs_for (G := G_law) (β := Unit) (.skip .nil) xs.own xo.calm (ΓL := fun b29 : Unit => [some ⟨(tScr K), x.1⟩, some ⟨tInt, v9⟩, none, some ⟨tStr, v27⟩, none, none, none, none, none, none]) (b0 := ()) (.same (.same (.same (.same (.same (.same (.same (.same (.same (.same .nil)))))))))) (ri_list (re_frz frz_own (re_list (t := tDat) (ral_cons im_dat (re_callO xo (lks.2.2.2.2.1) 17 .here 2 ra_nil (hib := by rfl)) (ral_cons im_dat (re_cv cv_strD (re_callO xo (lks.2.2.2.1) 16 .here 2 (ra_cons imF re_int ra_nil) (hib := by rfl))) (ral_cons im_dat (re_cv cv_strD (re_callO xo (lks.2.2.2.1) 16 .here 2 (ra_cons imF re_int ra_nil) (hib := by rfl))) (ral_cons im_dat (re_cv cv_strD (re_var xo 3 3)) (ral_cons im_dat (re_cv cv_strD (re_slS (re_var xo 3 3) ro_none (ro_some re_int))) ral_nil)))))))) (fun b29 => rg_name xo 4 4) (fun v30 b29 =>
  rb_cons (G := G_law) (Γm := fun b36 : Unit => [some ⟨(tScr K), x.1⟩, some ⟨tInt, v9⟩, none, some ⟨tStr, v27⟩, some ⟨tDat, v30⟩, none, none, none, none, none]) (om := [(2, (tOwn tInt))]) (rs_if (G := G_law) (.skip .nil) (rt_ne sca_str (re_reprB xo 18 6 (ra_cons imF (re_call xo (lks.2.2.2.2.2.1) 19 (ra_cons im_dat (re_var xo 4 4) ra_nil)) ra_nil)) (re_reprB xo 18 6 (ra_cons imF (re_call xo (lks.2.2.2.2.2.2.1) 20 (ra_cons im_dat (re_var xo 4 4) ra_nil)) ra_nil))) (rb_one (rs_ret (G := G_law) (.skip .nil) re_bool)) (rb_nil (G := G_law) (Γn := fun b36 : Unit => [some ⟨(tScr K), x.1⟩, some ⟨tInt, v9⟩, none, some ⟨tStr, v27⟩, some ⟨tDat, v30⟩, none, none, none, none, none]) () (.same (.same (.same (.same (.same (.same (.same (.same (.same (.same .nil)))))))))) (.keep .nil))) fun b36 =>
  rb_asg xo (G := G_law) (.skip .nil) 5 5 imF (re_andIsi xo 4 4 21 0 22 1 fun v37 => re_one (re_eq0 xo (re_frz frz_own (re_lc lks xo [("sign", 9)] [0, 1, 2, 3, 4, 5, 6, 7, 8] imF (ri_str (re_var xo 4 4)) (fun X39 o41 => rg_name o41 9 1) (fun X39 l40 o41 v38 => rts_one (rt_niC (re_var o41 9 1) (re_var o41 3 2))) (fun X39 l40 o41 v38 => re_var o41 9 1))) (re_frz frz_own (re_list (t := tChr) ral_nil)))) fun v42 =>
  rb_cons (G := G_law) (Γm := fun b48 : Unit => [some ⟨(tScr K), x.1⟩, some ⟨tInt, v9⟩, none, some ⟨tStr, v27⟩, some ⟨tDat, v30⟩, some ⟨tBool, v42⟩, none, none, none, none]) (om := [(2, (tOwn tInt))]) (rs_if (G := G_law) (.skip .nil) (rt_ne sca_str (re_reprB xo 18 6 (ra_cons imF (re_call xo (LkK.toP (lks.2.2.2.2.2.2.2.1)) 23 (ra_cons im_dat (re_var xo 4 4) (ra_cons imF (re_var xo 3 3) ra_nil))) ra_nil)) (re_reprB xo 18 6 (ra_cons imF (re_var xo 5 5) ra_nil))) (rb_one (rs_ret (G := G_law) (.skip .nil) re_bool)) (rb_nil (G := G_law) (Γn := fun b48 : Unit => [some ⟨(tScr K), x.1⟩, some ⟨tInt, v9⟩, none, some ⟨tStr, v27⟩, some ⟨tDat, v30⟩, some ⟨tBool, v42⟩, none, none, none, none]) () (.same (.same (.same (.same (.same (.same (.same (.same (.same (.same .nil)))))))))) (.keep .nil))) fun b48 =>
  rb_nil (G := G_law) (Γn := fun b29 : Unit => [some ⟨(tScr K), x.1⟩, some ⟨tInt, v9⟩, none, some ⟨tStr, v27⟩, none, none, none, none, none, none]) () (.same (.same (.same (.same (.drop (.drop (.same (.same (.same (.same .nil)))))))))) (.keep .nil))) fun b29 =>
  rb_asg1 xo (G := G_law) (.skip .nil) 6 6 imF (re1_callO xo (lks.2.2.2.1) 16 .here 2) fun v49 =>
  rbt_asg xo (G := G_law) (.skip .nil) 5 5 imF (re_join0 (re_frz frz_own (re_lc lks xo [("sign", 9)] [0, 1, 2, 3, 4, 5, 6, 7, 8] imF (ri_list (re_frz frz_own (re_sortedC xo 24 8 (ra_cons im_lst (re_frz frz_own (re_listS xo 25 9 (ra_cons imF (re_call0 xo (lks.2.2.2.2.2.2.2.2.1) 26) ra_nil))) ra_nil)))) (fun X51 o53 => rg_name o53 9 1) (fun X51 l52 o53 v50 => rts_one (rt_gt (re_count (re_var o53 6 2) (ra_cons imF (re_var o53 9 1) ra_nil)) re_int)) (fun X51 l52 o53 v50 => re_var o53 9 1)))) fun v54 =>
  rbt_cons (G := G_law) (Γm := fun b63 : Unit => [some ⟨(tScr K), x.1⟩, some ⟨tInt, v9⟩, none, some ⟨tStr, v27⟩, none, some ⟨tStr, v54⟩, some ⟨tStr, v49⟩, none, none, none]) (om := [(2, (tOwn tInt))]) (rs_if (G := G_law) (.skip .nil) (RW.rt (rw_or (rt_ne sca_str (re_call xo (LkK.toP (lks.2.2.2.2.2.2.2.2.2.1)) 27 (ra_cons imF (re_var xo 6 6) ra_nil)) (re_var xo 5 5)) (rw_or (rt_ne sca_str (re_call xo (LkK.toP (lks.2.2.2.2.2.2.2.2.2.1)) 27 (ra_cons imF (re_rev (re_var xo 5 5)) ra_nil)) (re_var xo 5 5)) (rw_or1 (rt_ne sca_str (re_callK xo (lks.2.2.2.2.2.2.2.2.2.1) 27 (rk_cons imF (re_var xo 6 6) rk_nil)) (re_var xo 5 5)))))) (rb_one (rs_ret (G := G_law) (.skip .nil) re_bool)) (rb_nil (G := G_law) (Γn := fun b63 : Unit => [some ⟨(tScr K), x.1⟩, some ⟨tInt, v9⟩, none, some ⟨tStr, v27⟩, none, some ⟨tStr, v54⟩, some ⟨tStr, v49⟩, none, none, none]) () (.same (.same (.same (.same (.same (.same (.same (.same (.same (.same .nil)))))))))) (.keep .nil))) fun b63 =>
  rbt_asg xo (G := G_law) (.skip .nil) 7 7 imF (re_callO xo (lks.2.2.2.2.2.2.2.2.2.2.1) 28 .here 2 (ra_cons imF (re_add (re_lenS xo 13 2 (ra_cons imF (re_var xo 6 6) ra_nil)) re_int) ra_nil) (hib := by rfl)) fun v64 =>
  rbt_rep xo (G := G_law) (.skip .nil) 8 8 120 (re_var xo 5 5) fun v65 =>
  rbt_cons (G := G_law) (Γm := fun b66 : Unit => [some ⟨(tScr K), x.1⟩, some ⟨tInt, v9⟩, none, some ⟨tStr, v27⟩, none, some ⟨tStr, v54⟩, some ⟨tStr, v49⟩, some ⟨tInt, v64⟩, some ⟨tStr, v65⟩, none]) (om := [(2, (tOwn tInt))]) (rs_if (G := G_law) (.skip .nil) (RW.rt (rw_or (rt_not (rt_val (re_call xo (LkK.toP (lks.2.2.2.2.2.2.2.1)) 23 (ra_cons im_dat (re_cv cv_strD (re_var xo 6 6)) (ra_cons imF (re_var xo 5 5) ra_nil))))) (rw_or1 (rt_val (re_callK xo (lks.2.2.2.2.2.2.2.1) 23 (rk_cons im_dat (re_cv cv_strD (re_addS (re_addS (re_slS (re_var xo 6 6) ro_none (ro_some (re_var xo 7 7))) (re_str [120])) (re_slS (re_var xo 6 6) (ro_some (re_var xo 7 7)) ro_none))) (rk_cons imF (re_var xo 8 8) rk_nil))))))) (rb_one (rs_ret (G := G_law) (.skip .nil) re_bool)) (rb_nil (G := G_law) (Γn := fun b66 : Unit => [some ⟨(tScr K), x.1⟩, some ⟨tInt, v9⟩, none, some ⟨tStr, v27⟩, none, some ⟨tStr, v54⟩, some ⟨tStr, v49⟩, some ⟨tInt, v64⟩, some ⟨tStr, v65⟩, none]) () (.same (.same (.same (.same (.same (.same (.same (.same (.same (.same .nil)))))))))) (.keep .nil))) fun b66 =>
  rbt_cons (G := G_law) (Γm := fun b67 : Unit => [some ⟨(tScr K), x.1⟩, some ⟨tInt, v9⟩, none, some ⟨tStr, v27⟩, none, some ⟨tStr, v54⟩, some ⟨tStr, v49⟩, some ⟨tInt, v64⟩, some ⟨tStr, v65⟩, none]) (om := [(2, (tOwn tInt))]) (rs_if (G := G_law) (.skip .nil) (RW.rt (rw_or (rt_not (rt_val (re_call xo (LkK.toP (lks.2.2.2.2.2.2.2.1)) 23 (ra_cons im_dat (re_cv cv_strD (re_mulS (re_var xo 6 6) re_int)) (ra_cons imF (re_var xo 5 5) ra_nil))))) (rw_or1 (rt_val (re_call xo (LkK.toP (lks.2.2.2.2.2.2.2.1)) 23 (ra_cons im_dat (re_cv cv_strD (re_addS (re_mulS (re_var xo 6 6) re_int) (re_str [45]))) (ra_cons imF (re_var xo 5 5) ra_nil))))))) (rb_one (rs_ret (G := G_law) (.skip .nil) re_bool)) (rb_nil (G := G_law) (Γn := fun b67 : Unit => [some ⟨(tScr K), x.1⟩, some ⟨tInt, v9⟩, none, some ⟨tStr, v27⟩, none, some ⟨tStr, v54⟩, some ⟨tStr, v49⟩, some ⟨tInt, v64⟩, some ⟨tStr, v65⟩, none]) () (.same (.same (.same (.same (.same (.same (.same (.same (.same (.same .nil)))))))))) (.keep .nil))) fun b67 =>
  rbt_cons (G := G_law) (Γm := fun b68 : Unit => [some ⟨(tScr K), x.1⟩, some ⟨tInt, v9⟩, none, some ⟨tStr, v27⟩, none, some ⟨tStr, v54⟩, some ⟨tStr, v49⟩, some ⟨tInt, v64⟩, some ⟨tStr, v65⟩, none]) (om := [(2, (tOwn tInt))]) (rs_if (G := G_law) (.skip .nil) (RW.rt (rw_or (rt_not (rt_val (re_call xo (LkK.toP (lks.2.2.2.2.2.2.2.1)) 23 (ra_cons im_dat (re_cv cv_strD (re_addS (re_var xo 6 6) (re_str [32, 45]))) (ra_cons imF (re_addS (re_var xo 5 5) (re_str [45, 32])) ra_nil))))) (rw_or1 (rt_val (re_call xo (LkK.toP (lks.2.2.2.2.2.2.2.1)) 23 (ra_cons im_dat (re_cv cv_strD (re_addS (re_var xo 6 6) (re_str [45]))) (ra_cons imF (re_addS (re_var xo 5 5) (re_str [32])) ra_nil))))))) (rb_one (rs_ret (G := G_law) (.skip .nil) re_bool)) (rb_nil (G := G_law) (Γn := fun b68 : Unit => [some ⟨(tScr K), x.1⟩, some ⟨tInt, v9⟩, none, some ⟨tStr, v27⟩, none, some ⟨tStr, v54⟩, some ⟨tStr, v49⟩, some ⟨tInt, v64⟩, some ⟨tStr, v65⟩, none]) () (.same (.same (.same (.same (.same (.same (.same (.same (.same (.same .nil)))))))))) (.keep .nil))) fun b68 =>
  rbt_of (rb_nil (G := G_law) (Γn := fun b8 : Unit => [some ⟨(tScr K), x.1⟩, none, none, none, none, none, none, none, none, none]) () (.same (.drop (.same (.drop (.same (.drop (.drop (.drop (.drop (.same .nil)))))))))) (.skip .nil))))) fun b8 =>
  rb_one (rs_ret (G := G_law) .nil re_bool)⟩
noncomputable def r_law (K : PySem.W.Frag) : (List Int × Unit) → Option (Except Exn tBool.A) := fun x => runZ (none) ((d_law K).1 x ())

end K

namespace K
open PySem PySem.Spec PyProof.Rows L2 Mi
/-! ### the plain law -/
def SIG : List Nat := [97, 98, 99, 100, 101, 102, 103, 104, 105, 106, 107, 108, 109, 110, 111, 112, 113, 114, 115, 116, 117, 118, 119, 120, 121, 122, 65, 66, 67, 68, 69, 70, 71, 72, 73, 74, 75, 76, 77, 78, 79, 80, 81, 82, 83, 84, 85, 86, 87, 88, 89, 90, 48, 49, 50, 51, 52, 53, 54, 55, 56, 57]
def CH : List Nat := [48, 49, 50, 51, 52, 53, 54, 55, 56, 57, 65, 66, 67, 68, 69, 70, 71, 72, 73, 74, 75, 76, 77, 78, 79, 80, 81, 82, 83, 84, 85, 86, 87, 88, 89, 90, 97, 98, 99, 100, 101, 102, 103, 104, 105, 106, 107, 108, 109, 110, 111, 112, 113, 114, 115, 116, 117, 118, 119, 120, 121, 122]
variable (K : PySem.W.Frag)
theorem m_signs : r__law_signs K () = some (.ok SIG) := rfl
theorem sig_sort : sortC SIG = CH := by decide +kernel
theorem sig_ch (c : Nat) : c ∈ SIG ↔ c ∈ CH := by
  rw [← sig_sort]
  exact (sortC_perm SIG).symm.mem_iff
theorem m_take {b0 b1 b2 m : Int} (h0 : 0 ≤ b0) (h1 : 0 ≤ b1) (h2 : b1 < 2147483629) (h3 : 0 ≤ b2) (h4 : b2 < 2 ^ 20) (hm : 0 < m) (hm2 : m < 2 ^ 40) :
    ∃ d c0 c2 : Int, r__law_take K [b0, b1, b2] (m, ()) = some (.ok d, [c0, b1, c2]) ∧ 0 ≤ d ∧ d < m ∧ 0 ≤ c0 ∧ 0 ≤ c2 ∧ c2 ≤ b2 + 1 := by
  unfold r__law_take d__law_take
  simp only [SM.bind, SM.ret, SM.lift, SM.lifx, SM.map, SM.callO, SM.borrow, bindX, Out.bind, OMem.get, OMem.set, OSub.map, runO, runZ, id, at0, at1, at2, ix0, ix2, set0, set2]
  by_cases hb : 0 < b0
  · simp only [decide_eq_true hb, if_true, if_pos hm, if_pos (div_ok hm hm2), at0, ix0, set0]
    exact ⟨_, _, _, rfl, Int.emod_nonneg _ (by omega), Int.emod_lt_of_pos _ hm, Int.ediv_nonneg h0 (by omega), h3, by omega⟩
  · have e1 : (0 : Int) < 2147483647 := by decide
    have e2 : (0 : Int) < 2147483587 := by decide
    have g1 : CMul 8139 (b2 + 1) := mul_ok (by decide)
    have g2 : CMul 104729 (b2 + 1) := mul_ok (by decide)
    have g3 : CPow (b1 + 8139 * (b2 + 1) + 109) 5 := pow_ok (by omega) (by omega) (by decide) (by decide)
    have l1 : 0 ≤ (b1 + 8139 * (b2 + 1) + 109) ^ Int.toNat 5 % 2147483647 := Int.emod_nonneg _ (by decide)
    have l2 : (b1 + 8139 * (b2 + 1) + 109) ^ Int.toNat 5 % 2147483647 < 2147483647 := Int.emod_lt_of_pos _ (by decide)
    have g4 : CPow ((b1 + 8139 * (b2 + 1) + 109) ^ Int.toNat 5 % 2147483647 + 104729 * (b2 + 1)) 3 := pow_ok (by omega) (by omega) (by decide) (by decide)
    have g5 : ∀ x : Int, CDivW x 16 := fun x => div_ok (by decide) (by decide)
    simp only [decide_eq_false hb, Bool.false_eq_true, if_false, at0, at1, at2, ix0, ix2, set0, set2, if_pos g1, if_pos g2, if_pos g3, if_pos g4, if_pos e1, if_pos e2, if_pos hm, if_pos (g5 _)]
    exact ⟨_, _, _, rfl, Int.emod_nonneg _ (by omega), Int.emod_lt_of_pos _ hm, h0, by omega, by omega⟩
theorem atI_lt {α : Type} {l : List α} {d : Int} (h0 : 0 ≤ d) (h1 : d < l.length) : ∃ (h : d.toNat < l.length), atI l d = some l[d.toNat] := by
  have h : d.toNat < l.length := by omega
  refine ⟨h, ?_⟩
  unfold atI ixN
  rw [if_pos h0, if_pos h1]
  exact List.getElem?_eq_getElem h
/-- a box of which at most n draws were made beyond its own -/
def Bx (n : Nat) (x : List Int) : Prop := ∃ b0 b1 b2, x = [b0, b1, b2] ∧ 0 ≤ b0 ∧ 0 ≤ b1 ∧ b1 < 2147483629 ∧ 0 ≤ b2 ∧ b2 ≤ n
theorem Bx.take {K : PySem.W.Frag} {n : Nat} {x : List Int} (h : Bx n x) (hn : n < 2 ^ 20) {m : Int} (hm : 0 < m) (hm2 : m < 2 ^ 40) : ∃ (d : Int) (y : List Int), r__law_take K x (m, ()) = some (.ok d, y) ∧ 0 ≤ d ∧ d < m ∧ Bx (n + 1) y := by
  obtain ⟨b0, b1, b2, rfl, h0, h1, h2, h3, h4⟩ := h
  obtain ⟨d, c0, c2, e, d0, d1, e0, e1, e2⟩ := m_take K h0 h1 h2 h3 (by omega) hm hm2
  exact ⟨d, _, e, d0, d1, c0, b1, c2, rfl, e0, h1, h2, e1, by omega⟩
theorem m_is_character {s : List Nat} (hs : s.length ≤ 16777216) : r_is_character K (Dat.str s, ()) = some (.ok (decide (s.length = 1) && inS s CH)) := by
  unfold r_is_character d_is_character
  have e : s.length ≤ sizeLine := small_len hs
  simp only [SM.bind, SM.ret, SM.lift, SM.lifx, SM.map, SM.andB, SM.callO, SM.borrow, bindX, Out.bind, OMem.get, OMem.set, OSub.map, runO, runZ, id]
  simp only [SM.bind, SM.ret, SM.lift, SM.lifx, SM.map, SM.andB, SM.callO, SM.borrow, bindX, Out.bind, OMem.get, OMem.set, OSub.map, runO, runZ, id, Dat.asStr, if_pos e]
  by_cases h1 : s.length = 1
  · have h2 : decide ((s.length : Int) = 1) = true := decide_eq_true (by omega)
    simp only [SM.bind, SM.ret, SM.lift, SM.lifx, SM.map, SM.andB, SM.callO, SM.borrow, bindX, Out.bind, OMem.get, OMem.set, OSub.map, runO, runZ, id, h2, if_true, decide_eq_true h1, Bool.true_and]
    rfl
  · have h2 : decide ((s.length : Int) = 1) = false := decide_eq_false (by omega)
    simp only [SM.bind, SM.ret, SM.lift, SM.lifx, SM.map, SM.andB, SM.callO, SM.borrow, bindX, Out.bind, OMem.get, OMem.set, OSub.map, runO, runZ, id, h2, Bool.false_eq_true, if_false, decide_eq_false h1, Bool.false_and]
theorem m_is_character_no {x : Dat} (hx : isStr x = false) : r_is_character K (x, ()) = some (.ok false) := by
  cases x with
  | str s => cases hx
  | _ => rfl
theorem m_is_sign {s : List Nat} (hs : s.length ≤ 16777216) : r__law_is_sign K (Dat.str s, ()) = some (.ok (decide (s.length = 1) && inS s CH)) := by
  unfold r__law_is_sign d__law_is_sign
  have hl : SIG.length ≤ sizeLine := small_len (by decide)
  have hm := mapS_pure (O := Unit) (o := ()) (mt := fun v32 => SM.bind (SM.bind (SM.ret v32) fun x => SM.ret [x]) fun x => SM.bind (SM.ret s) fun y => SM.lift (some (decide (x = y)))) (me := fun v : Nat => SM.ret v) (p := fun c => decide ([c] = s)) (f := id) SIG (fun _ _ => rfl) (fun _ _ _ => rfl)
  rw [List.map_id] at hm
  have hok : okC (SIG.filter fun c => decide ([c] = s)) = true := by
    rw [List.all_eq_true]
    intro c hc
    have z := (List.mem_filter.mp hc).1
    have : ∀ c ∈ SIG, decide (c < 1114112) = true := by decide
    exact this c z
  simp only [SM.bind, SM.ret, SM.lift, SM.lifx, SM.map, SM.andB, SM.callO, SM.borrow, bindX, Out.bind, OMem.get, OMem.set, OSub.map, runO, runZ, id]
  simp only [SM.bind, SM.ret, SM.lift, SM.lifx, SM.map, SM.andB, SM.callO, SM.borrow, bindX, Out.bind, OMem.get, OMem.set, OSub.map, runO, runZ, id, Dat.asStr, m_signs, if_pos hl, hm, hok, and_self, if_true]
  congr 2
  by_cases h1 : s.length = 1
  · obtain ⟨c, rfl⟩ := List.length_eq_one_iff.mp h1
    rw [inS_one]
    by_cases hc : c ∈ SIG
    · have h2 : (SIG.filter fun d => decide ([d] = [c])) ≠ [] := fun e => by
        have : c ∈ SIG.filter fun d => decide ([d] = [c]) := List.mem_filter.mpr ⟨hc, by simp⟩
        rw [e] at this; cases this
      simp [(sig_ch c).mp hc]
      exact hc
    · have h2 : (SIG.filter fun d => decide ([d] = [c])) = [] := List.filter_eq_nil_iff.mpr fun d hd => by
        intro e
        have e' : [d] = [c] := of_decide_eq_true e
        cases e'
        exact hc hd
      have h3 : c ∉ CH := fun z => hc ((sig_ch c).mpr z)
      rw [h2, decide_eq_false h3]
      simp
  · have h2 : (SIG.filter fun d => decide ([d] = s)) = [] := List.filter_eq_nil_iff.mpr fun d hd => by
      intro e
      have e' : [d] = s := of_decide_eq_true e
      subst e'
      exact h1 rfl
    simp [h2, h1]
theorem m_is_sign_no {x : Dat} (hx : isStr x = false) : r__law_is_sign K (x, ()) = some (.ok false) := by
  cases x with
  | str s => cases hx
  | _ => rfl
theorem m_is_text {s y : List Nat} (hs : s.length ≤ 16777216) : r_is_text K (Dat.str s, y, ()) = some (.ok (s.all fun c => decide (c ∈ y))) := by
  unfold r_is_text d_is_text
  have hl : s.length ≤ sizeLine := small_len hs
  have hm := mapS_pure (O := Unit) (o := ()) (mt := fun v44 : Nat => SM.ret true) (me := fun v44 : Nat => SM.bind (SM.ret v44) fun x => SM.bind (SM.ret y) fun y => SM.lift (some (decide (x ∈ y)))) (p := fun c => true) (f := fun c => decide (c ∈ y)) s (fun _ _ => rfl) (fun _ _ _ => rfl)
  simp only [SM.bind, SM.ret, SM.lift, SM.lifx, SM.map, SM.andB, SM.callO, SM.borrow, bindX, Out.bind, OMem.get, OMem.set, OSub.map, runO, runZ, id]
  simp only [SM.bind, SM.ret, SM.lift, SM.lifx, SM.map, SM.andB, SM.callO, SM.borrow, bindX, Out.bind, OMem.get, OMem.set, OSub.map, runO, runZ, id, Dat.asStr, if_pos hl, hm]
  congr 2
  rw [List.filter_eq_self.mpr fun _ _ => rfl, List.all_map]
  rfl
theorem m_is_text_no {x : Dat} {y : List Nat} (hx : isStr x = false) : r_is_text K (x, y, ()) = some (.ok false) := by
  cases x with
  | str s => cases hx
  | _ => rfl
theorem m_in_order {s : List Nat} (hs : ∀ c ∈ s, c ∈ CH) : r_in_order K (s, ()) = some (.ok (CH.filter fun c => decide (c ∈ s))) := by
  unfold r_in_order d_in_order
  have hc : ∀ c ∈ s, r_is_character K (Dat.str [c], ()) = some (.ok true) := fun c hcs => by
    rw [m_is_character K (by simp), inS_one, decide_eq_true (hs c hcs)]; rfl
  have hl : CH.length ≤ sizeLine := small_len (by decide)
  have hm := mapS_pure (O := Unit) (o := ()) (mt := fun v : Nat => SM.bind (SM.ret v) fun x => SM.bind (SM.ret s) fun y => SM.lift (some (decide (x ∈ y)))) (me := fun v : Nat => SM.ret v) (p := fun c => decide (c ∈ s)) (f := id) CH (fun _ _ => rfl) (fun _ _ _ => rfl)
  rw [List.map_id] at hm
  have hlen : (CH.filter fun c => decide (c ∈ s)).length ≤ 16777216 := Nat.le_trans (List.length_filter_le _ _) (by decide)
  have hi : isStr (Dat.str s) = true := rfl
  simp only [SM.bind, SM.ret, SM.lift, SM.lifx, SM.map, SM.andB, SM.callO, SM.borrow, bindX, Out.bind, OMem.get, OMem.set, OSub.map, runO, runZ, id]
  simp only [hi, Bool.not_true, Bool.false_eq_true, if_false]
  have hf : ∀ body, (∀ c ∈ s, ∀ b o, body c b o = some (.nxt ((), ()))) → forS (G := G_in_order) (L := LC.none) (os := []) (β := Unit) body s () () = some (.nxt ((), ())) := fun body hb => by
    obtain ⟨b', o', e, _⟩ := forS_inv (G := G_in_order) (L := LC.none) (os := []) (β := Unit) (body := body) (P := fun _ _ _ => True) s 0 () () (fun x hx k b o _ _ _ => ⟨(), (), hb x hx b o, trivial⟩) trivial
    exact e
  rw [hf _ fun c hcs b o => by simp only [hc c hcs, Bool.not_true, Bool.false_eq_true, if_false]]
  have hl' : (CH : List Nat).length ≤ sizeLine := hl
  unfold CH at hl' hm hlen
  simp only [if_pos hl', hm, if_pos hlen]
  rfl
theorem m_string {n : Nat} {x : List Int} (h : Bx n x) {m : Int} (hm : 0 ≤ m) (hm2 : m < 2 ^ 16) (hn : n + m < 2 ^ 19) : ∃ (s : List Nat) (y : List Int), r__law_string K x (m, ()) = some (.ok s, y) ∧ (s.length : Int) ≤ m ∧ (∀ c ∈ s, c ∈ SIG) ∧ Bx (n + m.toNat + 1) y := by
  obtain ⟨d, x1, e1, d0, d1, h1⟩ := h.take (K := K) (by omega) (m := m + 1) (by omega) (by omega)
  have hr : small62 d := ⟨by omega, by omega⟩
  have hlen : (rng 0 d).length = d.toNat := by simp [rng]
  have hsz : (rng 0 d).length ≤ sizeLine := small_len (by rw [hlen]; omega)
  have hS : SIG.length ≤ sizeLine := small_len (by decide)
  have hg : ∀ d : Int, 0 ≤ d → d < 62 → ∃ c, atI SIG d = some c ∧ c ∈ SIG := fun d h0 h1 => by
    obtain ⟨hlt, e⟩ := atI_lt (l := SIG) h0 (by rw [show SIG.length = 62 from rfl]; exact h1)
    exact ⟨_, e, List.getElem_mem hlt⟩
  have hmap := mapS_all (O := OT [(0, tOwn tInt)]) (A := Int) (C := Nat) (mt := fun v23 : Int => SM.ret true) (me := fun v23 : Int => SM.bind (SM.lifx (r__law_signs K ())) fun x =>
      SM.bind (SM.bind (SM.bind (SM.ret (62 : Int)) fun x => SM.bind (SM.ret ()) fun y => SM.ret (x, y)) fun x => SM.callO (os := [(0, tOwn tInt)]) .here (r__law_take K) x) fun y => SM.lift (if x.length ≤ sizeLine then atI x y else none))
    (I := fun k o => Bx k o.1) (R := fun c => c ∈ SIG) (fun _ _ => rfl) (rng 0 d) (n + 1) (x1, ()) (fun z hz k o hk hk2 hI => by
      rw [hlen] at hk2
      obtain ⟨g, y, e, g0, g1, h2⟩ := hI.take (K := K) (by omega) (m := 62) (by decide) (by decide)
      obtain ⟨c, ec, hc⟩ := hg g g0 g1
      refine ⟨c, (y, o.2), ?_, h2, hc⟩
      simp only [SM.bind, SM.ret, SM.lift, SM.lifx, SM.callO, OMem.get, OMem.set, m_signs, e, if_pos hS, ec]) h1
  obtain ⟨ys, o', em, hB, hl, hR⟩ := hmap
  refine ⟨ys, o'.1, ?_, by rw [hl, hlen]; omega, hR, ?_⟩
  · unfold r__law_string d__law_string
    have hys : ys.length ≤ 16777216 := by rw [hl, hlen]; omega
    simp only [SM.bind, SM.ret, SM.lift, SM.lifx, SM.map, SM.andB, SM.callO, SM.borrow, bindX, Out.bind, OMem.get, OMem.set, OSub.map, runO, runZ, id]
    simp only [e1, if_pos hr, if_pos hsz]
    generalize hE : mapS _ _ _ _ = E
    have eE : E = _ := hE.symm.trans em
    subst eE
    simp only [if_pos hys]
  · obtain ⟨b0, b1, b2, e, p0, p1, p2, p3, p4⟩ := hB
    exact ⟨b0, b1, b2, e, p0, p1, p2, p3, by rw [hlen] at p4; omega⟩
def ODD : List Dat := [Dat.non, Dat.bl true, Dat.int 0, Dat.int 7, Dat.str [], Dat.str [32], Dat.str [95], Dat.str [97, 32, 98], Dat.str [97, 98], Dat.str [97, 45], Dat.str [10], Dat.opq, Dat.opq, Dat.opq, Dat.opq, Dat.opq, Dat.str [122, 123], Dat.str [64, 65], Dat.str [57, 58]]
/-- what may be asked: other values, or short texts of usual signs -/
def Thing (x : Dat) : Prop := isStr x = false ∨ ∃ s, x = .str s ∧ s.length ≤ 1000 ∧ ∀ c ∈ s, c < 1114112
theorem odd_thing : ∀ x ∈ ODD, Thing x := by
  intro x hx
  have hs : ∀ s : List Nat, s.length ≤ 1000 → (s.all fun c => decide (c < 1114112)) = true → Thing (.str s) := fun s h1 h2 => .inr ⟨s, rfl, h1, fun c hc => of_decide_eq_true (List.all_eq_true.mp h2 c hc)⟩
  simp only [ODD, List.mem_cons, List.not_mem_nil, or_false] at hx
  rcases hx with rfl | rfl | rfl | rfl | rfl | rfl | rfl | rfl | rfl | rfl | rfl | rfl | rfl | rfl | rfl | rfl | rfl | rfl | rfl <;> first | exact .inl rfl | exact hs _ (by decide) (by decide)
theorem m_odd {n : Nat} {x : List Int} (h : Bx n x) (hn : n < 2 ^ 19) : ∃ (t : Dat) (y : List Int), r__law_odd K x () = some (.ok t, y) ∧ Thing t ∧ Bx (n + 1) y := by
  obtain ⟨d, y, e, d0, d1, h1⟩ := h.take (K := K) (by omega) (m := 19) (by decide) (by decide)
  obtain ⟨hlt, ed⟩ := atI_lt (l := ODD) d0 (by rw [show ODD.length = 19 from rfl]; exact d1)
  refine ⟨ODD[d.toNat], y, ?_, odd_thing _ (List.getElem_mem hlt), h1⟩
  unfold r__law_odd d__law_odd
  simp only [SM.bind, SM.ret, SM.lift, SM.lifx, SM.map, SM.andB, SM.callO, SM.borrow, bindX, Out.bind, OMem.get, OMem.set, OSub.map, runO, runZ, id]
  unfold ODD at ed ⊢
  simp only [e, ed]
theorem m_all_signs : r__law_all_signs_right K () = some (.ok true) := by
  unfold r__law_all_signs_right d__law_all_signs_right
  have hm := mapS_pure (O := Unit) (o := ()) (mt := fun v2 : Nat => SM.bind (SM.bind (SM.bind (SM.bind (SM.ret v2) fun x => SM.ret (Dat.str [x])) fun x => SM.bind (SM.ret ()) fun y => SM.ret (x, y)) fun x => SM.lifx (r_is_character K x)) fun x => SM.bind (SM.bind (SM.ret v2) fun x => SM.bind (SM.lifx (r__law_signs K ())) fun y => SM.lift (some (decide (x ∈ y)))) fun y => SM.lift (some !decide (x = y))) (me := fun v2 : Nat => SM.ret v2) (p := fun c => !decide ((decide (c ∈ CH)) = decide (c ∈ SIG))) (f := id)
    ([32, 33, 34, 35, 36, 38, 39, 40, 41, 42, 43, 44, 45, 46, 47, 58, 59, 60, 61, 62, 63, 64, 91, 92, 93, 94, 95, 96, 123, 124, 125, 126, 10] ++ SIG) (fun c _ => by
      simp only [SM.bind, SM.ret, SM.lift, SM.lifx, m_is_character K (s := [c]) (by simp), m_signs, inS_one]
      simp) (fun _ _ _ => rfl)
  have hf : (([32, 33, 34, 35, 36, 38, 39, 40, 41, 42, 43, 44, 45, 46, 47, 58, 59, 60, 61, 62, 63, 64, 91, 92, 93, 94, 95, 96, 123, 124, 125, 126, 10] ++ SIG).filter fun c => !decide ((decide (c ∈ CH)) = decide (c ∈ SIG))) = [] := List.filter_eq_nil_iff.mpr fun c _ => by simp [sig_ch c]
  rw [hf] at hm
  have h1 : ([32, 33, 34, 35, 36, 38, 39, 40, 41, 42, 43, 44, 45, 46, 47, 58, 59, 60, 61, 62, 63, 64, 91, 92, 93, 94, 95, 96, 123, 124, 125, 126, 10].length + SIG.length ≤ sizeLine) := by rw [sizeLine_eq]; decide
  have h2 : ([32, 33, 34, 35, 36, 38, 39, 40, 41, 42, 43, 44, 45, 46, 47, 58, 59, 60, 61, 62, 63, 64, 91, 92, 93, 94, 95, 96, 123, 124, 125, 126, 10] ++ SIG).length ≤ sizeLine := by rw [sizeLine_eq]; decide
  simp only [SM.bind, SM.ret, SM.lift, SM.lifx, SM.map, SM.andB, SM.callO, SM.borrow, bindX, Out.bind, OMem.get, OMem.set, OSub.map, runO, runZ, id]
  simp only [m_signs, if_pos h1, if_pos h2]
  generalize hE : mapS _ _ _ _ = E
  have eE : E = _ := hE.symm.trans hm
  subst eE
  rfl
theorem m_box (c : Int) : ∃ x : List Int, r__law_box K (c, ()) = some (.ok x) ∧ Bx 0 x := by
  unfold r__law_box d__law_box
  have h1 : CPow 10 18 := ⟨by decide, by decide, by decide⟩
  have h2 : (0 : Int) < 2147483629 := by decide
  simp only [SM.bind, SM.ret, SM.lift, SM.lifx, SM.map, SM.andB, SM.callO, SM.borrow, bindX, Out.bind, OMem.get, OMem.set, OSub.map, runO, runZ, id]
  simp only [if_pos h1, if_pos h2]
  refine ⟨_, rfl, _, _, _, rfl, ?_, Int.emod_nonneg _ (by decide), Int.emod_lt_of_pos _ (by decide), by decide, by decide⟩
  split <;> omega
theorem m_cell (ns : List Int) (k : Int) (h0 : 0 ≤ k) : ∃ c : Int, r__law_cell K (ns, k, ()) = some (.ok c) := by
  unfold r__law_cell d__law_cell
  have h1 : CMul 8139 k := mul_ok (by decide)
  simp only [SM.bind, SM.ret, SM.lift, SM.lifx, SM.map, SM.andB, SM.callO, SM.borrow, bindX, Out.bind, OMem.get, OMem.set, OSub.map, runO, runZ, id]
  by_cases h : k < (ns.length : Int)
  · have e : ∃ c, atI ns k = some c := by
      obtain ⟨_, e⟩ := atI_lt (l := ns) h0 h
      exact ⟨_, e⟩
    obtain ⟨c, e⟩ := e
    simp only [decide_eq_true h, if_true, e]
    exact ⟨c, rfl⟩
  · simp only [decide_eq_false h, Bool.false_eq_true, if_false, if_pos h1]
    exact ⟨_, rfl⟩
theorem cut_mem {l : List Nat} {a b : Option Int} {c : Nat} (h : c ∈ cut l a b) : c ∈ l := List.mem_of_mem_drop (List.mem_of_mem_take h)
theorem cut_len (l : List Nat) (a b : Option Int) : (cut l a b).length ≤ l.length := by
  unfold cut
  rw [List.length_take, List.length_drop]
  omega
theorem sig_small : ∀ c ∈ SIG, c < 1114112 := by decide
theorem due_eq (s y : List Nat) : decide (s.filter (fun c => !decide (c ∈ y)) = []) = s.all fun c => decide (c ∈ y) := by
  by_cases h : ∀ c ∈ s, c ∈ y
  · have h1 : s.filter (fun c => !decide (c ∈ y)) = [] := List.filter_eq_nil_iff.mpr fun c hc => by simp [h c hc]
    rw [h1, List.all_eq_true.mpr fun c hc => decide_eq_true (h c hc)]
    rfl
  · have h1 : ¬ s.filter (fun c => !decide (c ∈ y)) = [] := fun e => h fun c hc => by
      have z := List.filter_eq_nil_iff.mp e c hc
      simpa using z
    have h2 : (s.all fun c => decide (c ∈ y)) = false := by
      rw [← Bool.not_eq_true, List.all_eq_true]
      intro z
      exact h fun c hc => of_decide_eq_true (z c hc)
    rw [h2, decide_eq_false h1]
theorem all_no {s y : List Nat} {c : Nat} (hc : c ∈ s) (hy : c ∉ y) : (s.all fun c => decide (c ∈ y)) = false := by
  rw [← Bool.not_eq_true, List.all_eq_true]
  intro z
  exact hy (of_decide_eq_true (z c hc))
theorem all_yes {s y : List Nat} (h : ∀ c ∈ s, c ∈ y) : (s.all fun c => decide (c ∈ y)) = true := List.all_eq_true.mpr fun c hc => decide_eq_true (h c hc)
theorem ch_small : CH.length ≤ 16777216 := by decide
/-- one cell's turn -/
theorem m_law (ns : List Int) : r_law K (ns, ()) = some (.ok true) := by
  unfold r_law d_law
  simp only [SM.bind, SM.ret, SM.lift, SM.lifx, SM.map, SM.callO, SM.borrow, SM.andB, SM.orB, bindX, Out.bind, OMem.get, OMem.set, OSub.map, runO, runZ, id]
  simp only [m_all_signs, Bool.not_true, Bool.false_eq_true, if_false]
  have hN : ∀ n : Int, 0 ≤ n → small62 (if (if n < 8 then n else 8) > 2 then (if n < 8 then n else 8) else 2) := fun n hn => by
    constructor <;> (split <;> try split) <;> omega
  simp only [if_pos (hN _ (Int.natCast_nonneg _))]
  generalize hE : forS _ _ _ _ = E
  have hx : ∃ b' o', E = some (.nxt (b', o')) := by
    rw [← hE]
    refine (forS_inv (P := fun _ _ _ => True) _ 0 _ _ (fun k hk _ b o _ _ _ => ?_) trivial).imp fun b' h => h.imp fun o' h => h.1
    have hk0 : 0 ≤ k := by
      obtain ⟨j, _, e⟩ := List.mem_map.mp hk
      rw [← e]
      show 0 ≤ (0 : Int) + (j : Int)
      omega
    obtain ⟨c, ec⟩ := m_cell K ns k hk0
    obtain ⟨bx, eb, h0⟩ := m_box K c
    obtain ⟨s1, y1, e1, l1, g1, h1⟩ := m_string K h0 (m := 30) (by decide) (by decide) (by decide)
    obtain ⟨t, y2, e2, ht, h2⟩ := m_odd K h1 (by decide)
    obtain ⟨s2, y3, e3, l2, g2, h3⟩ := m_string K h2 (m := 2) (by decide) (by decide) (by decide)
    obtain ⟨s3, y4, e4, l3, g3, h4⟩ := m_string K h3 (m := 5) (by decide) (by decide) (by decide)
    have z1 : s1.length ≤ sizeLine := small_len (by omega)
    simp only [ec, eb, e1, e2, e3, e4, if_pos z1]
    have hth : ∀ x ∈ [t, Dat.str s2, Dat.str s3, Dat.str s1, Dat.str (cut s1 none (some 3))], Thing x := by
      intro x hx
      simp only [List.mem_cons, List.not_mem_nil, or_false] at hx
      rcases hx with rfl | rfl | rfl | rfl | rfl
      · exact ht
      · exact .inr ⟨_, rfl, by omega, fun c hc => sig_small c (g2 c hc)⟩
      · exact .inr ⟨_, rfl, by omega, fun c hc => sig_small c (g3 c hc)⟩
      · exact .inr ⟨_, rfl, by omega, fun c hc => sig_small c (g1 c hc)⟩
      · exact .inr ⟨_, rfl, Nat.le_trans (cut_len _ _ _) (by omega), fun c hc => sig_small c (g1 c (cut_mem hc))⟩
    generalize hE2 : forS _ _ _ _ = E2
    have hx2 : E2 = some (.nxt ((), (y4, o))) := by
      rw [← hE2]
      refine forS_same _ fun x hx => ?_
      rcases hth x hx with hno | ⟨s, rfl, hs1, hs2⟩
      · have ha : ∀ {A : Type} (n : List Nat → A) (d : A), Dat.asStr x n d = d := fun n d => by
          cases x with
          | str s => cases hno
          | _ => rfl
        simp only [m_is_character_no K hno, m_is_sign_no K hno, m_is_text_no K hno, ha, decide_true, Bool.not_true, Bool.false_eq_true, if_false, SM.ret]
      · have z2 : s.length ≤ 16777216 := by omega
        have z3 : s.length ≤ sizeLine := small_len z2
        simp only [m_is_character K z2, m_is_sign K z2, m_is_text K z2, decide_true, Bool.not_true, Bool.false_eq_true, if_false, Dat.asStr, SM.bind, SM.ret, SM.lift, if_pos z3]
        generalize hE3 : mapS _ _ _ _ = E3
        have hx3 : E3 = some (.ok (s.filter fun c => !decide (c ∈ s1)), (y4, o)) := by
          rw [← hE3]
          refine (mapS_pure (p := fun c => !decide (c ∈ s1)) (f := _root_.id) _ (fun _ _ => rfl) (fun _ _ _ => rfl)).trans ?_
          rw [List.map_id]
        subst hx3
        have hok : okC (s.filter fun c => !decide (c ∈ s1)) = true := List.all_eq_true.mpr fun c hc => decide_eq_true (hs2 c (List.mem_filter.mp hc).1)
        simp only [hok, and_self, if_true, due_eq, decide_true, Bool.not_true, Bool.false_eq_true, if_false]
    subst hx2
    obtain ⟨s5, y5, e5, l5, g5, h5⟩ := m_string K h4 (m := 80) (by decide) (by decide) (by decide)
    have w1 : SIG.length ≤ sizeLine := small_len (by decide)
    have w2 : SIG.length < 64 := by decide
    have w3 : CH.length ≤ sizeLine := small_len (by decide)
    simp only [e5, m_signs, if_pos w1, if_pos w2, sig_sort, if_pos w3]
    generalize hE4 : mapS _ _ _ _ = E4
    have hx4 : E4 = some (.ok (CH.filter fun c => decide (c ∈ s5)), (y5, o)) := by
      rw [← hE4]
      refine (mapS_pure (p := fun c => decide (c ∈ s5)) (f := _root_.id) _ (fun c _ => ?_) (fun _ _ _ => rfl)).trans ?_
      · simp only [SM.bind, SM.ret, SM.lift, cnt_pos]
      · rw [List.map_id]
    subst hx4
    have hin : ∀ c ∈ s5, c ∈ CH := fun c hc => (sig_ch c).mp (g5 c hc)
    generalize hdue : (CH.filter fun c => decide (c ∈ s5)) = due
    have hd1 : ∀ c, c ∈ due ↔ c ∈ s5 := fun c => by
      rw [← hdue, List.mem_filter]
      exact ⟨fun h => of_decide_eq_true h.2, fun h => ⟨hin c h, decide_eq_true h⟩⟩
    have hd2 : due.length ≤ 62 := by rw [← hdue]; exact Nat.le_trans (List.length_filter_le _ _) (by decide)
    have hd3 : due.length ≤ 16777216 := by omega
    have hd4 : due.length ≤ sizeLine := small_len hd3
    have o1 : r_in_order K (s5, ()) = some (.ok due) := by rw [m_in_order K hin, hdue]
    have o2 : r_in_order K (due.reverse, ()) = some (.ok due) := by
      rw [m_in_order K fun c hc => hin c ((hd1 c).mp (List.mem_reverse.mp hc)), ← hdue]
      congr 2
      apply List.filter_congr
      intro c hc
      rw [hdue]
      simp only [List.mem_reverse, hd1]
    have v1 : s5.length ≤ sizeLine := small_len (by omega)
    obtain ⟨d, y6, e6, d0, d1, h6⟩ := h5.take (K := K) (by decide) (m := (s5.length : Int) + 1) (by omega) (by omega)
    have k45 : (45 : Nat) ∉ CH := by decide
    have n45 : (45 : Nat) ∉ due := fun h => k45 (hin 45 ((hd1 45).mp h))
    have c1 := cut_len s5 none (some d)
    have c2 := cut_len s5 (some d) none
    have f8 : ∀ c ∈ (List.replicate (Int.toNat 8) s5).flatten, c ∈ due := fun c hc => by
      obtain ⟨l, hl, hcl⟩ := List.mem_flatten.mp hc
      rw [(List.mem_replicate.mp hl).2] at hcl
      exact (hd1 c).mpr hcl
    have f8l : (List.replicate (Int.toNat 8) s5).flatten.length ≤ 640 := by
      rw [List.length_flatten, List.map_replicate, List.sum_replicate_nat]
      show 8 * s5.length ≤ 640
      omega
    have t1 : r_is_text K (Dat.str s5, due, ()) = some (.ok true) := by rw [m_is_text K (by omega), all_yes fun c hc => (hd1 c).mpr hc]
    have t2 : r_is_text K (Dat.str (cut s5 none (some d) ++ [120] ++ cut s5 (some d) none), due.filter (fun x => x != 120), ()) = some (.ok false) := by
      rw [m_is_text K (by rw [List.length_append, List.length_append]; simp; omega), all_no (c := 120) (by simp) (by simp)]
    have t3 : r_is_text K (Dat.str (List.replicate (Int.toNat 8) s5).flatten, due, ()) = some (.ok true) := by rw [m_is_text K (by omega), all_yes f8]
    have t4 : r_is_text K (Dat.str ((List.replicate (Int.toNat 8) s5).flatten ++ [45]), due, ()) = some (.ok false) := by
      rw [m_is_text K (by rw [List.length_append]; simp only [List.length_cons, List.length_nil]; omega), all_no (c := 45) (by simp) n45]
    have t5 : r_is_text K (Dat.str (s5 ++ [32, 45]), due ++ [45, 32], ()) = some (.ok true) := by
      rw [m_is_text K (by rw [List.length_append]; simp only [List.length_cons, List.length_nil]; omega), all_yes fun c hc => ?_]
      rcases List.mem_append.mp hc with z | z
      · exact List.mem_append_left _ ((hd1 c).mpr z)
      · refine List.mem_append_right _ ?_
        simp only [List.mem_cons, List.not_mem_nil, or_false] at z ⊢
        exact z.symm
    have t6 : r_is_text K (Dat.str (s5 ++ [45]), due ++ [32], ()) = some (.ok false) := by
      rw [m_is_text K (by rw [List.length_append]; simp only [List.length_cons, List.length_nil]; omega), all_no (c := 45) (by simp) fun h => ?_]
      rcases List.mem_append.mp h with z | z
      · exact n45 z
      · simp at z
    refine ⟨(), o, ?_, trivial⟩
    simp only [SM.bind, SM.ret, SM.lift, SM.lifx, SM.map, SM.callO, SM.borrow, SM.andB, SM.orB, bindX, Out.bind, OMem.get, OMem.set, OSub.map, runO, runZ, id, hdue, if_pos hd3, if_pos hd4, o1, o2, decide_true, Bool.not_true, Bool.false_eq_true, if_false, if_pos v1, e6, t1]
    have q1 : (cut s5 none (some d)).length + [120].length ≤ sizeLine := by rw [sizeLine_eq]; simp only [List.length_cons, List.length_nil]; omega
    have q2 : (cut s5 none (some d) ++ [120]).length + (cut s5 (some d) none).length ≤ sizeLine := by rw [sizeLine_eq, List.length_append]; simp only [List.length_cons, List.length_nil]; omega
    have q3 : (2 : Int) ≤ 8 ∧ (8 : Int) ≤ 1000 ∧ s5.length ≤ 10000 := ⟨by decide, by decide, by omega⟩
    have q4 : (List.replicate (Int.toNat 8) s5).flatten.length + [45].length ≤ sizeLine := by rw [sizeLine_eq]; simp only [List.length_cons, List.length_nil]; omega
    have q5 : s5.length + [32, 45].length ≤ sizeLine := by rw [sizeLine_eq]; simp only [List.length_cons, List.length_nil]; omega
    have q6 : due.length + [45, 32].length ≤ sizeLine := by rw [sizeLine_eq]; simp only [List.length_cons, List.length_nil]; omega
    have q7 : s5.length + [45].length ≤ sizeLine := by rw [sizeLine_eq]; simp only [List.length_cons, List.length_nil]; omega
    have q8 : due.length + [32].length ≤ sizeLine := by rw [sizeLine_eq]; simp only [List.length_cons, List.length_nil]; omega
    simp only [if_pos q1, if_pos q2, if_pos q3, if_pos q5, if_pos q6, t2, t3, t5, SM.bind, SM.ret, SM.lift, SM.lifx, SM.map, SM.callO, SM.borrow, SM.andB, SM.orB, bindX, Out.bind, OMem.get, OMem.set, OSub.map, runO, runZ, id, Bool.not_true, Bool.false_eq_true, if_false, if_pos q4, if_pos q7, if_pos q8, t4, t6]
  obtain ⟨b', o', e⟩ := hx
  rw [e]
/-- the law's promise -/
theorem sp_law {K : PySem.W.Frag} {mg : Str → Option Value} {H : Hp} {a : Addr} (ns : List Int) (hS : SqL K H a (ns.map V.int)) : spP mg [tScr K] tBool (r_law K) [.ref a] H (fun v _ => v = .bl true) fun _ _ _ => False := by
  refine ⟨(ns, ()), H, emp, ⟨.ref a, [], rfl, ⟨rfl, a, rfl, hS⟩, rfl⟩, ⟨.refl H, fun _ _ h => (by cases h), fun _ => .inr rfl⟩, ?_⟩
  rw [show r_law K (ns, ()) = some (.ok true) from m_law K ns]
  exact fun v F' mm M' H' _ _ _ r => r.2
end K

namespace K
open PySem PySem.Spec PyProof.Rows L2 Mi

/-! ### each def keeps its promise -/
abbrev FnAt (M : Md) (nm : Str) (st : Stmt) : Prop := ∃ f fd, M.mg nm = some (.ref f) ∧ FunD M.K nm nm (defArgs st) (defBody st) (defScope st) [] [] f fd
abbrev Fr (M : Md) : Prop := ∀ (i : Nat) (x : Str), Bn[i]? = some x → M.mg x = none
theorem ok__law_signs {M : Md} {f : Addr} {fd : FuncData} (F : FunD M.K "_law_signs" "_law_signs" (defArgs st__law_signs) (defBody st__law_signs) (defScope st__law_signs) [] [] f fd) (fr : Fr M) (lks : L__law_signs M.K M) : FnOk M.P M.w M.K M.mg M.base (L2.CX M.P M.w) 1 f fd ps__law_signs (spP M.mg [] tStr (r__law_signs M.K)) :=
  fn_P F (Lks := L__law_signs M.K) lks (z := (none)) fr (by decide +kernel) rfl (fun X l xo xs x => ((d__law_signs M.K).2 X l xo xs x)) (fun y h => by cases h)
theorem lk__law_signs {M : Md} (A : FnAt M "_law_signs" st__law_signs) (fr : Fr M) (lks : L__law_signs M.K M) : LkP M "_law_signs" ps__law_signs [] tStr (r__law_signs M.K) 1 := by
  obtain ⟨f, fd, g, F⟩ := A
  exact ⟨f, fd, g, F.kp, F.bindsN fun _ _ _ _ _ _ us hl => match us, hl with | [], _ => rfl, ok__law_signs F fr lks⟩
theorem ok_is_character {M : Md} {f : Addr} {fd : FuncData} (F : FunD M.K "is_character" "is_character" (defArgs st_is_character) (defBody st_is_character) (defScope st_is_character) [] [] f fd) (fr : Fr M) (lks : L_is_character M.K M) : FnOk M.P M.w M.K M.mg M.base (L2.CX M.P M.w) 1 f fd ps_is_character (spP M.mg [tDat] tBool (r_is_character M.K)) :=
  fn_P F (Lks := L_is_character M.K) lks (z := (none)) fr (by decide +kernel) rfl (fun X l xo xs x => ((d_is_character M.K).2 X l xo xs x)) (fun y h => by cases h)
theorem lk_is_character {M : Md} (A : FnAt M "is_character" st_is_character) (fr : Fr M) (lks : L_is_character M.K M) : LkP M "is_character" ps_is_character [tDat] tBool (r_is_character M.K) 1 := by
  obtain ⟨f, fd, g, F⟩ := A
  exact ⟨f, fd, g, F.kp, F.bindsN fun _ _ _ _ _ _ us hl => match us, hl with | [_], _ => rfl, ok_is_character F fr lks⟩
theorem ok__law_all_signs_right {M : Md} {f : Addr} {fd : FuncData} (F : FunD M.K "_law_all_signs_right" "_law_all_signs_right" (defArgs st__law_all_signs_right) (defBody st__law_all_signs_right) (defScope st__law_all_signs_right) [] [] f fd) (fr : Fr M) (lks : L__law_all_signs_right M.K M) : FnOk M.P M.w M.K M.mg M.base (L2.CX M.P M.w) 2 f fd ps__law_all_signs_right (spP M.mg [] tBool (r__law_all_signs_right M.K)) :=
  fn_P F (Lks := L__law_all_signs_right M.K) lks (z := (none)) fr (by decide +kernel) rfl (fun X l xo xs x => ((d__law_all_signs_right M.K).2 X l xo xs x)) (fun y h => by cases h)
theorem lk__law_all_signs_right {M : Md} (A : FnAt M "_law_all_signs_right" st__law_all_signs_right) (fr : Fr M) (lks : L__law_all_signs_right M.K M) : LkP M "_law_all_signs_right" ps__law_all_signs_right [] tBool (r__law_all_signs_right M.K) 2 := by
  obtain ⟨f, fd, g, F⟩ := A
  exact ⟨f, fd, g, F.kp, F.bindsN fun _ _ _ _ _ _ us hl => match us, hl with | [], _ => rfl, ok__law_all_signs_right F fr lks⟩
theorem ok__law_cell {M : Md} {f : Addr} {fd : FuncData} (F : FunD M.K "_law_cell" "_law_cell" (defArgs st__law_cell) (defBody st__law_cell) (defScope st__law_cell) [] [] f fd) (fr : Fr M) (lks : L__law_cell M.K M) : FnOk M.P M.w M.K M.mg M.base (L2.CX M.P M.w) 1 f fd ps__law_cell (spP M.mg [(tScr M.K), tInt] tInt (r__law_cell M.K)) :=
  fn_P F (Lks := L__law_cell M.K) lks (z := (none)) fr (by decide +kernel) rfl (fun X l xo xs x => ((d__law_cell M.K).2 X l xo xs x)) (fun y h => by cases h)
theorem lk__law_cell {M : Md} (A : FnAt M "_law_cell" st__law_cell) (fr : Fr M) (lks : L__law_cell M.K M) : LkP M "_law_cell" ps__law_cell [(tScr M.K), tInt] tInt (r__law_cell M.K) 1 := by
  obtain ⟨f, fd, g, F⟩ := A
  exact ⟨f, fd, g, F.kp, F.bindsN fun _ _ _ _ _ _ us hl => match us, hl with | [_, _], _ => rfl, ok__law_cell F fr lks⟩
theorem ok__law_box {M : Md} {f : Addr} {fd : FuncData} (F : FunD M.K "_law_box" "_law_box" (defArgs st__law_box) (defBody st__law_box) (defScope st__law_box) [] [] f fd) (fr : Fr M) (lks : L__law_box M.K M) : FnOk M.P M.w M.K M.mg M.base (L2.CX M.P M.w) 1 f fd ps__law_box (spP M.mg [tInt] (tOwn tInt) (r__law_box M.K)) :=
  fn_P F (Lks := L__law_box M.K) lks (z := (none)) fr (by decide +kernel) rfl (fun X l xo xs x => ((d__law_box M.K).2 X l xo xs x)) (fun y h => by cases h)
theorem lk__law_box {M : Md} (A : FnAt M "_law_box" st__law_box) (fr : Fr M) (lks : L__law_box M.K M) : LkP M "_law_box" ps__law_box [tInt] (tOwn tInt) (r__law_box M.K) 1 := by
  obtain ⟨f, fd, g, F⟩ := A
  exact ⟨f, fd, g, F.kp, F.bindsN fun _ _ _ _ _ _ us hl => match us, hl with | [_], _ => rfl, ok__law_box F fr lks⟩
theorem ok__law_take {M : Md} {f : Addr} {fd : FuncData} (F : FunD M.K "_law_take" "_law_take" (defArgs st__law_take) (defBody st__law_take) (defScope st__law_take) [] [] f fd) (fr : Fr M) (lks : L__law_take M.K M) : FnOk M.P M.w M.K M.mg M.base (L2.CX M.P M.w) 1 f fd ps__law_take (spO M.mg (tOwn tInt) [tInt] tInt (r__law_take M.K)) :=
  fn_O F (Lks := L__law_take M.K) lks fr (by decide +kernel) rfl (fun X l xo xs x => ((d__law_take M.K).2 X l xo xs x))
theorem lk__law_take {M : Md} (A : FnAt M "_law_take" st__law_take) (fr : Fr M) (lks : L__law_take M.K M) : LkO M "_law_take" ps__law_take (tOwn tInt) [tInt] tInt (r__law_take M.K) 1 := by
  obtain ⟨f, fd, g, F⟩ := A
  exact ⟨f, fd, g, F.kp, F.bindsN fun _ _ _ _ _ _ us hl => match us, hl with | [_, _], _ => rfl, ok__law_take F fr lks⟩
theorem ok__law_string {M : Md} {f : Addr} {fd : FuncData} (F : FunD M.K "_law_string" "_law_string" (defArgs st__law_string) (defBody st__law_string) (defScope st__law_string) [] [] f fd) (fr : Fr M) (lks : L__law_string M.K M) : FnOk M.P M.w M.K M.mg M.base (L2.CX M.P M.w) 2 f fd ps__law_string (spO M.mg (tOwn tInt) [tInt] tStr (r__law_string M.K)) :=
  fn_O F (Lks := L__law_string M.K) lks fr (by decide +kernel) rfl (fun X l xo xs x => ((d__law_string M.K).2 X l xo xs x))
theorem lk__law_string {M : Md} (A : FnAt M "_law_string" st__law_string) (fr : Fr M) (lks : L__law_string M.K M) : LkO M "_law_string" ps__law_string (tOwn tInt) [tInt] tStr (r__law_string M.K) 2 := by
  obtain ⟨f, fd, g, F⟩ := A
  exact ⟨f, fd, g, F.kp, F.bindsN fun _ _ _ _ _ _ us hl => match us, hl with | [_, _], _ => rfl, ok__law_string F fr lks⟩
theorem ok__law_odd {M : Md} {f : Addr} {fd : FuncData} (F : FunD M.K "_law_odd" "_law_odd" (defArgs st__law_odd) (defBody st__law_odd) (defScope st__law_odd) [] [] f fd) (fr : Fr M) (lks : L__law_odd M.K M) : FnOk M.P M.w M.K M.mg M.base (L2.CX M.P M.w) 2 f fd ps__law_odd (spO M.mg (tOwn tInt) [] tDat (r__law_odd M.K)) :=
  fn_O F (Lks := L__law_odd M.K) lks fr (by decide +kernel) rfl (fun X l xo xs x => ((d__law_odd M.K).2 X l xo xs x))
theorem lk__law_odd {M : Md} (A : FnAt M "_law_odd" st__law_odd) (fr : Fr M) (lks : L__law_odd M.K M) : LkO M "_law_odd" ps__law_odd (tOwn tInt) [] tDat (r__law_odd M.K) 2 := by
  obtain ⟨f, fd, g, F⟩ := A
  exact ⟨f, fd, g, F.kp, F.bindsN fun _ _ _ _ _ _ us hl => match us, hl with | [_], _ => rfl, ok__law_odd F fr lks⟩
theorem ok__law_is_sign {M : Md} {f : Addr} {fd : FuncData} (F : FunD M.K "_law_is_sign" "_law_is_sign" (defArgs st__law_is_sign) (defBody st__law_is_sign) (defScope st__law_is_sign) [] [] f fd) (fr : Fr M) (lks : L__law_is_sign M.K M) : FnOk M.P M.w M.K M.mg M.base (L2.CX M.P M.w) 2 f fd ps__law_is_sign (spP M.mg [tDat] tBool (r__law_is_sign M.K)) :=
  fn_P F (Lks := L__law_is_sign M.K) lks (z := (none)) fr (by decide +kernel) rfl (fun X l xo xs x => ((d__law_is_sign M.K).2 X l xo xs x)) (fun y h => by cases h)
theorem lk__law_is_sign {M : Md} (A : FnAt M "_law_is_sign" st__law_is_sign) (fr : Fr M) (lks : L__law_is_sign M.K M) : LkP M "_law_is_sign" ps__law_is_sign [tDat] tBool (r__law_is_sign M.K) 2 := by
  obtain ⟨f, fd, g, F⟩ := A
  exact ⟨f, fd, g, F.kp, F.bindsN fun _ _ _ _ _ _ us hl => match us, hl with | [_], _ => rfl, ok__law_is_sign F fr lks⟩
theorem ok_is_text {M : Md} {f : Addr} {fd : FuncData} (F : FunD M.K "is_text" "is_text" (defArgs st_is_text) (defBody st_is_text) (defScope st_is_text) [] [] f fd) (fr : Fr M) (lks : L_is_text M.K M) : FnOk M.P M.w M.K M.mg M.base (L2.CX M.P M.w) 1 f fd ps_is_text (spP M.mg [tDat, tStr] tBool (r_is_text M.K)) :=
  fn_P F (Lks := L_is_text M.K) lks (z := (none)) fr (by decide +kernel) rfl (fun X l xo xs x => ((d_is_text M.K).2 X l xo xs x)) (fun y h => by cases h)
theorem lk_is_text {M : Md} (A : FnAt M "is_text" st_is_text) (fr : Fr M) (lks : L_is_text M.K M) : LkK M "is_text" ps_is_text [tDat, tStr] tBool (r_is_text M.K) 1 := by
  obtain ⟨f, fd, g, F⟩ := A
  exact ⟨f, fd, ⟨g, F.kp, F.bindsN fun _ _ _ _ _ _ us hl => match us, hl with | [_, _], _ => rfl, ok_is_text F fr lks⟩, bindsK F fun _ _ _ _ _ _ us hl => match us, hl with | [_, _], _ => rfl⟩
theorem ok_in_order {M : Md} {f : Addr} {fd : FuncData} (F : FunD M.K "in_order" "in_order" (defArgs st_in_order) (defBody st_in_order) (defScope st_in_order) [] [] f fd) (fr : Fr M) (lks : L_in_order M.K M) : FnOk M.P M.w M.K M.mg M.base (L2.CX M.P M.w) 2 f fd ps_in_order (spP M.mg [tStr] tStr (r_in_order M.K)) :=
  fn_P F (Lks := L_in_order M.K) lks (z := (none)) fr (by decide +kernel) rfl (fun X l xo xs x => ((d_in_order M.K).2 X l xo xs x)) (fun y h => by cases h)
theorem lk_in_order {M : Md} (A : FnAt M "in_order" st_in_order) (fr : Fr M) (lks : L_in_order M.K M) : LkK M "in_order" ps_in_order [tStr] tStr (r_in_order M.K) 2 := by
  obtain ⟨f, fd, g, F⟩ := A
  exact ⟨f, fd, ⟨g, F.kp, F.bindsN fun _ _ _ _ _ _ us hl => match us, hl with | [_], _ => rfl, ok_in_order F fr lks⟩, bindsK F fun _ _ _ _ _ _ us hl => match us, hl with | [_], _ => rfl⟩
theorem ok_law {M : Md} {f : Addr} {fd : FuncData} (F : FunD M.K "law" "law" (defArgs st_law) (defBody st_law) (defScope st_law) [] [] f fd) (fr : Fr M) (lks : L_law M.K M) : FnOk M.P M.w M.K M.mg M.base (L2.CX M.P M.w) 3 f fd ps_law (spP M.mg [(tScr M.K)] tBool (r_law M.K)) :=
  fn_P F (Lks := L_law M.K) lks (z := (none)) fr (by decide +kernel) rfl (fun X l xo xs x => ((d_law M.K).2 X l xo xs x)) (fun y h => by cases h)
theorem lk_law {M : Md} (A : FnAt M "law" st_law) (fr : Fr M) (lks : L_law M.K M) : LkP M "law" ps_law [(tScr M.K)] tBool (r_law M.K) 3 := by
  obtain ⟨f, fd, g, F⟩ := A
  exact ⟨f, fd, g, F.kp, F.bindsN fun _ _ _ _ _ _ us hl => match us, hl with | [_], _ => rfl, ok_law F fr lks⟩
/-! ### the head -/
def e__law_signs : He.DefD := ⟨("_law_signs", none), "_law_signs", "_law_signs", defArgs st__law_signs, defBody st__law_signs, defScope st__law_signs, [], []⟩
def e_is_character : He.DefD := ⟨("is_character", none), "is_character", "is_character", defArgs st_is_character, defBody st_is_character, defScope st_is_character, [], []⟩
def e__law_all_signs_right : He.DefD := ⟨("_law_all_signs_right", none), "_law_all_signs_right", "_law_all_signs_right", defArgs st__law_all_signs_right, defBody st__law_all_signs_right, defScope st__law_all_signs_right, [], []⟩
def e__law_cell : He.DefD := ⟨("_law_cell", none), "_law_cell", "_law_cell", defArgs st__law_cell, defBody st__law_cell, defScope st__law_cell, [], []⟩
def e__law_box : He.DefD := ⟨("_law_box", none), "_law_box", "_law_box", defArgs st__law_box, defBody st__law_box, defScope st__law_box, [], []⟩
def e__law_take : He.DefD := ⟨("_law_take", none), "_law_take", "_law_take", defArgs st__law_take, defBody st__law_take, defScope st__law_take, [], []⟩
def e__law_string : He.DefD := ⟨("_law_string", none), "_law_string", "_law_string", defArgs st__law_string, defBody st__law_string, defScope st__law_string, [], []⟩
def e__law_odd : He.DefD := ⟨("_law_odd", none), "_law_odd", "_law_odd", defArgs st__law_odd, defBody st__law_odd, defScope st__law_odd, [], []⟩
def e__law_is_sign : He.DefD := ⟨("_law_is_sign", none), "_law_is_sign", "_law_is_sign", defArgs st__law_is_sign, defBody st__law_is_sign, defScope st__law_is_sign, [], []⟩
def e_is_text : He.DefD := ⟨("is_text", none), "is_text", "is_text", defArgs st_is_text, defBody st_is_text, defScope st_is_text, [], []⟩
def e_in_order : He.DefD := ⟨("in_order", none), "in_order", "in_order", defArgs st_in_order, defBody st_in_order, defScope st_in_order, [], []⟩
def e_law : He.DefD := ⟨("law", none), "law", "law", defArgs st_law, defBody st_law, defScope st_law, [], []⟩
def fn : List He.DefD := [e__law_signs, e_is_character, e__law_all_signs_right, e__law_cell, e__law_box, e__law_take, e__law_string, e__law_odd, e__law_is_sign, e_is_text, e_in_order, e_law]
def fa : List He.Fa := [.glo "_law_signs", .glo "is_character", .glo "_law_all_signs_right", .glo "_law_cell", .glo "_law_box", .glo "_law_take", .glo "_law_string", .glo "_law_odd", .glo "_law_is_sign", .glo "is_text", .glo "in_order", .glo "law", .free "isinstance", .free "str", .free "len", .free "range", .free "max", .free "min", .free "repr", .free "all", .free "sorted", .free "list", .str "CHARACTERS" (sOf [48, 49, 50, 51, 52, 53, 54, 55, 56, 57, 65, 66, 67, 68, 69, 70, 71, 72, 73, 74, 75, 76, 77, 78, 79, 80, 81, 82, 83, 84, 85, 86, 87, 88, 89, 90, 97, 98, 99, 100, 101, 102, 103, 104, 105, 106, 107, 108, 109, 110, 111, 112, 113, 114, 115, 116, 117, 118, 119, 120, 121, 122])]
abbrev R : PySem.W.OpenRow := PySem.W.OpenLaw.row PySem.Challenge.rw_canontext_k01_characters_and_texts
abbrev hk : PySem.W.Hook := He.hookD 4 fa fn
def ob (s : PySem.W.SharedT) : He.AlD := He.obsDG 4 fa fn (HandSHeadRun.getT s)
theorem ob_eq (s : PySem.W.SharedT) : ob s = hk.obs s.abs := He.obsDG_eq (HandSHeadRun.getT_eq s)
def loose : List PySem.Str := (["TextError", "InvalidCharacter", "CHARACTERS", "is_character", "is_text", "in_order", "_law_cell", "_law_box", "_law_take", "_law_signs", "_law_string", "_law_odd", "_law_is_sign", "_law_all_signs_right"] : List PySem.Str)
abbrev qv : Program := PySem.W.view R.prog [17]
set_option maxHeartbeats 0 in
theorem run (w : World) : HandSHeadRun.RunEq R qv hk ob 4000 loose w := by
  intro os
  kernel_rfl
theorem mg_str {M : Md} {x : Str} {z : Str} (h : ∃ t, M.mg x = some (.str z t)) : LkC M x (.str z) := by
  obtain ⟨t, h⟩ := h
  exact ⟨_, h, t, rfl⟩
theorem facts {P : Program} {w : World} {K : PySem.W.Frag} {h : Heap} {mg : Str → Option Value} {f : Addr} (X : K.In h) (G : h.Ns mainGlobals mg) (hfa : mg ("law" : Str) = some (.ref f)) (c : He.SaysD fa fn K) :
    ∃ fd : FuncData, (∀ (s : Shared) (v : Value), BindsTo s fd ⟨[v], []⟩ [("script", v)]) ∧ ∀ base : Heap, K.In base → base.Ns mainGlobals mg → FnOk P w K mg base (L2.CX P w) 3 f fd ["script"] (spP mg [tScr K] tBool (r_law K)) := by
  have hfn : ∀ (i j : Nat) (d : He.DefD) (x : Str), fn[i]? = some d → fa[j]? = some (.glo x) → ∃ fd, mg x = some (.ref (He.ga K x)) ∧ FunD K d.name d.qual d.params d.body d.scope (d.dvs K) (d.kws K) (He.fAd K d.at_) fd := fun i j d x h1 h2 => by
    obtain ⟨fd, F⟩ := c.def_ i (d := d) h1
    exact ⟨fd, He.glo_ok X G (c.fact j (f := .glo x) h2), F⟩
  have fr : ∀ (i : Nat) (x : Str), Bn[i]? = some x → mg x = none := fun i x hx => by
    have hj : fa[12 + i]? = some (.free x) := by
      match i, hx with
      | 0, hx => cases hx; rfl
      | 1, hx => cases hx; rfl
      | 2, hx => cases hx; rfl
      | 3, hx => cases hx; rfl
      | 4, hx => cases hx; rfl
      | 5, hx => cases hx; rfl
      | 6, hx => cases hx; rfl
      | 7, hx => cases hx; rfl
      | 8, hx => cases hx; rfl
      | 9, hx => cases hx; rfl
      | (n + 10), hx => cases hx
    exact He.free_ok X G (c.fact (12 + i) (f := .free x) hj)
  have c_CHARACTERS : ∀ base : Heap, LkC ⟨P, w, K, mg, base⟩ "CHARACTERS" (.str (sOf [48, 49, 50, 51, 52, 53, 54, 55, 56, 57, 65, 66, 67, 68, 69, 70, 71, 72, 73, 74, 75, 76, 77, 78, 79, 80, 81, 82, 83, 84, 85, 86, 87, 88, 89, 90, 97, 98, 99, 100, 101, 102, 103, 104, 105, 106, 107, 108, 109, 110, 111, 112, 113, 114, 115, 116, 117, 118, 119, 120, 121, 122])) := fun base => mg_str (He.str_ok X G (c.fact 22 (f := .str "CHARACTERS" (sOf [48, 49, 50, 51, 52, 53, 54, 55, 56, 57, 65, 66, 67, 68, 69, 70, 71, 72, 73, 74, 75, 76, 77, 78, 79, 80, 81, 82, 83, 84, 85, 86, 87, 88, 89, 90, 97, 98, 99, 100, 101, 102, 103, 104, 105, 106, 107, 108, 109, 110, 111, 112, 113, 114, 115, 116, 117, 118, 119, 120, 121, 122])) rfl))
  have a__law_signs : ∀ base : Heap, FnAt ⟨P, w, K, mg, base⟩ "_law_signs" st__law_signs := fun base => by
    obtain ⟨fd, F⟩ := c.def_ 0 (d := e__law_signs) rfl
    exact ⟨_, fd, He.glo_ok X G (c.fact 0 (f := .glo "_law_signs") rfl), F⟩
  have a_is_character : ∀ base : Heap, FnAt ⟨P, w, K, mg, base⟩ "is_character" st_is_character := fun base => by
    obtain ⟨fd, F⟩ := c.def_ 1 (d := e_is_character) rfl
    exact ⟨_, fd, He.glo_ok X G (c.fact 1 (f := .glo "is_character") rfl), F⟩
  have a__law_all_signs_right : ∀ base : Heap, FnAt ⟨P, w, K, mg, base⟩ "_law_all_signs_right" st__law_all_signs_right := fun base => by
    obtain ⟨fd, F⟩ := c.def_ 2 (d := e__law_all_signs_right) rfl
    exact ⟨_, fd, He.glo_ok X G (c.fact 2 (f := .glo "_law_all_signs_right") rfl), F⟩
  have a__law_cell : ∀ base : Heap, FnAt ⟨P, w, K, mg, base⟩ "_law_cell" st__law_cell := fun base => by
    obtain ⟨fd, F⟩ := c.def_ 3 (d := e__law_cell) rfl
    exact ⟨_, fd, He.glo_ok X G (c.fact 3 (f := .glo "_law_cell") rfl), F⟩
  have a__law_box : ∀ base : Heap, FnAt ⟨P, w, K, mg, base⟩ "_law_box" st__law_box := fun base => by
    obtain ⟨fd, F⟩ := c.def_ 4 (d := e__law_box) rfl
    exact ⟨_, fd, He.glo_ok X G (c.fact 4 (f := .glo "_law_box") rfl), F⟩
  have a__law_take : ∀ base : Heap, FnAt ⟨P, w, K, mg, base⟩ "_law_take" st__law_take := fun base => by
    obtain ⟨fd, F⟩ := c.def_ 5 (d := e__law_take) rfl
    exact ⟨_, fd, He.glo_ok X G (c.fact 5 (f := .glo "_law_take") rfl), F⟩
  have a__law_string : ∀ base : Heap, FnAt ⟨P, w, K, mg, base⟩ "_law_string" st__law_string := fun base => by
    obtain ⟨fd, F⟩ := c.def_ 6 (d := e__law_string) rfl
    exact ⟨_, fd, He.glo_ok X G (c.fact 6 (f := .glo "_law_string") rfl), F⟩
  have a__law_odd : ∀ base : Heap, FnAt ⟨P, w, K, mg, base⟩ "_law_odd" st__law_odd := fun base => by
    obtain ⟨fd, F⟩ := c.def_ 7 (d := e__law_odd) rfl
    exact ⟨_, fd, He.glo_ok X G (c.fact 7 (f := .glo "_law_odd") rfl), F⟩
  have a__law_is_sign : ∀ base : Heap, FnAt ⟨P, w, K, mg, base⟩ "_law_is_sign" st__law_is_sign := fun base => by
    obtain ⟨fd, F⟩ := c.def_ 8 (d := e__law_is_sign) rfl
    exact ⟨_, fd, He.glo_ok X G (c.fact 8 (f := .glo "_law_is_sign") rfl), F⟩
  have a_is_text : ∀ base : Heap, FnAt ⟨P, w, K, mg, base⟩ "is_text" st_is_text := fun base => by
    obtain ⟨fd, F⟩ := c.def_ 9 (d := e_is_text) rfl
    exact ⟨_, fd, He.glo_ok X G (c.fact 9 (f := .glo "is_text") rfl), F⟩
  have a_in_order : ∀ base : Heap, FnAt ⟨P, w, K, mg, base⟩ "in_order" st_in_order := fun base => by
    obtain ⟨fd, F⟩ := c.def_ 10 (d := e_in_order) rfl
    exact ⟨_, fd, He.glo_ok X G (c.fact 10 (f := .glo "in_order") rfl), F⟩
  have a_law : ∀ base : Heap, FnAt ⟨P, w, K, mg, base⟩ "law" st_law := fun base => by
    obtain ⟨fd, F⟩ := c.def_ 11 (d := e_law) rfl
    exact ⟨_, fd, He.glo_ok X G (c.fact 11 (f := .glo "law") rfl), F⟩
  have l__law_signs := fun base : Heap => lk__law_signs (M := ⟨P, w, K, mg, base⟩) (a__law_signs base) fr rfl
  have l_is_character := fun base : Heap => lk_is_character (M := ⟨P, w, K, mg, base⟩) (a_is_character base) fr ⟨c_CHARACTERS base, rfl⟩
  have l__law_all_signs_right := fun base : Heap => lk__law_all_signs_right (M := ⟨P, w, K, mg, base⟩) (a__law_all_signs_right base) fr ⟨l__law_signs base, l_is_character base, rfl⟩
  have l__law_cell := fun base : Heap => lk__law_cell (M := ⟨P, w, K, mg, base⟩) (a__law_cell base) fr rfl
  have l__law_box := fun base : Heap => lk__law_box (M := ⟨P, w, K, mg, base⟩) (a__law_box base) fr rfl
  have l__law_take := fun base : Heap => lk__law_take (M := ⟨P, w, K, mg, base⟩) (a__law_take base) fr rfl
  have l__law_string := fun base : Heap => lk__law_string (M := ⟨P, w, K, mg, base⟩) (a__law_string base) fr ⟨l__law_take base, l__law_signs base, rfl⟩
  have l__law_odd := fun base : Heap => lk__law_odd (M := ⟨P, w, K, mg, base⟩) (a__law_odd base) fr ⟨l__law_take base, rfl⟩
  have l__law_is_sign := fun base : Heap => lk__law_is_sign (M := ⟨P, w, K, mg, base⟩) (a__law_is_sign base) fr ⟨l__law_signs base, rfl⟩
  have l_is_text := fun base : Heap => lk_is_text (M := ⟨P, w, K, mg, base⟩) (a_is_text base) fr rfl
  have l_in_order := fun base : Heap => lk_in_order (M := ⟨P, w, K, mg, base⟩) (a_in_order base) fr ⟨l_is_character base, c_CHARACTERS base, rfl⟩
  obtain ⟨fd, F⟩ := c.def_ 11 (d := e_law) rfl
  have e := hfa.symm.trans (He.glo_ok X G (c.fact 11 (f := .glo "law") rfl))
  cases e
  have b := FunD.bindsA (ps := ["script"]) F fun _ _ _ _ _ _ us hl => match us, hl with | [_], _ => rfl
  exact ⟨fd, fun s v => b s [v] rfl, fun base _ _ => ok_law (M := ⟨P, w, K, mg, base⟩) F fr ⟨l__law_all_signs_right base, l__law_cell base, l__law_box base, l__law_string base, l__law_odd base, l_is_character base, l__law_is_sign base, l_is_text base, l__law_signs base, l_in_order base, l__law_take base, rfl⟩⟩
end K

open PySem PySem.W PySem.Calls PyProof.Rows
theorem PySem.Challenge.cw_canontext_k01_characters_and_texts_holds : PySem.Challenge.rw_canontext_k01_characters_and_texts.Holds := by
  w_on; o_law
  refine HandSHeadRun.head_any (r := OpenLaw.row PySem.Challenge.rw_canontext_k01_characters_and_texts) (q := view (OpenLaw.row PySem.Challenge.rw_canontext_k01_characters_and_texts).prog [17]) (H := K.hk) (ob := K.ob) (M := 4000) (loose := K.loose) (d := HandSHeadRun.topDef (OpenLaw.row PySem.Challenge.rw_canontext_k01_characters_and_texts).prog 17) (kwd := []) K.ob_eq
    (by kernel_rfl) (fun s => by kernel_rfl) K.run (by kernel_rfl) (by kernel_rfl) (by kernel_rfl) (by rfl) (by first | assumption | decide +kernel) (by decide +kernel) ⟨rfl, rfl, rfl, rfl, rfl, by decide +kernel⟩ ?hw ?hc
  case hw => w_witness2
  case hc =>
    refine L2.walk_ofE (l := PySem.Challenge.rw_canontext_k01_characters_and_texts) (n := 63) (k := 3) (x := "script") (CX := Mi.CXA) rfl (by decide) (by kernel_rfl) ⟨rfl, by decide, by decide⟩ ?F (fun _ _ _ _ ⟨_, _, _, _, _, _, _, _, _, _, _, _, _, _, z⟩ => z)
    intro w mg fa h Y G hmg0
    obtain ⟨K0, KX, c⟩ := Y
    have hmg : mg ("law" : PySem.Str) = some (.ref fa) := by
      have e : (HandSHeadRun.topDef (OpenLaw.row PySem.Challenge.rw_canontext_k01_characters_and_texts).prog 17).name = ("law" : PySem.Str) := by kernel_rfl
      rw [← e]
      exact hmg0
    obtain ⟨fd, hb, hF⟩ := K.facts (P := (PySem.Challenge.rw_canontext_k01_characters_and_texts).prog) (w := w) KX G hmg c
    exact ⟨K0, fd, _, KX, hb, fun H a ns hl _ hS => K.sp_law ns hS, fun base h1 h2 => Mi.any_world (hF base h1 h2)⟩


