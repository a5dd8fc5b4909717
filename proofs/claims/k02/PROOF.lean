import PyProof.Rows.All
import Wide.All
import OpenK.AllK
import Wide.FinOn
import HandS.ForMost
import HandS.Exc
import HandS.ExcOwn
import HandS.WordsExc
import HandS.CallSlots
import HandS.Defaults
import HandS.Wide
import HandS.Comp
import HandS.IsInst
import HandS.Text
import HandS.StrMore
import HandS.Style
import HandS.RaiseMore
import HandS.Dict
import HandS.Codes
import HandS.Replace
import HandS.ReplaceList
import PyProof.Rows.StrStrike
import PyProof.Rows.RegReprOcc
import PyProof.Rows.StrRev
import PyProof.Rows.ListStrD
import KE.KStateDown
import Lean
import HandS.Base
import HandS.Call
import HandS.Ends
import HandS.More
import HandS.Words
import HandS.Head0
import HandS.Head1
import HandS.Head2
import HandS.HeadEnd
import HandS.HeadHook1
import HandS.HeadHook2
import HandS.Small
import HandS.Iter
import HandS.WordsDict
import HandS.DictComp
import HandS.MakeKwOnly
import HandS.Property
import HandS.ClsMeth
import HandS.HeadHook3
import KE.KExcInit
import HandS.ExcField
import KE.KIsAll
import PyProof.ReprRoads
import HandS.Finally
import PyProof.InstNe
import KE.KFmtOwn
import HandS.Lambda
import HandS.Nested
import KE.SortKeyHeap
import HandS.EndTab
import HandS.HeadHook4
import PyProof.EnumMake
import PyProof.Draws
import HandS.Conv
import KE.KAssignIn
import KE.SortData
import KE.KDictList
import HandS.ListItems
import KE.KCallOwn
import HandS.Deep
import HandS.ExcInit
import HandS.TryMany
import HandS.TupAny
import HandS.Flow
import HandS.Star
import KE.KEqDict
import HandS.TryOnly
import HandS.MakeKw
import KE.KExcIs
import HandS.ExcIs
import HandS.HotCalls
import PySem.Challenge.RW_canontext_k02_errors_of_in_order
set_option Elab.async false
set_option linter.all false
set_option maxRecDepth 100000
set_option maxHeartbeats 8000000
namespace Mi
open PySem PySem.Spec PyProof.Rows L2

def Sub (H H' : Hp) : Prop := ∀ a o, H a = some o → H' a = some o
theorem Sub.refl (H : Hp) : Sub H H := fun _ _ h => h
theorem Sub.trans {A B C : Hp} (h : Sub A B) (k : Sub B C) : Sub A C := fun a o e => k a o (h a o e)
theorem Sub.none {A B : Hp} (h : Sub A B) {p : Addr} (e : B p = none) : A p = none := by
  cases q : A p with
  | none => rfl
  | some o => rw [h p o q] at e; cases e
def emp : Hp := fun _ => none
def sing (a : Addr) (o : HO) : Hp := fun b => if b = a then some o else none
theorem sing_same {a : Addr} {o : HO} : sing a o a = some o := if_pos rfl
theorem sing_ne {a b : Addr} {o : HO} (h : b ≠ a) : sing a o b = none := if_neg h
def uni (A B : Hp) : Hp := fun p => match A p with
  | some o => some o
  | none => B p
theorem uni_l {A B : Hp} {p : Addr} {o : HO} (h : A p = some o) : uni A B p = some o := by unfold uni; rw [h]
theorem uni_r {A B : Hp} {p : Addr} (h : A p = none) : uni A B p = B p := by unfold uni; rw [h]
theorem uni_none {A B : Hp} {p : Addr} : uni A B p = none ↔ A p = none ∧ B p = none := by
  cases h : A p with
  | some o => rw [uni_l h]; simp
  | none => rw [uni_r h]; simp
structure Sep (A B C : Hp) : Prop where
  dis : ∀ p, A p = none ∨ B p = none
  eq : C = uni A B
theorem Sep.l {A B C : Hp} (s : Sep A B C) : Sub A C := fun a o h => by rw [s.eq]; exact uni_l h
theorem Sep.r {A B C : Hp} (s : Sep A B C) : Sub B C := fun a o h => by
  rw [s.eq]
  rcases s.dis a with e | e
  · rw [uni_r e]; exact h
  · rw [h] at e; cases e
theorem Sep.emp_l {A B : Hp} (s : Sep emp A B) : B = A := s.eq
theorem Sep.comm {A B C : Hp} (s : Sep A B C) : Sep B A C := ⟨fun p => (s.dis p).symm, by
  rw [s.eq]; funext p
  rcases s.dis p with e | e
  · rw [uni_r e]
    cases h : B p with
    | some o => exact (uni_l h).symm
    | none => rw [uni_r h, e]
  · rw [uni_r e]
    cases h : A p with
    | some o => exact (uni_l h)
    | none => rw [uni_r h, e]⟩
theorem Sep.none {A B C : Hp} (s : Sep A B C) {p : Addr} (h : C p = none) : A p = none ∧ B p = none := by
  rw [s.eq] at h; exact uni_none.mp h
theorem Sep.assoc {A B C D E : Hp} (s : Sep A B C) (t : Sep D C E) : ∃ G, Sep D B G ∧ Sep A G E := by
  refine ⟨uni D B, ⟨fun p => ?_, rfl⟩, fun p => ?_, ?_⟩
  · rcases t.dis p with e | e
    · exact .inl e
    · exact .inr (s.none e).2
  · rcases t.dis p with e | e
    · rcases s.dis p with q | q
      · exact .inl q
      · exact .inr (uni_none.mpr ⟨e, q⟩)
    · exact .inl (s.none e).1
  · rw [t.eq, s.eq]; funext p
    cases hd : D p with
    | some o =>
      rw [uni_l hd]
      have ha : A p = Option.none := by
        rcases t.dis p with e | e
        · rw [hd] at e; cases e
        · exact (s.none e).1
      rw [uni_r ha, uni_l hd]
    | none =>
      rw [uni_r hd]
      cases ha : A p with
      | some o => rw [uni_l ha, uni_l ha]
      | none => rw [uni_r ha, uni_r ha, uni_r hd]
def CodeO (c : Addr) (q : Str) : HO := .ext fun h => ∃ (oc : Obj) (vs : Array Value) (t : Tok), h.get? c = some oc ∧ oc.data = .fields vs ∧ vs[1]? = some (.str q t)
def TabF (F H : Hp) (P : Addr) (q : Str) : Prop := ∃ ps : Array Value, H P = some (.tbl ps) ∧ TriplesOk ps.toList ∧ ∀ (pos : Pos) (cv : Value), codeAmong pos ps.toList = some cv → ∃ c, cv = .ref c ∧ F c = some (CodeO c q)
def HF (F H : Hp) (a : Addr) : HO → Prop
  | .tbl ps => ∃ q : Str, ps = #[.str q 0] ∧ TabF F H a q
  | o => H a = some o
def noTbl (o : HO) : Prop := ∀ ps, o ≠ .tbl ps
def ownO (o : HO) : Prop := noTbl o ∧ ∀ φ, o ≠ .ext φ
theorem HF.at {F H : Hp} {a : Addr} {o : HO} (h : HF F H a o) (n : noTbl o) : H a = some o := by
  cases o with
  | tbl ps => exact absurd rfl (n ps)
  | _ => exact h
theorem HF.of {F H : Hp} {a : Addr} {o : HO} (h : H a = some o) (n : noTbl o) : HF F H a o := by
  cases o with
  | tbl ps => exact absurd rfl (n ps)
  | _ => exact h
theorem HF.ex {F H : Hp} {a : Addr} {o : HO} (h : HF F H a o) : ∃ u, H a = some u := by
  cases o with
  | tbl ps =>
    obtain ⟨_, _, ps, e, _⟩ := h
    exact ⟨_, e⟩
  | _ => exact ⟨_, h⟩
theorem HF.up {F F' H H' : Hp} {a : Addr} {o : HO} (h : HF F H a o) (s : Sub F F') (k : H' a = H a) : HF F' H' a o := by
  cases o with
  | tbl ps =>
    obtain ⟨q, e, ps, e1, e2, e3⟩ := h
    refine ⟨q, e, ps, by rw [k]; exact e1, e2, fun pos cv z => ?_⟩
    obtain ⟨c, e4, e5⟩ := e3 pos cv z
    exact ⟨c, e4, s _ _ e5⟩
  | _ => exact k.trans h
structure Good (F M H : Hp) : Prop where
  f : ∀ a o, F a = some o → HF F H a o
  m : Sub M H
  dis : ∀ p, F p = none ∨ M p = none
  nt : ∀ p o, M p = some o → ownO o
def SubN (F H : Hp) : Prop := ∀ a o, noTbl o → F a = some o → H a = some o
theorem Sub.n {F H : Hp} (s : Sub F H) : SubN F H := fun a o _ e => s a o e
theorem Good.fn {F M H : Hp} (g : Good F M H) : SubN F H := fun a o n e => (g.f a o e).at n
theorem Good.set {F M1 M H : Hp} {p : Addr} {o o' : HO} (g : Good F M H) (s : Sep (sing p o) M1 M) (n : ownO o' := by exact ⟨(fun _ e => nomatch e), (fun _ e => nomatch e)⟩) : ∃ M', Sep (sing p o') M1 M' ∧ Good F M' (upd H p o') := by
  have hM1 : M1 p = none := by
    rcases s.dis p with e | e
    · rw [sing_same] at e; cases e
    · exact e
  have hM : M p = some o := s.l p o sing_same
  have hF : F p = none := by
    rcases g.dis p with e | e
    · exact e
    · rw [hM] at e; cases e
  refine ⟨uni (sing p o') M1, ⟨fun a => ?_, rfl⟩, fun a u e => ?_, fun a u e => ?_, fun a => ?_, fun a u e => ?_⟩
  · by_cases q : a = p
    · subst q; exact .inr hM1
    · exact .inl (sing_ne q)
  · exact (g.f a u e).up (.refl F) (upd_ne (ne_of_none e hF))
  · by_cases q : a = p
    · subst q; rw [uni_l sing_same] at e; rw [upd_same]; exact e
    · rw [uni_r (sing_ne q)] at e; rw [upd_ne q]; exact g.m a u (s.r a u e)
  · by_cases q : a = p
    · subst q; exact .inl hF
    · rw [uni_r (sing_ne q)]
      rcases g.dis a with e | e
      · exact .inl e
      · exact .inr (s.none e).2
  · by_cases q : a = p
    · subst q; rw [uni_l sing_same] at e; cases e; exact n
    · rw [uni_r (sing_ne q)] at e; exact g.nt a u (s.r a u e)
structure Ty where
  A : Type
  rep : A → V → Hp → Hp → Prop
  mono : ∀ {x v F F' m}, rep x v F m → Sub F F' → rep x v F' m
def Imm (t : Ty) : Prop := ∀ {x v F m}, t.rep x v F m → m = emp
def sOf (l : List Nat) : Str := ⟨l.toArray⟩
inductive Dat where
  | non | bl (b : Bool) | int (i : Int) | str (s : List Nat) | lst (xs : List Dat) | tup (xs : List Dat) | dct (ks : List Key) (vs : List Dat) | opq | raw (v : V)
mutual
def DRep : Dat → V → Hp → Prop
  | .non, v, _ => v = .non
  | .bl b, v, _ => v = .bl b
  | .int i, v, _ => v = .int i
  | .str s, v, _ => v = .str (sOf s)
  | .raw u, v, F => v = u ∧ ∃ a, u = .ref a ∧ ((∃ xs, F a = some (.lst xs)) ∨ (∃ xs, F a = some (.tup xs)) ∨ (∃ kvs, F a = some (.dK kvs)) ∨ ∃ o kvs, F a = some (.frz o (.dK kvs)))
  | .opq, v, F => ∃ a, v = .ref a ∧ ((∃ xs, F a = some (.lst xs)) ∨ (∃ xs, F a = some (.tup xs)) ∨ ∃ kvs, F a = some (.dK kvs))
  | .lst xs, v, F => ∃ a vs, v = .ref a ∧ F a = some (.lst vs) ∧ DReps xs vs F
  | .tup xs, v, F => ∃ a vs, v = .ref a ∧ F a = some (.tup vs) ∧ DReps xs vs F
  | .dct ks xs, v, F => ∃ a o vs, v = .ref a ∧ F a = some (.frz o (.dK (ks.zip vs))) ∧ ks.length = vs.length ∧ ks.Nodup ∧ DReps xs vs F
def DReps : List Dat → List V → Hp → Prop
  | [], vs, _ => vs = []
  | x :: xs, vs, F => ∃ v r, vs = v :: r ∧ DRep x v F ∧ DReps xs r F
end
mutual
theorem DRep.mono : ∀ {x : Dat} {v : V} {F F' : Hp}, DRep x v F → Sub F F' → DRep x v F'
  | .non, _, _, _, h, _ => by unfold DRep at h ⊢; exact h
  | .bl _, _, _, _, h, _ => by unfold DRep at h ⊢; exact h
  | .int _, _, _, _, h, _ => by unfold DRep at h ⊢; exact h
  | .str _, _, _, _, h, _ => by unfold DRep at h ⊢; exact h
  | .raw _, _, _, _, h, s => by
    unfold DRep at h ⊢
    obtain ⟨e0, a, e, q⟩ := h
    exact ⟨e0, a, e, q.imp (fun ⟨xs, z⟩ => ⟨xs, s _ _ z⟩) fun q => q.imp (fun ⟨xs, z⟩ => ⟨xs, s _ _ z⟩) fun q => q.imp (fun ⟨xs, z⟩ => ⟨xs, s _ _ z⟩) fun ⟨o, xs, z⟩ => ⟨o, xs, s _ _ z⟩⟩
  | .opq, _, _, _, h, s => by
    unfold DRep at h ⊢
    obtain ⟨a, e, q⟩ := h
    exact ⟨a, e, q.imp (fun ⟨xs, z⟩ => ⟨xs, s _ _ z⟩) fun q => q.imp (fun ⟨xs, z⟩ => ⟨xs, s _ _ z⟩) fun ⟨xs, z⟩ => ⟨xs, s _ _ z⟩⟩
  | .lst xs, _, _, _, h, s => by
    unfold DRep at h ⊢
    obtain ⟨a, vs, e, q, r⟩ := h
    exact ⟨a, vs, e, s _ _ q, DReps.mono r s⟩
  | .tup xs, _, _, _, h, s => by
    unfold DRep at h ⊢
    obtain ⟨a, vs, e, q, r⟩ := h
    exact ⟨a, vs, e, s _ _ q, DReps.mono r s⟩
  | .dct ks xs, _, _, _, h, s => by
    unfold DRep at h ⊢
    obtain ⟨a, o, vs, e, q, l, nd, r⟩ := h
    exact ⟨a, o, vs, e, s _ _ q, l, nd, DReps.mono r s⟩
theorem DReps.mono : ∀ {xs : List Dat} {vs : List V} {F F' : Hp}, DReps xs vs F → Sub F F' → DReps xs vs F'
  | [], _, _, _, h, _ => by unfold DReps at h ⊢; exact h
  | x :: xs, _, _, _, h, s => by
    unfold DReps at h ⊢
    obtain ⟨v, r, e, q, k⟩ := h
    exact ⟨v, r, e, DRep.mono q s, DReps.mono k s⟩
end
structure Exn where
  cls : Str
  fs : List (Str × Dat)
def FldsOk (fs : List (Str × Dat)) (vs : List (Str × V)) (F : Hp) : Prop := ∀ f x, fs.lookup f = some x → ∃ v, vs.lookup f = some v ∧ DRep x v F
def ExnOk (mg : Str → Option Value) (ex : Exn) (cls : Value) (d : Option Addr) (F : Hp) : Prop :=
  mg ex.cls = some cls ∧ (ex.fs = [] ∨ ∃ dd vs, d = some dd ∧ F dd = some (.xd vs) ∧ FldsOk ex.fs vs F)
theorem ExnOk.mono {mg : Str → Option Value} {ex : Exn} {cls : Value} {d : Option Addr} {F F' : Hp} (h : ExnOk mg ex cls d F) (s : Sub F F') : ExnOk mg ex cls d F' := by
  refine ⟨h.1, h.2.imp id ?_⟩
  rintro ⟨dd, vs, e, q, k⟩
  refine ⟨dd, vs, e, s _ _ q, fun f x l => ?_⟩
  obtain ⟨v, e1, e2⟩ := k f x l
  exact ⟨v, e1, e2.mono s⟩

abbrev SM (O A : Type) : Type := O → Option (Except Exn A × O)
namespace SM
variable {O A B : Type}
def ret (x : A) : SM O A := fun o => some (.ok x, o)
def bind (m : SM O A) (k : A → SM O B) : SM O B := fun o => match m o with
  | none => none
  | some (.ok x, o') => k x o'
  | some (.error e, o') => some (.error e, o')
end SM

abbrev Ctx : Type 1 := List (Option ((t : Ty) × t.A))
def CtxOk (Γ : Ctx) (σ : L2.St) (F : Hp) : Prop := Γ.length = σ.length ∧ ∀ (i : Nat) (t : Ty) (x : t.A), Γ[i]? = some (some ⟨t, x⟩) → ∃ v, σ[i]? = some (some v) ∧ t.rep x v F emp
theorem CtxOk.mono {Γ : Ctx} {σ : L2.St} {F F' : Hp} (h : CtxOk Γ σ F) (s : Sub F F') : CtxOk Γ σ F' := ⟨h.1, fun i t x e => by
  obtain ⟨v, e1, e2⟩ := h.2 i t x e
  exact ⟨v, e1, t.mono e2 s⟩⟩
theorem CtxOk.set {Γ : Ctx} {σ : L2.St} {F : Hp} {i : Nat} {t : Ty} {x : t.A} {v : V} (h : CtxOk Γ σ F) (r : t.rep x v F emp) : CtxOk (Γ.set i (some ⟨t, x⟩)) (σ.set i (some v)) F := by
  refine ⟨by simp [h.1], fun j u y e => ?_⟩
  by_cases q : j = i
  · subst q
    by_cases l : j < Γ.length
    · rw [List.getElem?_set_self l] at e
      obtain ⟨rfl, e2⟩ := Sigma.mk.inj (Option.some.inj (Option.some.inj e))
      cases e2
      exact ⟨v, List.getElem?_set_self (by rw [← h.1]; exact l), r⟩
    · rw [List.getElem?_eq_none (by simpa using l)] at e; cases e
  · rw [List.getElem?_set_ne (Ne.symm q)] at e ⊢
    exact h.2 j u y e
theorem CtxOk.out {Γ : Ctx} {σ : L2.St} {F : Hp} {i : Nat} {w : Option V} (h : CtxOk Γ σ F) : CtxOk (Γ.set i none) (σ.set i w) F := by
  refine ⟨by simp [h.1], fun j u y e => ?_⟩
  by_cases q : j = i
  · subst q
    by_cases l : j < Γ.length
    · rw [List.getElem?_set_self l] at e; cases e
    · rw [List.getElem?_eq_none (by simpa using l)] at e; cases e
  · rw [List.getElem?_set_ne (Ne.symm q)] at e ⊢
    exact h.2 j u y e
def CtxLe (Γ' Γ : Ctx) : Prop := Γ'.length = Γ.length ∧ ∀ (i : Nat) (z : (t : Ty) × t.A), Γ'[i]? = some (some z) → Γ[i]? = some (some z)
theorem CtxLe.refl (Γ : Ctx) : CtxLe Γ Γ := ⟨rfl, fun _ _ h => h⟩
theorem CtxLe.nil : CtxLe [] [] := .refl _
abbrev Os : Type 1 := List (Nat × Ty)
@[reducible] def OT : Os → Type
  | [] => Unit
  | p :: r => p.2.A × OT r
def OwnOk : (os : Os) → OT os → L2.St → Hp → Hp → Hp → Prop
  | [], _, _, _, M, R => M = R
  | p :: r, o, σ, F, M, R => ∃ v m M', σ[p.1]? = some (some v) ∧ p.2.rep o.1 v F m ∧ Sep m M' M ∧ OwnOk r o.2 σ F M' R
theorem OwnOk.mono : ∀ {os : Os} {o : OT os} {σ : L2.St} {F F' M R : Hp}, OwnOk os o σ F M R → Sub F F' → OwnOk os o σ F' M R
  | [], _, _, _, _, _, _, h, _ => h
  | _ :: _, _, _, _, _, _, _, ⟨v, m, M', e, r, s, k⟩, h => ⟨v, m, M', e, Ty.mono _ r h, s, k.mono h⟩
theorem OwnOk.slots : ∀ {os : Os} {o : OT os} {σ σ' : L2.St} {F M R : Hp}, OwnOk os o σ F M R → (∀ p ∈ os, σ'[p.1]? = σ[p.1]?) → OwnOk os o σ' F M R
  | [], _, _, _, _, _, _, h, _ => h
  | p :: r, _, _, _, _, _, _, ⟨v, m, M', e, q, s, k⟩, h => ⟨v, m, M', (h p List.mem_cons_self).trans e, q, s, k.slots fun z hz => h z (List.mem_cons_of_mem _ hz)⟩
inductive OMem : Os → Nat → Ty → Type 1
  | here {i : Nat} {t : Ty} {r : Os} : OMem ((i, t) :: r) i t
  | there {p : Nat × Ty} {i : Nat} {t : Ty} {r : Os} : OMem r i t → OMem (p :: r) i t
def OMem.get : {os : Os} → {i : Nat} → {t : Ty} → OMem os i t → OT os → t.A
  | _, _, _, .here, o => o.1
  | _, _, _, .there h, o => h.get o.2
def OMem.set : {os : Os} → {i : Nat} → {t : Ty} → OMem os i t → t.A → OT os → OT os
  | _, _, _, .here, x, o => (x, o.2)
  | _, _, _, .there h, x, o => (o.1, h.set x o.2)
theorem OMem.at : ∀ {os : Os} {i : Nat} {t : Ty} (h : OMem os i t) {o : OT os} {σ : L2.St} {F M R : Hp}, OwnOk os o σ F M R →
    ∃ v m M', σ[i]? = some (some v) ∧ t.rep (h.get o) v F m ∧ Sep m M' M ∧ ∀ x m' M2 F', Sub F F' → t.rep x v F' m' → Sep m' M' M2 → OwnOk os (h.set x o) σ F' M2 R
  | _, _, _, .here, _, _, _, _, _, ⟨v, m, M', e, q, s, k⟩ => ⟨v, m, M', e, q, s, fun x m' M2 F' f r s' => ⟨v, m', M', e, r, s', k.mono f⟩⟩
  | _, _, _, .there h, o, σ, F, M, R, ⟨v, m, M', e, q, s, k⟩ => by
    obtain ⟨v1, m1, M1, e1, q1, s1, k1⟩ := h.at k
    obtain ⟨G, g1, g2⟩ := s1.assoc s
    refine ⟨v1, m1, G, e1, q1, g2, fun x m' M2 F' f r s' => ?_⟩
    obtain ⟨Z, z1, z2⟩ := g1.assoc s'
    exact ⟨v, m, Z, e, Ty.mono _ q f, z2, k1 x m' Z F' f r z1⟩

def bestT (X : Cx) (e : Expr) : TT := fun σ H Q => ∃ t, PT X e t ∧ t σ H Q
def Want {A O : Type} (r : Option (Except Exn A × O)) (N : A → O → Prop) (E : Exn → O → Prop) : Prop := match r with
  | none => False
  | some (.ok x, o) => N x o
  | some (.error e, o) => E e o
theorem Want.ok {A O : Type} {N : A → O → Prop} {E : Exn → O → Prop} {x : A} {o : O} (h : N x o) : Want (some (.ok x, o)) N E := h
theorem Want.bind {A B O : Type} {m : SM O A} {k : A → SM O B} {o : O} {N : B → O → Prop} {E : Exn → O → Prop} (h : Want (SM.bind m k o) N E) : Want (m o) (fun x o' => Want (k x o') N E) E := by
  unfold SM.bind at h
  cases e : m o with
  | none => rw [e] at h; exact h
  | some r =>
    obtain ⟨r, o'⟩ := r
    rw [e] at h
    cases r with
    | ok x => exact h
    | error x => exact h
theorem Want.imp {A O : Type} {r : Option (Except Exn A × O)} {N N' : A → O → Prop} {E E' : Exn → O → Prop} (h : Want r N E) (hn : ∀ x o, N x o → N' x o) (he : ∀ x o, E x o → E' x o) : Want r N' E' := by
  cases r with
  | none => exact h
  | some r =>
    obtain ⟨r, o'⟩ := r
    cases r with
    | ok x => exact hn _ _ h
    | error x => exact he _ _ h

def NormE (os : Os) (t : Ty) (σ : L2.St) (F R : Hp) (Q : VK) (x : t.A) (o : OT os) : Prop :=
  ∀ v F' M1 m M' H', Sub F F' → OwnOk os o σ F' M1 R → Sep m M1 M' → Good F' M' H' → t.rep x v F' m → Q v H'
def ExcE (X : Cx) (os : Os) (σ : L2.St) (F R : Hp) (W : WX) (ex : Exn) (o : OT os) : Prop :=
  ∀ cls d F' M' H', Sub F F' → OwnOk os o σ F' M' R → Good F' M' H' → ExnOk X.mg ex cls d F' → W cls d σ H'
theorem ExcE.mono {X : Cx} {os : Os} {σ : L2.St} {F F' R : Hp} {W : WX} {ex : Exn} {o : OT os} (h : ExcE X os σ F R W ex o) (s : Sub F F') : ExcE X os σ F' R W ex o := fun cls d F2 M' H' f => h cls d F2 M' H' (s.trans f)
def NormT (os : Os) (σ : L2.St) (F R : Hp) (Q : Bool → Hp → Prop) (b : Bool) (o : OT os) : Prop :=
  ∀ F' M' H', Sub F F' → OwnOk os o σ F' M' R → Good F' M' H' → Q b H'
def RT (X : Cx) (Γ : Ctx) (os : Os) (e : Expr) (m : SM (OT os) Bool) : Prop :=
  ∀ (σ : L2.St) (F M R H : Hp) (o : OT os) (W : WX) (Q : Bool → Hp → Prop), Takes X W → CtxOk Γ σ F → OwnOk os o σ F M R → Good F M H →
    Want (m o) (NormT os σ F R Q) (ExcE X os σ F R W) → bestT X e σ H Q
@[reducible] def AT : List Ty → Type
  | [] => Unit
  | t :: r => t.A × AT r
def ArgsOk : (ts : List Ty) → AT ts → List V → Hp → Prop
  | [], _, vs, _ => vs = []
  | t :: r, x, vs, F => ∃ v us, vs = v :: us ∧ t.rep x.1 v F emp ∧ ArgsOk r x.2 us F
theorem ArgsOk.mono : ∀ {ts : List Ty} {x : AT ts} {vs : List V} {F F' : Hp}, ArgsOk ts x vs F → Sub F F' → ArgsOk ts x vs F'
  | [], _, _, _, _, h, _ => h
  | _ :: _, _, _, _, _, ⟨v, us, e, r, k⟩, s => ⟨v, us, e, Ty.mono _ r s, k.mono s⟩
theorem ArgsOk.length : ∀ {ts : List Ty} {x : AT ts} {vs : List V} {F : Hp}, ArgsOk ts x vs F → vs.length = ts.length
  | [], _, vs, _, h => by have h' : vs = [] := h; rw [h'] <;> rfl
  | _ :: _, _, _, _, ⟨v, us, e, r, k⟩ => by rw [e, List.length_cons, List.length_cons, k.length]
end Mi

namespace Mi
open PySem PySem.Spec PyProof.Rows L2

def visK : NameKind → Bool
  | .local => true | .cell => true | .free => true | _ => false
def locK : NameKind → Bool
  | .local => true | .cell => true | _ => false
structure XOk (X : Cx) (N : List Str) (sc : Scope) (B : List Str) (k : Nat) : Prop where
  nN : X.N = N
  db : ∀ (j : Nat) (x : Str) (kd : NameKind), sc.names[j]? = some (x, kd) → (x == ("__debug__" : Str)) = false ∧ (x == ("__classdict__" : Str)) = false ∧ x ≠ "__name__"
  vs : ∀ (j : Nat) (x : Str) (kd : NameKind), sc.names[j]? = some (x, kd) → visK kd = true → Vis X.env.scope x
  gl : ∀ (j : Nat) (x : Str), sc.names[j]? = some (x, .globalImplicit) → Gl X x
  lc : ∀ (j : Nat) (x : Str) (kd : NameKind), sc.names[j]? = some (x, kd) → locK kd = true → Loc X.env.scope x ∧ (X.fn x = true ∨ X.env.scope.names.lookup x = some .local)
  ce : ∀ (j : Nat) (x : Str) (kd : NameKind), sc.names[j]? = some (x, kd) → kd = .cell ∨ kd = .free → X.env.scope.names.lookup x = some .cell ∨ X.env.scope.names.lookup x = some .free
  lo : ∀ (j : Nat) (x : Str) (kd : NameKind), sc.names[j]? = some (x, kd) → kd ≠ .free → X.env.scope.names.lookup x = some kd
  bk : X.env.scope.kind = .function
  nd : X.N.Nodup
  fr : ∀ (i : Nat) (x : Str), B[i]? = some x → X.mg x = none
  room : Room k X.A
  calm : X.calm = true

section
variable {X : Cx} {N : List Str} {sc : Scope} {B : List Str} {k : Nat} {Γ : Ctx} {os : Os} {pos p p2 apos : Pos}

def Cv (t u : Ty) (f : t.A → u.A) : Prop := ∀ {x v F m}, t.rep x v F m → u.rep (f x) v F m
def SM.map {O A B : Type} (f : A → B) (m : SM O A) : SM O B := SM.bind m fun x => SM.ret (f x)
variable {a b e : Expr}
theorem sOf_inj {l k : List Nat} (h : sOf l = sOf k) : l = k := by
  have e : l.toArray = k.toArray := Str.mk.inj h
  simpa using e
def bestW (X : Cx) (e : Expr) : TT := fun σ H Q => ∃ t, PW X e t ∧ t σ H Q
theorem pw_best (X : Cx) (e : Expr) : PW X e (bestW X e) := ⟨fun wh pins s σ H Q I ⟨_, p, h⟩ => p.run wh pins s σ H Q I h⟩
def RW (X : Cx) (Γ : Ctx) (os : Os) (e : Expr) (m : SM (OT os) Bool) : Prop :=
  ∀ (σ : L2.St) (F M R H : Hp) (o : OT os) (W : WX) (Q : Bool → Hp → Prop), Takes X W → CtxOk Γ σ F → OwnOk os o σ F M R → Good F M H →
    Want (m o) (NormT os σ F R Q) (ExcE X os σ F R W) → bestW X e σ H Q
theorem RW.rt {m : SM (OT os) Bool} (h : RW X Γ os e m) : RT X Γ os e m := fun σ F M R H o W Q tk c w g q => ⟨_, (pw_best X e).pt, h σ F M R H o W Q tk c w g q⟩
variable {rest : List Expr}
theorem NormE.mono {t : Ty} {σ : L2.St} {F F' R : Hp} {Q : VK} {x : t.A} {o : OT os} (h : NormE os t σ F R Q x o) (s : Sub F F') : NormE os t σ F' R Q x o := fun v F2 M1 mm M2 H2 s2 => h v F2 M1 mm M2 H2 (s.trans s2)
end
end Mi

namespace Mi
open PySem PySem.Spec PyProof.Rows L2

structure FX where
  kp : List Nat
  ps : Os
  tr : Ty
structure LC where
  B : Type
  G : B → Ctx
  os : Os
def LC.none : LC := ⟨Empty, fun _ => [], []⟩
inductive Out (N L T P : Type) where
  | nxt (n : N)
  | brk (l : L)
  | cnt (l : L)
  | ret (x : T) (p : P)
  | exc (e : Exn) (p : P)
def Keep (kp : List Nat) (σ σ' : L2.St) : Prop := σ'.length = σ.length ∧ ∀ i ∈ kp, σ'[i]? = σ[i]?
theorem Keep.refl {kp : List Nat} {σ : L2.St} : Keep kp σ σ := ⟨rfl, fun _ _ => rfl⟩
theorem Keep.trans {kp : List Nat} {a b c : L2.St} (h : Keep kp a b) (k : Keep kp b c) : Keep kp a c := ⟨k.1.trans h.1, fun i hi => (k.2 i hi).trans (h.2 i hi)⟩
inductive OSub : Os → Os → Type 1
  | nil : OSub [] []
  | keep {p : Nat × Ty} {a b : Os} : OSub a b → OSub (p :: a) (p :: b)
  | skip {p : Nat × Ty} {a b : Os} : OSub a b → OSub (p :: a) b
def OSub.map : {a b : Os} → OSub a b → OT a → OT b
  | _, _, .nil, o => o
  | _, _, .keep h, o => (o.1, h.map o.2)
  | _, _, .skip h, o => h.map o.2
theorem OSub.own : ∀ {a b : Os} (h : OSub a b) {o : OT a} {σ : L2.St} {F M R : Hp}, OwnOk a o σ F M R → ∃ M0, Sub M0 M ∧ OwnOk b (h.map o) σ F M0 R
  | _, _, .nil, _, _, _, M, _, h => ⟨M, .refl _, h⟩
  | _, _, .keep k, o, σ, F, M, R, ⟨v, m, M', e, q, s, w⟩ => by
    obtain ⟨M0, s0, w0⟩ := k.own w
    refine ⟨uni m M0, fun a u h => ?_, v, m, M0, e, q, ⟨fun p => ?_, rfl⟩, w0⟩
    · cases z : m a with
      | some y => rw [uni_l z] at h; exact s.l a u (by rw [z]; exact h)
      | none => rw [uni_r z] at h; exact s.r a u (s0 a u h)
    · rcases s.dis p with z | z
      · exact .inl z
      · exact .inr (s0.none z)
  | _, _, .skip k, o, σ, F, M, R, ⟨v, m, M', e, q, s, w⟩ => by
    obtain ⟨M0, s0, w0⟩ := k.own w
    exact ⟨M0, s0.trans s.r, w0⟩
def OSub.all : (a : Os) → OSub a a
  | [] => .nil
  | _ :: r => .keep (OSub.all r)

section
variable {X : Cx} {G : FX} {L : LC} {β : Type} {Γn : β → Ctx} {osn : Os}
abbrev OutT (G : FX) (L : LC) (β : Type) (osn : Os) : Type := Option (Out (β × OT osn) (L.B × OT L.os) G.tr.A (OT G.ps))
def NxtS (G : FX) (Γn : β → Ctx) (osn : Os) (σ : L2.St) (F R : Hp) (K : L2.St → Hp → Prop) (n : β × OT osn) : Prop :=
  ∀ σ' F' M' H', Sub F F' → Keep G.kp σ σ' → CtxOk (Γn n.1) σ' F' → OwnOk osn n.2 σ' F' M' R → Good F' M' H' → K σ' H'
def RetS (G : FX) (σ : L2.St) (F R : Hp) (K : VK) (x : G.tr.A) (p : OT G.ps) : Prop :=
  ∀ v σ' F' M1 mm M' H', Sub F F' → Keep G.kp σ σ' → OwnOk G.ps p σ' F' M1 R → Sep mm M1 M' → Good F' M' H' → G.tr.rep x v F' mm → K v H'
def ExcS (X : Cx) (G : FX) (σ : L2.St) (F R : Hp) (W : WX) (e : Exn) (p : OT G.ps) : Prop :=
  ∀ cls d σ' F' M' H', Sub F F' → Keep G.kp σ σ' → OwnOk G.ps p σ' F' M' R → Good F' M' H' → ExnOk X.mg e cls d F' → W cls d σ' H'
def WantS (X : Cx) (G : FX) (L : LC) (Γn : β → Ctx) (osn : Os) (σ : L2.St) (F R : Hp) (W : WX) (D : Ends) (r : OutT G L β osn) : Prop := match r with
  | none => False
  | some (.nxt n) => NxtS G Γn osn σ F R D.nx n
  | some (.brk l) => NxtS G L.G L.os σ F R D.bk l
  | some (.cnt l) => NxtS G L.G L.os σ F R D.ct l
  | some (.ret x p) => RetS G σ F R D.rt x p
  | some (.exc e p) => ExcS X G σ F R W e p
theorem NxtS.mono {σ σ1 : L2.St} {F F1 R : Hp} {K : L2.St → Hp → Prop} {n : β × OT osn} (h : NxtS G Γn osn σ F R K n) (s : Sub F F1) (k : Keep G.kp σ σ1) : NxtS G Γn osn σ1 F1 R K n :=
  fun σ' F' M' H' s' k' => h σ' F' M' H' (s.trans s') (k.trans k')
theorem WantS.mono {σ σ1 : L2.St} {F F1 R : Hp} {W : WX} {D : Ends} {r : OutT G L β osn} (h : WantS X G L Γn osn σ F R W D r) (s : Sub F F1) (k : Keep G.kp σ σ1) : WantS X G L Γn osn σ1 F1 R W D r := by
  cases r with
  | none => exact h
  | some r =>
    cases r with
    | nxt n => exact NxtS.mono h s k
    | brk n => exact NxtS.mono h s k
    | cnt n => exact NxtS.mono h s k
    | ret x p => exact fun v σ' F' M1 mm M' H' s' k' => h v σ' F' M1 mm M' H' (s.trans s') (k.trans k')
    | exc e p => exact fun cls d σ' F' M' H' s' k' => h cls d σ' F' M' H' (s.trans s') (k.trans k')
variable {Γ : Ctx} {os : Os} {st : Stmt} {rest : List Stmt} {pos p p2 : Pos} {e : Expr} {t : Ty} {N : List Str} {sc : Scope} {B : List Str} {k : Nat}
def Out.bind {β γ : Type} {G : FX} {L : LC} {om on : Os} (r : OutT G L β om) (k : β → OT om → OutT G L γ on) : OutT G L γ on := match r with
  | none => none
  | some (.nxt n) => k n.1 n.2
  | some (.brk l) => some (.brk l)
  | some (.cnt l) => some (.cnt l)
  | some (.ret x p) => some (.ret x p)
  | some (.exc e p) => some (.exc e p)
def noSlot (i : Nat) (os : Os) : Bool := os.all fun p => p.1 != i
theorem noSlot_ne {i : Nat} {os : Os} (h : noSlot i os = true) : ∀ p ∈ os, p.1 ≠ i := fun p hp => by
  have z := List.all_eq_true.mp h p hp
  simpa using z
theorem OwnOk.set {o : OT os} {σ : L2.St} {F M R : Hp} {i : Nat} {v : Option V} (w : OwnOk os o σ F M R) (h : noSlot i os = true) : OwnOk os o (σ.set i v) F M R :=
  w.slots fun p hp => List.getElem?_set_ne (Ne.symm (noSlot_ne h p hp))
end
end Mi

namespace Mi
open PySem PySem.Spec PyProof.Rows L2

def AllR (t : Ty) : List t.A → List V → Hp → Prop
  | [], vs, _ => vs = []
  | x :: xs, vs, F => ∃ v r, vs = v :: r ∧ t.rep x v F emp ∧ AllR t xs r F
theorem AllR.mono {t : Ty} : ∀ {xs : List t.A} {vs : List V} {F F' : Hp}, AllR t xs vs F → Sub F F' → AllR t xs vs F'
  | [], _, _, _, h, _ => h
  | _ :: _, _, _, _, ⟨v, r, e, q, k⟩, s => ⟨v, r, e, t.mono q s, k.mono s⟩
theorem AllR.length {t : Ty} : ∀ {xs : List t.A} {vs : List V} {F : Hp}, AllR t xs vs F → vs.length = xs.length
  | [], vs, _, h => by have h' : vs = [] := h; rw [h'] <;> rfl
  | _ :: _, _, _, ⟨v, r, e, q, k⟩ => by rw [e, List.length_cons, List.length_cons, k.length]
theorem AllR.get {t : Ty} : ∀ {xs : List t.A} {vs : List V} {F : Hp} {i : Nat} {x : t.A}, AllR t xs vs F → xs[i]? = some x → ∃ v, vs[i]? = some v ∧ t.rep x v F emp
  | [], _, _, _, _, _, e => by simp at e
  | y :: xs, _, _, 0, x, ⟨v, r, e, q, k⟩, h => by subst e; simp at h; subst h; exact ⟨v, rfl, q⟩
  | y :: xs, _, _, i + 1, x, ⟨v, r, e, q, k⟩, h => by
    subst e
    obtain ⟨w, e1, e2⟩ := k.get (i := i) (x := x) (by simpa using h)
    exact ⟨w, by simpa using e1, e2⟩
theorem AllR.set {t : Ty} : ∀ {xs : List t.A} {vs : List V} {F : Hp} (n : Nat) {x : t.A} {v : V}, AllR t xs vs F → t.rep x v F emp → AllR t (xs.set n x) (vs.set n v) F
  | [], vs, _, n, _, _, h, _ => by have h' : vs = [] := h; subst h'; exact rfl
  | _ :: _, _, _, 0, x, v, ⟨w, r, e, q, k⟩, h => by subst e; exact ⟨v, _, rfl, h, k⟩
  | _ :: _, _, _, n + 1, x, v, ⟨w, r, e, q, k⟩, h => by subst e; exact ⟨w, _, rfl, q, k.set n h⟩
end Mi

namespace Mi
open PySem PySem.Spec PyProof.Rows L2
inductive OSel : Os → Nat → Ty → Os → Type 1
  | here {i : Nat} {t : Ty} {r : Os} : OSel ((i, t) :: r) i t r
  | there {p : Nat × Ty} {i : Nat} {t : Ty} {r r' : Os} : OSel r i t r' → OSel (p :: r) i t (p :: r')
def OSel.get : {os os' : Os} → {i : Nat} → {t : Ty} → OSel os i t os' → OT os → t.A
  | _, _, _, _, .here, o => o.1
  | _, _, _, _, .there h, o => h.get o.2
def OSel.rest : {os os' : Os} → {i : Nat} → {t : Ty} → OSel os i t os' → OT os → OT os'
  | _, _, _, _, .here, o => o.2
  | _, _, _, _, .there h, o => (o.1, h.rest o.2)
theorem OSel.own : ∀ {os os' : Os} {i : Nat} {t : Ty} (h : OSel os i t os') {o : OT os} {σ : L2.St} {F M R : Hp}, OwnOk os o σ F M R →
    ∃ v m M', σ[i]? = some (some v) ∧ t.rep (h.get o) v F m ∧ Sep m M' M ∧ OwnOk os' (h.rest o) σ F M' R
  | _, _, _, _, .here, _, _, _, _, _, ⟨v, m, M', e, r, s, k⟩ => ⟨v, m, M', e, r, s, k⟩
  | _, _, _, _, .there h, o, σ, F, M, R, ⟨v, m, M', e, r, s, k⟩ => by
    obtain ⟨v1, m1, M1, e1, r1, s1, k1⟩ := h.own k
    obtain ⟨G, g1, g2⟩ := s1.assoc s
    exact ⟨v1, m1, G, e1, r1, g2, v, m, M1, e, r, g1, k1⟩
section
variable {X : Cx} {N : List Str} {sc : Scope} {B : List Str} {k : Nat} {Γ : Ctx} {os os' : Os} {pos p p1 p2 p3 cpos apos : Pos} {e a b : Expr} {es : List Expr} {t u : Ty}
def KvR (t : Ty) : List (List Nat × t.A) → List (Key × V) → Hp → Prop
  | [], kvs, _ => kvs = []
  | y :: r, kvs, F => ∃ v l, kvs = (.inr (sOf y.1), v) :: l ∧ t.rep y.2 v F emp ∧ KvR t r l F
theorem KvR.mono {t : Ty} : ∀ {xs : List (List Nat × t.A)} {kvs : List (Key × V)} {F F' : Hp}, KvR t xs kvs F → Sub F F' → KvR t xs kvs F'
  | [], _, _, _, h, _ => h
  | _ :: _, _, _, _, ⟨v, l, e, q, k⟩, s => ⟨v, l, e, t.mono q s, k.mono s⟩
theorem KvR.length {t : Ty} : ∀ {xs : List (List Nat × t.A)} {kvs : List (Key × V)} {F : Hp}, KvR t xs kvs F → kvs.length = xs.length
  | [], kvs, _, h => by have h' : kvs = [] := h; rw [h'] <;> rfl
  | _ :: _, _, _, ⟨v, l, e, q, k⟩ => by rw [e, List.length_cons, List.length_cons, k.length]
theorem KvR.keys {t : Ty} : ∀ {xs : List (List Nat × t.A)} {kvs : List (Key × V)} {F : Hp}, KvR t xs kvs F → kvs.map (·.1) = xs.map fun y => Sum.inr (sOf y.1)
  | [], kvs, _, h => by have h' : kvs = [] := h; rw [h'] <;> rfl
  | _ :: _, _, _, ⟨v, l, e, q, k⟩ => by rw [e, List.map_cons, List.map_cons, k.keys]
theorem KvR.at {t : Ty} : ∀ {xs : List (List Nat × t.A)} {kvs : List (Key × V)} {F : Hp} {i : Nat} {y : List Nat × t.A}, KvR t xs kvs F → xs[i]? = some y → ∃ v, kvs[i]? = some (.inr (sOf y.1), v) ∧ t.rep y.2 v F emp
  | [], _, _, _, _, _, e => by simp at e
  | z :: xs, _, _, 0, y, ⟨v, r, e, q, k⟩, h => by subst e; simp at h; subst h; exact ⟨v, rfl, q⟩
  | z :: xs, _, _, i + 1, y, ⟨v, r, e, q, k⟩, h => by
    subst e
    obtain ⟨w, e1, e2⟩ := k.at (i := i) (y := y) (by simpa using h)
    exact ⟨w, by simpa using e1, e2⟩
def dget {A : Type} (k : List Nat) : List (List Nat × A) → Option A
  | [] => none
  | y :: r => if y.1 = k then some y.2 else dget k r
theorem key_eq {k l : List Nat} : ((Sum.inr (sOf k) : Key) = Sum.inr (sOf l)) ↔ k = l := ⟨fun h => sOf_inj (Sum.inr.inj h), fun h => by rw [h]⟩
theorem KvR.val {t : Ty} {k : List Nat} : ∀ {xs : List (List Nat × t.A)} {kvs : List (Key × V)} {F : Hp}, KvR t xs kvs F →
    match dget k xs with
    | some x => ∃ v, valV kvs (.inr (sOf k)) = some v ∧ t.rep x v F emp
    | none => valV kvs (.inr (sOf k)) = none
  | [], kvs, _, h => by have h' : kvs = [] := h; subst h'; exact valV_nil
  | y :: r, _, F, ⟨v, l, e, q, k'⟩ => by
    subst e
    unfold dget
    by_cases hk : y.1 = k
    · rw [if_pos hk]
      exact ⟨v, valV_pos (p := ((.inr (sOf y.1) : Key), v)) (by rw [hk]), q⟩
    · rw [if_neg hk]
      have e2 : valV (((.inr (sOf y.1) : Key), v) :: l) (.inr (sOf k)) = valV l (.inr (sOf k)) := valV_neg (p := ((.inr (sOf y.1) : Key), v)) (fun h => hk (key_eq.mp h))
      have ih := KvR.val (k := k) k'
      cases hd : dget k r with
      | none => rw [hd] at ih; exact e2.trans ih
      | some x => rw [hd] at ih; obtain ⟨w, w1, w2⟩ := ih; exact ⟨w, e2.trans w1, w2⟩
end
end Mi

namespace Mi
open PySem PySem.Spec PyProof.Rows L2
def ArgsM : (ts : List Ty) → AT ts → List V → Hp → Hp → Prop
  | [], _, vs, _, m => vs = [] ∧ m = emp
  | t :: r, x, vs, F, m => ∃ v us m1 m2, vs = v :: us ∧ t.rep x.1 v F m1 ∧ ArgsM r x.2 us F m2 ∧ Sep m1 m2 m
theorem ArgsM.mono : ∀ {ts : List Ty} {x : AT ts} {vs : List V} {F F' m : Hp}, ArgsM ts x vs F m → Sub F F' → ArgsM ts x vs F' m
  | [], _, _, _, _, _, h, _ => h
  | _ :: _, _, _, _, _, _, ⟨v, us, m1, m2, e, r, k, s⟩, h => ⟨v, us, m1, m2, e, Ty.mono _ r h, k.mono h, s⟩
theorem ArgsM.length : ∀ {ts : List Ty} {x : AT ts} {vs : List V} {F m : Hp}, ArgsM ts x vs F m → vs.length = ts.length
  | [], _, vs, _, _, h => by rw [h.1] <;> rfl
  | _ :: _, _, _, _, _, ⟨v, us, m1, m2, e, r, k, s⟩ => by rw [e, List.length_cons, List.length_cons, k.length]
section
variable {X : Cx} {N : List Str} {sc : Scope} {B : List Str} {k : Nat} {Γ : Ctx} {os os' : Os} {pos p p1 p2 p3 cpos apos : Pos} {e a b : Expr} {es : List Expr} {t u : Ty}
inductive PutI : List Nat → List Ty → Os → Os → Type 1
  | nil {os : Os} : PutI [] [] os os
  | imm {is : List Nat} {ts : List Ty} {os os' : Os} (i : Nat) {t : Ty} (it : Imm t) (p : PutI is ts os os') : PutI (i :: is) (t :: ts) os os'
  | own {is : List Nat} {ts : List Ty} {os os' : Os} (i : Nat) {t : Ty} (p : PutI is ts ((i, t) :: os) os') : PutI (i :: is) (t :: ts) os os'
def PutI.ctx : {is : List Nat} → {ts : List Ty} → {os os' : Os} → PutI is ts os os' → AT ts → Ctx → Ctx
  | _, _, _, _, .nil, _, Γ => Γ
  | _, _, _, _, .imm (t := t) i _ p, x, Γ => p.ctx x.2 (Γ.set i (some ⟨t, x.1⟩))
  | _, _, _, _, .own i p, x, Γ => p.ctx x.2 (Γ.set i none)
def PutI.ow : {is : List Nat} → {ts : List Ty} → {os os' : Os} → PutI is ts os os' → AT ts → OT os → OT os'
  | _, _, _, _, .nil, _, o => o
  | _, _, _, _, .imm _ _ p, x, o => p.ow x.2 o
  | _, _, _, _, .own _ p, x, o => p.ow x.2 (x.1, o)
def PutI.okB : {is : List Nat} → {ts : List Ty} → {os os' : Os} → PutI is ts os os' → Nat → Bool
  | _, _, _, _, .nil, _ => true
  | _, _, os, _, .imm i _ p, n => noSlot i os && p.okB n
  | _, _, os, _, .own i p, n => noSlot i os && (Nat.ble (i + 1) n && p.okB n)
def setσ : List Nat → List V → L2.St → L2.St
  | i :: is, v :: vs, σ => setσ is vs (σ.set i (some v))
  | _, _, σ => σ
theorem PutI.ok : ∀ {is : List Nat} {ts : List Ty} {os os' : Os} (p : PutI is ts os os') {x : AT ts} {vs : List V} {Γ : Ctx} {σ : L2.St} {o : OT os} {F M1 M' R m : Hp}, p.okB Γ.length = true → ArgsM ts x vs F m → CtxOk Γ σ F → OwnOk os o σ F M1 R → Sep m M1 M' →
    CtxOk (p.ctx x Γ) (setσ is vs σ) F ∧ OwnOk os' (p.ow x o) (setσ is vs σ) F M' R
  | _, _, _, _, .nil, _, vs, Γ, σ, o, F, M1, M', R, m, _, ⟨e, em⟩, c, w, s => by
    subst e em
    have e2 := s.emp_l
    subst e2
    exact ⟨c, w⟩
  | _, _, os, _, .imm (t := t) i it p, x, _, Γ, σ, o, F, M1, M', R, m, hb, ⟨v, us, m1, m2, e, r, k, s1⟩, c, w, s => by
    subst e
    have e1 := it r
    subst e1
    have e2 := s1.emp_l
    subst e2
    have hb' : (noSlot i os && p.okB Γ.length) = true := hb
    rw [Bool.and_eq_true] at hb'
    have z := p.ok (x := x.2) (Γ := Γ.set i (some ⟨t, x.1⟩)) (by rw [List.length_set]; exact hb'.2) k (c.set r) (w.set hb'.1) s
    exact z
  | _, _, os, _, .own (t := t) i p, x, _, Γ, σ, o, F, M1, M', R, m, hb, ⟨v, us, m1, m2, e, r, k, s1⟩, c, w, s => by
    subst e
    have hb' : (noSlot i os && (Nat.ble (i + 1) Γ.length && p.okB Γ.length)) = true := hb
    rw [Bool.and_eq_true, Bool.and_eq_true] at hb'
    obtain ⟨b1, b2, b3⟩ := hb'
    obtain ⟨G, g1, g2⟩ := s1.comm.assoc s.comm
    have w2 : OwnOk ((i, t) :: os) (x.1, o) (σ.set i (some v)) F G R := ⟨v, m1, M1, List.getElem?_set_self (by rw [← c.1]; exact Nat.le_of_ble_eq_true b2), r, g1.comm, w.set b1⟩
    exact p.ok (x := x.2) (Γ := Γ.set i none) (by rw [List.length_set]; exact b3) k c.out w2 g2
variable {G : FX} {L : LC} {β : Type} {Γn : β → Ctx} {osn : Os} {rest : List Stmt}
end
end Mi

namespace Mi
open PySem PySem.Spec PyProof.Rows L2
def RecR : (fs : List (List Nat × Ty)) → AT (fs.map (·.2)) → List (Key × V) → Hp → Prop
  | [], _, kvs, _ => kvs = []
  | f :: r, x, kvs, F => ∃ v l, kvs = (.inr (sOf f.1), v) :: l ∧ f.2.rep x.1 v F emp ∧ RecR r x.2 l F
theorem RecR.mono : ∀ {fs : List (List Nat × Ty)} {x : AT (fs.map (·.2))} {kvs : List (Key × V)} {F F' : Hp}, RecR fs x kvs F → Sub F F' → RecR fs x kvs F'
  | [], _, _, _, _, h, _ => h
  | f :: _, _, _, _, _, ⟨v, l, e, q, k⟩, s => ⟨v, l, e, f.2.mono q s, k.mono s⟩
inductive RFld : List (List Nat × Ty) → List Nat → Ty → Type 1
  | here {n : List Nat} {t : Ty} {r : List (List Nat × Ty)} : RFld ((n, t) :: r) n t
  | there {f : List Nat × Ty} {n : List Nat} {t : Ty} {r : List (List Nat × Ty)} (p : RFld r n t) : RFld (f :: r) n t
def RFld.get : {fs : List (List Nat × Ty)} → {n : List Nat} → {t : Ty} → RFld fs n t → AT (fs.map (·.2)) → t.A
  | _, _, _, .here, x => x.1
  | _, _, _, .there p, x => p.get x.2
def RFld.okB : {fs : List (List Nat × Ty)} → {n : List Nat} → {t : Ty} → RFld fs n t → Bool
  | _, _, _, .here => true
  | _, n, _, .there (f := f) p => decide (f.1 ≠ n) && p.okB
theorem RFld.val : ∀ {fs : List (List Nat × Ty)} {n : List Nat} {t : Ty} (p : RFld fs n t) {x : AT (fs.map (·.2))} {kvs : List (Key × V)} {F : Hp}, p.okB = true → RecR fs x kvs F → ∃ v, valV kvs (.inr (sOf n)) = some v ∧ t.rep (p.get x) v F emp
  | _, n, _, .here, _, _, _, _, ⟨v, l, e, q, k⟩ => by
    subst e
    exact ⟨v, valV_pos (p := ((.inr (sOf n) : Key), v)) rfl, q⟩
  | _, n, _, .there (f := f) p, _, _, _, hb, ⟨v, l, e, q, k⟩ => by
    subst e
    have hb' : (decide (f.1 ≠ n) && p.okB) = true := hb
    rw [Bool.and_eq_true, decide_eq_true_eq] at hb'
    obtain ⟨w, w1, w2⟩ := p.val hb'.2 k
    exact ⟨w, (valV_neg (p := ((.inr (sOf f.1) : Key), v)) fun h => hb'.1 (key_eq.mp h)).trans w1, w2⟩
section
variable {X : Cx} {N : List Str} {sc : Scope} {B : List Str} {k : Nat} {Γ : Ctx} {os os' : Os} {pos p p1 p2 p3 cpos apos : Pos} {e a b : Expr} {es : List Expr} {t u : Ty}
theorem RecR.keys : ∀ {fs : List (List Nat × Ty)} {x : AT (fs.map (·.2))} {kvs : List (Key × V)} {F : Hp}, RecR fs x kvs F → kvs.map (·.1) = fs.map fun f => Sum.inr (sOf f.1)
  | [], _, kvs, _, h => by have h' : kvs = [] := h; rw [h'] <;> rfl
  | f :: _, _, _, _, ⟨v, l, e, q, k⟩ => by rw [e, List.map_cons, List.map_cons, k.keys]
theorem RecR.len : ∀ {fs : List (List Nat × Ty)} {x : AT (fs.map (·.2))} {kvs : List (Key × V)} {F : Hp}, RecR fs x kvs F → kvs.length = fs.length := fun h => by
  have z := congrArg List.length h.keys
  rw [List.length_map, List.length_map] at z
  exact z
end
end Mi

namespace Mi
open PySem PySem.Spec PyProof.Rows L2
abbrev Flds : Type 1 := List (Str × Ty)
def InsR : (fs : Flds) → AT (fs.map (·.2)) → List (Str × V) → Hp → Prop
  | [], _, ws, _ => ws = []
  | f :: r, x, ws, F => ∃ w l, ws = (f.1, w) :: l ∧ f.2.rep x.1 w F emp ∧ InsR r x.2 l F
theorem InsR.mono : ∀ {fs : Flds} {x : AT (fs.map (·.2))} {ws : List (Str × V)} {F F' : Hp}, InsR fs x ws F → Sub F F' → InsR fs x ws F'
  | [], _, _, _, _, h, _ => h
  | f :: _, _, _, _, _, ⟨w, l, e, q, k⟩, s => ⟨w, l, e, f.2.mono q s, k.mono s⟩
theorem InsR.keys : ∀ {fs : Flds} {x : AT (fs.map (·.2))} {ws : List (Str × V)} {F : Hp}, InsR fs x ws F → ws.map (·.1) = fs.map (·.1)
  | [], _, ws, _, h => by have h' : ws = [] := h; rw [h'] <;> rfl
  | _ :: _, _, _, _, ⟨w, l, e, q, k⟩ => by rw [e, List.map_cons, List.map_cons, k.keys]
inductive IFld : Flds → Str → Ty → Type 1
  | here {n : Str} {t : Ty} {r : Flds} : IFld ((n, t) :: r) n t
  | there {f : Str × Ty} {n : Str} {t : Ty} {r : Flds} (p : IFld r n t) : IFld (f :: r) n t
def IFld.get : {fs : Flds} → {n : Str} → {t : Ty} → IFld fs n t → AT (fs.map (·.2)) → t.A
  | _, _, _, .here, x => x.1
  | _, _, _, .there p, x => p.get x.2
def IFld.okB : {fs : Flds} → {n : Str} → {t : Ty} → IFld fs n t → Bool
  | _, _, _, .here => true
  | _, n, _, .there (f := f) p => decide (f.1 ≠ n) && p.okB
theorem IFld.val : ∀ {fs : Flds} {n : Str} {t : Ty} (p : IFld fs n t) {x : AT (fs.map (·.2))} {ws : List (Str × V)} {F : Hp}, p.okB = true → InsR fs x ws F → ∃ v, ws.lookup n = some v ∧ t.rep (p.get x) v F emp
  | _, n, _, .here, _, _, _, _, ⟨v, l, e, q, k⟩ => by
    subst e
    exact ⟨v, by rw [List.lookup_cons_self], q⟩
  | _, n, _, .there (f := f) p, _, _, _, hb, ⟨v, l, e, q, k⟩ => by
    subst e
    have hb' : (decide (f.1 ≠ n) && p.okB) = true := hb
    rw [Bool.and_eq_true, decide_eq_true_eq] at hb'
    obtain ⟨w, w1, w2⟩ := p.val hb'.2 k
    refine ⟨w, ?_, w2⟩
    have hn : (n == f.1) = false := by rw [beq_eq_false_iff_ne]; exact fun e => hb'.1 e.symm
    rw [List.lookup_cons, hn]
    exact w1
end Mi

namespace Mi
open PySem PySem.Spec PyProof.Rows L2
def clsBody : Stmt → Nat → Stmt
  | .ClassDef _ _ _ body _ _ _ _ _ _ _, j => body.getD j (.Pass ⟨0, 0, 0, 0⟩)
  | s, _ => s
end Mi

namespace Mi
open PySem PySem.Spec PyProof.Rows L2
def fnWA (K : PySem.W.Frag) (a : Addr) : He.FnW := (K.lookup a).bind fun o => match o.data with
  | .func fd => some (fd.name, fd.qualname, fd.params, fd.body, fd.scope, fd.globals, fd.closure, fd.builtins)
  | _ => none
def okA (K : PySem.W.Frag) (a : Addr) (d : He.DefD) : Bool := PySem.W.keepIn K (.ref a) && ((K.lookup a).any fun o => match o.data with
  | .func fd => PySem.W.codeIn K fd.code d.qual && (He.dflB K fd.defaults (d.dvs K) && He.kwdB K fd.kwdefaults (d.kws K))
  | _ => false)
def pAd (K : PySem.W.Frag) (C f : Str) : Addr := match PySem.W.findIn K (.ref (He.ga K C)) f with
  | some (some (.ref p)) => p
  | _ => 0
def gAd (K : PySem.W.Frag) (C f : Str) : Addr := match PySem.W.recIn K (pAd K C f) "property" with
  | some (.ref g :: _) => g
  | _ => 0
def prB (K : PySem.W.Frag) (C f : Str) : Bool := He.eqO (PySem.W.findIn K (.ref (He.ga K C)) f) (some (some (.ref (pAd K C f)))) && He.eqO (PySem.W.specialIn K (.ref (pAd K C f)) "__get__") (some (some (.builtin "property.__get__"))) &&
  decide (PySem.W.takesIn K (.ref (pAd K C f)) = some true) && (match PySem.W.recIn K (pAd K C f) "property" with
  | some (.ref _ :: _) => true
  | _ => false)
def isB (K : PySem.W.Frag) (C : Str) : Bool := He.eqO (PySem.W.findIn K (.ref (He.ga K C)) "__class__") (some (some (.builtin "object.__class__"))) && He.eqO (PySem.W.specialIn K (.builtin "object.__class__") "__get__") (some (some (.builtin "getset_descriptor.__get__"))) &&
  decide (PySem.W.takesIn K (.builtin "object.__class__") = some true) && decide (PySem.W.mroIn K (He.ga K C) (.type "object") = some true)
def neB (K : PySem.W.Frag) (C : Str) : Bool := He.eqO (PySem.W.findIn K (.ref (He.ga K C)) "__ne__") (some (some (.builtin "object.__ne__"))) && decide (PySem.W.mroIn K (He.ga K C) (.type "object") = some true)
inductive ExB where
  | arith
  | lookup
  | value
def ExB.name : ExB → String
  | .arith => "ArithmeticError"
  | .lookup => "LookupError"
  | .value => "ValueError"
def ExB.newId : ExB → String
  | .arith => "ArithmeticError.__new__"
  | .lookup => "LookupError.__new__"
  | .value => "ValueError.__new__"
def ExB.initId : ExB → String
  | .arith => "ArithmeticError.__init__"
  | .lookup => "LookupError.__init__"
  | .value => "ValueError.__init__"
def ExB.bm : ExB → List Value
  | .arith => [.type "ArithmeticError", .type "Exception", .type "BaseException", .type "object"]
  | .lookup => [.type "LookupError", .type "Exception", .type "BaseException", .type "object"]
  | .value => [.type "ValueError", .type "Exception", .type "BaseException", .type "object"]
def oeB0 (K : PySem.W.Frag) (C : Addr) (b : ExB) : Bool := match K.lookup C with
  | some ⟨.type "type", _, .cls cd, sl⟩ => (match cd.mro, sl.toList with
    | .ref C' :: bm, [_, _, _, _, some (.builtin n), _] => C' == C && n == b.newId && !cd.hasDel && PySem.W.excTail b.bm bm && cd.hasDict
    | _, _ => false)
  | _ => false
def oeB (K : PySem.W.Frag) (C : Addr) (b : ExB) : Bool := oeB0 K C b && (He.eqO (PySem.W.findIn K (.ref C) "__setattr__") (some (some (.builtin "object.__setattr__"))) && (decide (PySem.W.subIn K (.ref C) (.type "BaseException") = some true) && (decide (PySem.W.typeIn K (.ref C) = some (.type "type")) && PySem.W.keepIn K (.ref C))))
def crB (K : PySem.W.Frag) (D : Addr) (b : ExB) : Bool := PySem.W.readsIn K D (.type "type") && (He.eqO (PySem.W.specialIn K (.ref D) "__getattribute__") (some (some (.builtin "type.__getattribute__"))) && (match PySem.W.findCls K (.ref D) (.type "type") "__init__" with
  | some (.val (.builtin i)) => decide (i = b.initId)
  | _ => false))
def niB (K : PySem.W.Frag) (C : Addr) : Bool := He.eqO (PySem.W.findIn K (.ref C) "__init__") (some (some (.ref (He.ma K C "__init__")))) && (decide (PySem.W.typeIn K (.ref (He.ma K C "__init__")) = some (.type "function")) && (xfB K C && decide (PySem.W.exmOne K (.ref C) (.ref C) = some true)))
def othB (K : PySem.W.Frag) (C : Addr) (t : Value) : Bool := decide (PySem.W.kitOne K t (.ref C) = some false) && PySem.W.notFirst K C t
def pdTys : List String := ["NoneType", "bool", "int", "str", "list", "tuple", "dict"]
def othPB (K : PySem.W.Frag) (C : Addr) : Bool := pdTys.all fun T => othB K C (.type T)
def spB (K : PySem.W.Frag) (C : Str) (i : Int) : Bool := if i = 1 then oeB K (He.ga K C) .arith && niB K (He.ga K C) else if i = 2 then oeB K (He.ga K C) .lookup && niB K (He.ga K C) else if i = 3 then crB K (He.ga K C) .arith else if i = 4 then crB K (He.ga K C) .lookup else if i = 5 then othPB K (He.ga K C) else if i = 6 then oeB K (He.ga K C) .value && niB K (He.ga K C) else if i = 8 then crB K (He.ga K C) .value else isB K C
def cvB (K : PySem.W.Frag) (C f : Str) (i : Int) : Bool := if f = "__class__" then spB K C i else if f = "__ne__" then neB K C else if i = -77 then othB K (He.ga K C) (.ref (He.ga K f)) else if i = -78 then decide (PySem.W.exmOne K (.ref (He.ga K C)) (.ref (He.ga K f)) = some true) else if i = -79 then decide (PySem.W.exmOne K (.ref (He.ga K C)) (.ref (He.ga K f)) = some false) else PySem.W.readsIn K (He.ga K C) (.type "type") && He.eqO (PySem.W.specialIn K (.ref (He.ga K C)) "__getattribute__") (some (some (.builtin "type.__getattribute__"))) && (match PySem.W.findCls K (.ref (He.ga K C)) (.type "type") f with
  | some (.val (.int j _)) => decide (j = i)
  | _ => false)
structure PrD where
  C : Str
  f : Str
  d : He.DefD
abbrev CvD : Type := Str × Str × Int
abbrev AlX : Type := He.AlD × (Bool × List He.FnW)
def obsX (fa : List He.Fa) (fn : List He.DefD) (pr : List PrD) (cv : List CvD) (K : PySem.W.Frag) : AlX :=
  (He.obsD fa fn K, ((pr.all fun p => prB K p.C p.f && okA K (gAd K p.C p.f) p.d) && cv.all fun q => cvB K q.1 q.2.1 q.2.2, pr.map fun p => fnWA K (gAd K p.C p.f)))
def valX (fn : List He.DefD) (pr : List PrD) : AlX := (He.valD fn, (true, pr.map fun p => p.d.val))
def SaysX (fa : List He.Fa) (fn : List He.DefD) (pr : List PrD) (cv : List CvD) (K : PySem.W.Frag) : Prop := obsX fa fn pr cv K = valX fn pr
end Mi

namespace Mi
open PySem PySem.Spec PyProof.Rows L2
def SubK (F F' : Hp) : Prop := ∀ a o, F a = some o → (∀ kvs, o ≠ .dK kvs) → F' a = some o
def FlK (t : Ty) : Prop := ∀ {x v F F' m}, t.rep x v F m → SubK F F' → t.rep x v F' m
def OsK : Os → Prop
  | [] => True
  | p :: r => FlK p.2 ∧ OsK r
theorem OwnOk.k : ∀ {os : Os} {o : OT os} {σ : L2.St} {F F' M R : Hp}, SubK F F' → OsK os → OwnOk os o σ F M R → OwnOk os o σ F' M R
  | [], _, _, _, _, _, _, _, _, h => h
  | _ :: _, _, _, _, _, _, _, s, ⟨f, fr⟩, ⟨v, m, M', e, r, p, k⟩ => ⟨v, m, M', e, f r s, p, k.k s fr⟩
def CtxK : Nat → Ctx → Prop
  | _, [] => True
  | 0, _ :: r => ∀ y ∈ r, ∀ u x, y = some ⟨u, x⟩ → FlK u
  | i + 1, none :: r => CtxK i r
  | i + 1, some p :: r => FlK p.1 ∧ CtxK i r
theorem CtxK.at : ∀ {i : Nat} {Γ : Ctx}, CtxK i Γ → ∀ j u x, j ≠ i → Γ[j]? = some (some ⟨u, x⟩) → FlK u
  | _, [], _, _, _, _, _, h => by simp at h
  | 0, _ :: r, k, 0, _, _, n, _ => absurd rfl n
  | 0, _ :: r, k, j + 1, u, x, _, h => k _ (List.mem_of_getElem? (by simpa using h)) u x rfl
  | i + 1, none :: r, k, 0, u, x, _, h => by simp at h
  | i + 1, none :: r, k, j + 1, u, x, n, h => (show CtxK i r from k).at j u x (fun e => n (by rw [e])) (by simpa using h)
  | i + 1, some p :: r, k, 0, u, x, _, h => by simp at h; rw [h] at k; exact k.1
  | i + 1, some p :: r, k, j + 1, u, x, n, h => k.2.at j u x (fun e => n (by rw [e])) (by simpa using h)
end Mi

namespace Mi
open PySem PySem.Spec PyProof.Rows L2
mutual
def DV : PyData → V → Hp → Prop
  | .none, v, _ => v = .non
  | .bool b, v, _ => v = .bl b
  | .int i, v, _ => v = .int i
  | .str s, v, _ => v = .str s
  | .list xs, v, H => ∃ a vs, v = .ref a ∧ H a = some (.lst vs) ∧ DVs xs vs H
  | .tuple xs, v, H => ∃ a vs, v = .ref a ∧ H a = some (.tup vs) ∧ DVs xs vs H
  | .dict ks, v, H => ∃ a kw, v = .ref a ∧ Rd H a (.dK kw) ∧ DKs ks kw H
def DVs : List PyData → List V → Hp → Prop
  | [], vs, _ => vs = []
  | x :: xs, vs, H => ∃ v r, vs = v :: r ∧ DV x v H ∧ DVs xs r H
def DKs : List (PyData × PyData) → List (Key × V) → Hp → Prop
  | [], kw, _ => kw = []
  | (k, x) :: xs, kw, H => ∃ s v r, kw = (.inr s, v) :: r ∧ k = .str s ∧ DV x v H ∧ DKs xs r H
end
mutual
theorem DV.up : ∀ {d : PyData} {v : V} {F H : Hp}, SubN F H → DV d v F → DV d v H
  | .none, _, _, _, _, h => by unfold DV at h ⊢; exact h
  | .bool _, _, _, _, _, h => by unfold DV at h ⊢; exact h
  | .int _, _, _, _, _, h => by unfold DV at h ⊢; exact h
  | .str _, _, _, _, _, h => by unfold DV at h ⊢; exact h
  | .list xs, _, _, _, s, h => by
    unfold DV at h ⊢
    obtain ⟨a, vs, e, q, r⟩ := h
    exact ⟨a, vs, e, s _ _ (fun _ e => nomatch e) q, DVs.up s r⟩
  | .tuple xs, _, _, _, s, h => by
    unfold DV at h ⊢
    obtain ⟨a, vs, e, q, r⟩ := h
    exact ⟨a, vs, e, s _ _ (fun _ e => nomatch e) q, DVs.up s r⟩
  | .dict ks, _, _, _, s, h => by
    unfold DV at h ⊢
    obtain ⟨a, kw, e, q, r⟩ := h
    exact ⟨a, kw, e, q.imp (s _ _ fun _ e => nomatch e) fun ⟨o, z⟩ => ⟨o, s _ _ (fun _ e => nomatch e) z⟩, DKs.up s r⟩
theorem DVs.up : ∀ {xs : List PyData} {vs : List V} {F H : Hp}, SubN F H → DVs xs vs F → DVs xs vs H
  | [], _, _, _, _, h => by unfold DVs at h ⊢; exact h
  | x :: xs, _, _, _, s, h => by
    unfold DVs at h ⊢
    obtain ⟨v, r, e, q, k⟩ := h
    exact ⟨v, r, e, DV.up s q, DVs.up s k⟩
theorem DKs.up : ∀ {xs : List (PyData × PyData)} {kw : List (Key × V)} {F H : Hp}, SubN F H → DKs xs kw F → DKs xs kw H
  | [], _, _, _, _, h => by unfold DKs at h ⊢; exact h
  | (k, x) :: xs, _, _, _, s, h => by
    unfold DKs at h ⊢
    obtain ⟨t, v, r, e, e2, q, z⟩ := h
    exact ⟨t, v, r, e, e2, DV.up s q, DKs.up s z⟩
end
def Sh (t : Ty) (dat : t.A → PyData) : Prop := ∀ {x v F}, t.rep x v F emp → DV (dat x) v F
variable {t : Ty} {dat : t.A → PyData}
inductive Shs : (ts : List Ty) → (AT ts → List PyData) → Prop
  | nil : Shs [] fun _ => []
  | cons {t : Ty} {dat : t.A → PyData} {ts : List Ty} {ds : AT ts → List PyData} : Sh t dat → Shs ts ds → Shs (t :: ts) fun x => dat x.1 :: ds x.2
theorem Shs.of : ∀ {ts : List Ty} {ds : AT ts → List PyData}, Shs ts ds → ∀ {x : AT ts} {vs : List V} {F : Hp}, ArgsOk ts x vs F → DVs (ds x) vs F
  | [], _, .nil, _, vs, _, r => by
    have r' : vs = [] := r
    unfold DVs; exact r'
  | _ :: _, _, .cons h k, _, _, _, ⟨v, us, e, q, z⟩ => by
    unfold DVs
    exact ⟨v, us, e, h q, k.of z⟩
end Mi

namespace Mi
open PySem PySem.Spec PySem.Calls PyProof.Rows L2 NdefX
def Knows (T : List (Addr × Str)) (F : Hp) : Prop := ∀ p ∈ T, F p.1 = some (.tbl #[.str p.2 0])
theorem Knows.mono {T : List (Addr × Str)} {F F' : Hp} (h : Knows T F) (s : Sub F F') : Knows T F' := fun p hp => s _ _ (h p hp)
end Mi

namespace Mi
open PySem PySem.Spec PyProof.Rows L2
section
variable {X : Cx} {Γ : Ctx} {os os' : Os} {N : List Str} {sc scope : Scope} {B : List Str} {k : Nat} {pos p : Pos} {t u t1 : Ty} {elt tg iter tg1 iter1 e a b : Expr} {ifs ifs1 : List Expr}
theorem AllR.cv {f : t.A → u.A} (c : Cv t u f) {F : Hp} : ∀ {xs : List t.A} {vs : List V}, AllR t xs vs F → AllR u (xs.map f) vs F
  | [], _, r => r
  | _ :: _, _, ⟨v, l, e, q, k⟩ => ⟨v, l, e, c q, AllR.cv c k⟩
variable {G : FX} {L : LC} {β : Type} {Γn : β → Ctx} {osn : Os} {rest : List Stmt}
end
end Mi

namespace Mi
open PySem PySem.Spec PyProof.Rows L2
section
variable {X : Cx} {N : List Str} {sc : Scope} {B : List Str} {k : Nat} {Γ : Ctx} {os os' : Os} {pos p p1 p2 p3 pt pt2 : Pos} {e a b : Expr} {t u : Ty}
variable {G : FX} {L : LC} {β : Type} {Γn : β → Ctx} {osn : Os} {rest : List Stmt}
inductive Nms (X : Cx) (N : List Str) (sc : Scope) : List Expr → List Nat → Prop
  | nil : Nms X N sc [] []
  | cons {x : Str} {px : Pos} {kd : NameKind} {es : List Expr} {is : List Nat} (i j : Nat) (r : Nms X N sc es is) (hj : sc.names[j]? = some (x, kd) := by rfl) (hk : locK kd = true := by rfl) (hN : N[i]? = some x := by rfl) (hg : (assignEach (.Name x px :: es) X.env).map (·.2) = assign (.Name x px) X.env :: (assignEach es X.env).map (·.2) := by rfl) : Nms X N sc (.Name x px :: es) (i :: is)
theorem Nms.ok (xo : XOk X N sc B k) : ∀ {es : List Expr} {is : List Nat}, Nms X N sc es is → ∃ t, PGs X es t ∧ ∀ (vs : List V) (σ : L2.St) (H : Hp) (Q : L2.St → Hp → Prop), vs.length = is.length → Q (setσ is vs σ) H → t vs σ H Q
  | _, _, .nil => ⟨_, pgs_nil, fun vs σ H Q hl q => by
    cases vs with
    | nil => exact ⟨rfl, q⟩
    | cons v r => cases hl⟩
  | _, _, .cons (x := x) (kd := kd) i j r hj hk hN hg => by
    obtain ⟨t, pg, h⟩ := r.ok xo
    obtain ⟨l1, l2⟩ := xo.lc j x kd hj hk
    refine ⟨_, pgs_cons (pg_name (i := i) xo.nd (by rw [xo.nN]; exact hN) l1 l2) pg hg, fun vs σ H Q hl q => ?_⟩
    cases vs with
    | nil => cases hl
    | cons v r => exact ⟨v, r, rfl, h r _ H Q (by simpa using hl) q⟩
end
end Mi

namespace Mi
open PySem PySem.Spec PyProof.Rows L2
def addA : List Addr → Nat → List Addr → List Addr → (Nat → List Addr → List Addr → List Addr) → List Addr
  | [], seen, acc, new, k => k seen acc new
  | a :: r, seen, acc, new, k => match Nat.land (Nat.shiftRight seen a) 1 with
    | 0 => HandSHeadRun.frNat (Nat.lor seen (Nat.shiftLeft 1 a)) fun s => addA r s (a :: acc) (a :: new) k
    | _ + 1 => addA r seen acc new k
def expA (g : Addr → Option Obj) : List Addr → Nat → List Addr → List Addr → (Nat → List Addr → List Addr → List Addr) → List Addr
  | [], seen, acc, new, k => k seen acc new
  | a :: r, seen, acc, new, k => addA (match g a with | some o => He.refsD o | none => []) seen acc new fun s ac nw => expA g r s ac nw k
def bfsA (g : Addr → Option Obj) : Nat → Nat → List Addr → List Addr → List Addr
  | 0, _, acc, _ => acc
  | n + 1, seen, acc, front => expA g front seen acc [] fun s ac nw => bfsA g n s ac nw
def asF (g : Addr → Option Obj) (n : Nat) : List Addr := bfsA g n (Nat.shiftLeft 1 mainGlobals) [mainGlobals] [mainGlobals]
def obsWG (n : Nat) (fa : List He.Fa) (fn : List He.DefD) (pr : List PrD) (cv : List CvD) (g : Addr → Option Obj) : AlX := obsX fa fn pr cv (He.frG g (cStatics :: asF g n))
def hookW (n : Nat) (fa : List He.Fa) (fn : List He.DefD) (pr : List PrD) (cv : List CvD) : PySem.W.Hook where
  α := AlX
  obs := fun sh => obsWG n fa fn pr cv sh.heap.get?
  val := fun _ => valX fn pr
  says := fun _ hp => ∃ K : PySem.W.Frag, K.In hp ∧ SaysX fa fn pr cv K
  of := fun _ _ eq => ⟨_, He.frG_in, eq⟩
  keeps := fun _ _ _ ⟨K, kin, says⟩ kp => ⟨K, PySem.W.Frag.In.keeps kin kp, says⟩
theorem obsW_eq {n : Nat} {fa : List He.Fa} {fn : List He.DefD} {pr : List PrD} {cv : List CvD} {g : Addr → Option Obj} {sh : Shared} (h : ∀ a, g a = sh.heap.get? a) : obsWG n fa fn pr cv g = (hookW n fa fn pr cv).obs sh := by
  show _ = obsWG n fa fn pr cv sh.heap.get?
  rw [show g = sh.heap.get? from funext h]
end Mi

namespace K
open PySem PySem.Spec PyProof.Rows L2 Mi

def top (i : Nat) : Stmt := PySem.Challenge.pw_canontext_k02_errors_of_in_order.main.body.getD i (.Pass ⟨0, 0, 0, 0⟩)
def mth (i j : Nat) : Stmt := clsBody (top i) j
def e__law_cell : He.DefD := ⟨("_law_cell", none), "_law_cell", "_law_cell", defArgs (top 10), defBody (top 10), defScope (top 10), [], []⟩
def e__law_box : He.DefD := ⟨("_law_box", none), "_law_box", "_law_box", defArgs (top 11), defBody (top 11), defScope (top 11), [], []⟩
def e__law_take : He.DefD := ⟨("_law_take", none), "_law_take", "_law_take", defArgs (top 12), defBody (top 12), defScope (top 12), [], []⟩
def e__law_value : He.DefD := ⟨("_law_value", none), "_law_value", "_law_value", defArgs (top 13), defBody (top 13), defScope (top 13), [], []⟩
def e__law_due : He.DefD := ⟨("_law_due", none), "_law_due", "_law_due", defArgs (top 14), defBody (top 14), defScope (top 14), [], []⟩
def e_is_character : He.DefD := ⟨("is_character", none), "is_character", "is_character", defArgs (top 7), defBody (top 7), defScope (top 7), [], []⟩
def e_in_order : He.DefD := ⟨("in_order", none), "in_order", "in_order", defArgs (top 8), defBody (top 8), defScope (top 8), [], []⟩
def e__law_caught : He.DefD := ⟨("_law_caught", none), "_law_caught", "_law_caught", defArgs (top 15), defBody (top 15), defScope (top 15), [], []⟩
def e_law : He.DefD := ⟨("law", none), "law", "law", defArgs (top 16), defBody (top 16), defScope (top 16), [], []⟩
def e_exc_InvalidCharacter : He.DefD := ⟨("InvalidCharacter", some "__init__"), "__init__", "InvalidCharacter.__init__", defArgs (mth 4 0), defBody (mth 4 0), defScope (mth 4 0), [], []⟩
def fn : List He.DefD := [e__law_cell, e__law_box, e__law_take, e__law_value, e__law_due, e_is_character, e_in_order, e__law_caught, e_law, e_exc_InvalidCharacter]
def pr : List PrD := []
def cv : List CvD := [("InvalidCharacter", "__class__", 0), ("InvalidCharacter", "__class__", 6), ("TextError", "__class__", 8), ("InvalidCharacter", "TextError", -78), ("InvalidCharacter", "Absent", -79), ("InvalidCharacter", "NotSound", -79)]
def fa : List He.Fa := [.glo "_law_cell", .glo "_law_box", .glo "_law_take", .glo "_law_value", .glo "_law_due", .glo "is_character", .glo "in_order", .glo "_law_caught", .glo "law", .glo "InvalidCharacter", .glo "TextError", .glo "Absent", .glo "NotSound", .noat "InvalidCharacter" "value", .str "CHARACTERS" (sOf [48, 49, 50, 51, 52, 53, 54, 55, 56, 57, 65, 66, 67, 68, 69, 70, 71, 72, 73, 74, 75, 76, 77, 78, 79, 80, 81, 82, 83, 84, 85, 86, 87, 88, 89, 90, 97, 98, 99, 100, 101, 102, 103, 104, 105, 106, 107, 108, 109, 110, 111, 112, 113, 114, 115, 116, 117, 118, 119, 120, 121, 122]), .free "range", .free "max", .free "min", .free "len", .free "isinstance", .free "str", .free "ValueError", .free "list", .free "dict", .free "repr"]
abbrev R : PySem.W.OpenRow := PySem.W.OpenLaw.row PySem.Challenge.rw_canontext_k02_errors_of_in_order
abbrev hk : PySem.W.Hook := hookW 4 fa fn pr cv
def ob (s : PySem.W.SharedT) : AlX := obsWG 4 fa fn pr cv (HandSHeadRun.getT s)
theorem ob_eq (s : PySem.W.SharedT) : ob s = hk.obs s.abs := obsW_eq (HandSHeadRun.getT_eq s)
def loose : List PySem.Str := (["TextError", "Absent", "NotSound", "InvalidCharacter", "CHARACTERS", "is_character", "in_order", "_law_cell", "_law_box", "_law_take", "_law_value", "_law_due", "_law_caught"] : List PySem.Str)
abbrev qv : Program := PySem.W.view R.prog [16]
set_option maxHeartbeats 0 in
theorem run (w : World) : HandSHeadRun.RunEq R qv hk ob 4000 loose w := by
  intro os
  kernel_rfl

end K

set_option Elab.async false
set_option linter.all false
set_option maxRecDepth 100000
set_option maxHeartbeats 8000000
namespace Mi
open PySem PySem.Spec PyProof.Rows L2

theorem sep_emp_l (A : Hp) : Sep emp A A := ⟨fun _ => .inl rfl, rfl⟩
theorem Good.fnone {F M H : Hp} (g : Good F M H) {p : Addr} (e : H p = none) : F p = none := by
  cases q : F p with
  | none => rfl
  | some o =>
    obtain ⟨u, z⟩ := (g.f p o q).ex
    rw [z] at e; cases e
theorem Good.less {F M M' H : Hp} (g : Good F M H) (h : Sub M' M) : Good F M' H := ⟨g.f, h.trans g.m, fun p => (g.dis p).imp id fun e => h.none e, fun p o e => g.nt p o (h p o e)⟩
theorem sub_upd {F : Hp} {p : Addr} {o : HO} (h : F p = none) : Sub F (upd F p o) := fun a u e => by rw [upd_ne (ne_of_none e h)]; exact e
theorem Good.newF {F M H : Hp} {p : Addr} {o : HO} (g : Good F M H) (h : H p = none) (n : noTbl o := by exact fun _ e => nomatch e) : Good (upd F p o) M (upd H p o) := by
  have hF : F p = none := g.fnone h
  have hM : M p = none := g.m.none h
  refine ⟨fun a u e => ?_, fun a u e => ?_, fun a => ?_, g.nt⟩
  · by_cases q : a = p
    · subst q; rw [upd_same] at e; cases e; exact HF.of upd_same n
    · rw [upd_ne q] at e; exact (g.f a u e).up (sub_upd hF) (upd_ne q)
  · have q : a ≠ p := ne_of_none e hM
    rw [upd_ne q]; exact g.m a u e
  · by_cases q : a = p
    · subst q; exact .inr hM
    · rw [upd_ne q]; exact g.dis a
theorem Good.newM {F M H : Hp} {p : Addr} {o : HO} (g : Good F M H) (h : H p = none) (n : ownO o := by exact ⟨(fun _ e => nomatch e), (fun _ e => nomatch e)⟩) : Good F (uni (sing p o) M) (upd H p o) ∧ Sep (sing p o) M (uni (sing p o) M) := by
  have hF : F p = none := g.fnone h
  have hM : M p = none := g.m.none h
  refine ⟨⟨fun a u e => ?_, fun a u e => ?_, fun a => ?_, fun a u e => ?_⟩, fun a => ?_, rfl⟩
  · exact (g.f a u e).up (.refl F) (upd_ne (ne_of_none e hF))
  · by_cases q : a = p
    · subst q; rw [uni_l sing_same] at e; rw [upd_same]; exact e
    · rw [uni_r (sing_ne q)] at e; rw [upd_ne q]; exact g.m a u e
  · by_cases q : a = p
    · subst q; exact .inl hF
    · rw [uni_r (sing_ne q)]; exact g.dis a
  · by_cases q : a = p
    · subst q; rw [uni_l sing_same] at e; cases e; exact n
    · rw [uni_r (sing_ne q)] at e; exact g.nt a u e
  · by_cases q : a = p
    · subst q; exact .inr hM
    · exact .inl (sing_ne q)
theorem Good.freeze {F M1 M H A : Hp} (g : Good F M H) (s : Sep A M1 M) : Good (uni A F) M1 H ∧ Sub F (uni A F) ∧ Sub A (uni A F) := by
  have d : ∀ p, A p = none ∨ F p = none := fun p => by
    rcases g.dis p with e | e
    · exact .inr e
    · exact .inl (s.none e).1
  have sF : Sub F (uni A F) := fun a u e => by
    rcases d a with q | q
    · rw [uni_r q]; exact e
    · rw [q] at e; cases e
  refine ⟨⟨fun a u e => ?_, s.r.trans g.m, fun a => ?_, fun a u e => g.nt a u (s.r a u e)⟩, sF, fun a u e => uni_l e⟩
  · cases q : A a with
    | some w =>
      rw [uni_l q] at e
      have z := s.l a u (by rw [q]; exact e)
      exact HF.of (g.m a u z) (g.nt a u z).1
    | none => rw [uni_r q] at e; exact (g.f a u e).up sF rfl
  · rcases s.dis a with e | e
    · rcases g.dis a with q | q
      · exact .inl (uni_none.mpr ⟨e, q⟩)
      · exact .inr (s.none q).2
    · exact .inr e

def mns (F A : Hp) : Hp := fun p => match A p with
  | some _ => none
  | none => F p
theorem mns_none {F A : Hp} {p : Addr} (h : A p = none) : mns F A p = F p := by unfold mns; rw [h]
theorem mns_some {F A : Hp} {p : Addr} {o : HO} (h : A p = some o) : mns F A p = none := by unfold mns; rw [h]
theorem Good.back {F F2 A M M' H : Hp} (g : Good F2 M' H) (s0 : Sep A M' M) (s : Sub F F2) (sA : Sub A F2) (d : ∀ p, A p = none ∨ F p = none) (own : ∀ p o, A p = some o → ownO o) : Sub F (mns F2 A) ∧ Good (mns F2 A) M H := by
  have no : ∀ {a o}, mns F2 A a = some o → A a = none ∧ F2 a = some o := fun {a o} e => by
    cases q : A a with
    | some w => rw [mns_some q] at e; cases e
    | none => rw [mns_none q] at e; exact ⟨rfl, e⟩
  refine ⟨fun a o e => ?_, fun a o e => ?_, fun a o e => ?_, fun a => ?_, fun a o e => ?_⟩
  · rcases d a with q | q
    · rw [mns_none q]; exact s a o e
    · rw [q] at e; cases e
  · obtain ⟨e1, e2⟩ := no e
    have z := g.f a o e2
    cases o with
    | tbl ps =>
      obtain ⟨q, e3, ps, e4, e5, e6⟩ := z
      refine ⟨q, e3, ps, e4, e5, fun pos cv hc => ?_⟩
      obtain ⟨c, e7, e8⟩ := e6 pos cv hc
      refine ⟨c, e7, ?_⟩
      have : A c = none := by
        cases q : A c with
        | none => rfl
        | some w =>
          have := sA c w q
          rw [e8] at this
          cases this
          exact absurd rfl ((own c _ q).2 _)
      rw [mns_none this]
      exact e8
    | _ => exact z
  · cases q : A a with
    | some w =>
      rw [s0.eq, uni_l q] at e
      cases e
      exact (g.f a _ (sA a _ q)).at (own a _ q).1
    | none => rw [s0.eq, uni_r q] at e; exact g.m a o e
  · cases q : A a with
    | some w => exact .inl (mns_some q)
    | none =>
      rw [mns_none q, s0.eq, uni_r q]
      exact g.dis a
  · rw [s0.eq] at e
    cases q : A a with
    | some w => rw [uni_l q] at e; cases e; exact own a _ q
    | none => rw [uni_r q] at e; exact g.nt a o e

abbrev imTy (A : Type) (r : A → V → Hp → Prop) (h : ∀ {x v F F'}, r x v F → Sub F F' → r x v F') : Ty := ⟨A, fun x v F m => m = emp ∧ r x v F, fun a s => ⟨a.1, h a.2 s⟩⟩
abbrev flat (A : Type) (g : A → V) : Ty := imTy A (fun x v _ => v = g x) fun a _ => a
abbrev tInt : Ty := flat Int V.int
abbrev tBool : Ty := flat Bool V.bl
abbrev tNone : Ty := flat Unit fun _ => V.non
abbrev tStr : Ty := flat (List Nat) fun l => V.str (sOf l)
abbrev tChr : Ty := flat Nat fun c => V.str (sOf [c])

abbrev tDat : Ty := imTy Dat DRep DRep.mono

namespace SM
variable {O A B : Type}
def fail : SM O A := fun _ => none
def lift (m : Option A) : SM O A := fun o => match m with
  | some x => some (.ok x, o)
  | none => none
def lifx (m : Option (Except Exn A)) : SM O A := fun o => match m with
  | some r => some (r, o)
  | none => none
end SM

theorem CtxOk.le {Γ Γ' : Ctx} {σ : L2.St} {F : Hp} (h : CtxOk Γ σ F) (l : CtxLe Γ' Γ) : CtxOk Γ' σ F := ⟨l.1.trans h.1, fun i t x e => h.2 i t x (l.2 i _ e)⟩
theorem CtxLe.same {Γ' Γ : Ctx} {z : Option ((t : Ty) × t.A)} (h : CtxLe Γ' Γ) : CtxLe (z :: Γ') (z :: Γ) := ⟨by simp [h.1], fun i w e => by
  cases i with
  | zero => exact e
  | succ i => exact h.2 i w (by simpa using e)⟩
theorem CtxLe.drop {Γ' Γ : Ctx} {z : Option ((t : Ty) × t.A)} (h : CtxLe Γ' Γ) : CtxLe (none :: Γ') (z :: Γ) := ⟨by simp [h.1], fun i w e => by
  cases i with
  | zero => cases e
  | succ i => exact h.2 i w (by simpa using e)⟩

theorem OwnOk.frame : ∀ {os : Os} {o : OT os} {σ : L2.St} {F M R A M2 : Hp}, OwnOk os o σ F M R → Sep A M M2 → ∃ R2, Sep A R R2 ∧ OwnOk os o σ F M2 R2
  | [], _, _, _, M, R, A, M2, h, s => ⟨M2, by have h' : M = R := h; rw [← h']; exact s, rfl⟩
  | p :: r, o, σ, F, M, R, A, M2, ⟨v, m, M', e, q, s, k⟩, t => by
    obtain ⟨G, s1, s2⟩ := s.assoc t
    obtain ⟨R2, r1, r2⟩ := k.frame s1
    exact ⟨R2, r1, v, m, G, e, q, s2, r2⟩
theorem OwnOk.unframe : ∀ {os : Os} {o : OT os} {σ : L2.St} {F M R A R2 : Hp}, OwnOk os o σ F M R2 → Sep A R R2 → ∃ M1, Sep A M1 M ∧ OwnOk os o σ F M1 R
  | [], _, _, _, M, R, A, R2, h, s => ⟨R, by have h' : M = R2 := h; rw [h']; exact s, rfl⟩
  | p :: r, o, σ, F, M, R, A, R2, ⟨v, m, M', e, q, s, k⟩, t => by
    obtain ⟨M1, s1, k1⟩ := k.unframe t
    obtain ⟨G, g1, g2⟩ := s1.assoc s
    exact ⟨G, g2, v, m, M1, e, q, g1, k1⟩
def best (X : Cx) (e : Expr) : TE := fun σ H Q => ∃ t, PE X e t ∧ t σ H Q
theorem pe_best (X : Cx) (e : Expr) : PE X e (best X e) := ⟨fun pins s σ H Q I ⟨_, p, h⟩ => p.run pins s σ H Q I h⟩
theorem pt_best (X : Cx) (e : Expr) : PT X e (bestT X e) := ⟨fun pins s σ H Q I ⟨_, p, h⟩ => p.run pins s σ H Q I h⟩
def bestA (X : Cx) (es : List Expr) : TA := fun σ H Q => ∃ t, PA X es t ∧ t σ H Q
theorem pa_best (X : Cx) (es : List Expr) : PA X es (bestA X es) := ⟨fun pos pins s σ H Q I ⟨_, p, h⟩ => p.run pos pins s σ H Q I h⟩
def bestS (X : Cx) (st : Stmt) : TS := fun D σ H => ∃ t, PS X st t ∧ t D σ H
theorem ps_best (X : Cx) (st : Stmt) : PS X st (bestS X st) := ⟨fun pins s σ H D I ⟨_, p, h⟩ => p.run pins s σ H D I h⟩
def bestB (X : Cx) (st : List Stmt) : TS := fun D σ H => ∃ t, PSs X st t ∧ t D σ H
theorem pss_best (X : Cx) (st : List Stmt) : PSs X st (bestB X st) := ⟨fun pins s σ H D I ⟨_, p, h⟩ => p.run pins s σ H D I h⟩

def RE (X : Cx) (Γ : Ctx) (os : Os) (e : Expr) (t : Ty) (m : SM (OT os) t.A) : Prop :=
  ∀ (σ : L2.St) (F M R H : Hp) (o : OT os) (W : WX) (Q : VK), Takes X W → CtxOk Γ σ F → OwnOk os o σ F M R → Good F M H →
    Want (m o) (NormE os t σ F R Q) (ExcE X os σ F R W) → best X e σ H Q
def NormA (os : Os) (ts : List Ty) (σ : L2.St) (F R : Hp) (Q : List V → Hp → Prop) (x : AT ts) (o : OT os) : Prop :=
  ∀ vs F' M' H', Sub F F' → OwnOk os o σ F' M' R → Good F' M' H' → ArgsOk ts x vs F' → Q vs H'
def RA (X : Cx) (Γ : Ctx) (os : Os) (es : List Expr) (ts : List Ty) (m : SM (OT os) (AT ts)) : Prop :=
  ∀ (σ : L2.St) (F M R H : Hp) (o : OT os) (W : WX) (Q : List V → Hp → Prop), Takes X W → CtxOk Γ σ F → OwnOk os o σ F M R → Good F M H →
    Want (m o) (NormA os ts σ F R Q) (ExcE X os σ F R W) → bestA X es σ H Q
end Mi

namespace Mi
open PySem PySem.Spec PyProof.Rows L2

section
variable {X : Cx} {N : List Str} {sc : Scope} {B : List Str} {k : Nat} {Γ : Ctx} {os : Os} {pos p p2 apos : Pos}

theorem end_flat {A : Type} {g : A → V} {os : Os} {σ : L2.St} {F F1 M R H : Hp} {Q : VK} {x : A} {o : OT os} (h : NormE os (flat A g) σ F R Q x o) (s : Sub F F1) (w : OwnOk os o σ F1 M R) (q : Good F1 M H) : Q (g x) H :=
  h (g x) F1 M emp M H s w (sep_emp_l M) q ⟨rfl, rfl⟩

theorem re_var (xo : XOk X N sc B k) (i j : Nat) {nm : Str} {kd : NameKind} {t : Ty} {x : t.A} (hj : sc.names[j]? = some (nm, kd) := by rfl) (hk : visK kd = true := by rfl) (hN : N[i]? = some nm := by rfl) (hΓ : Γ[i]? = some (some ⟨t, x⟩) := by rfl) :
    RE X Γ os (.Name nm pos) t (SM.ret x) := by
  intro σ F M R H o W Q tk c w g h
  obtain ⟨v, e, r⟩ := c.2 i t x hΓ
  obtain ⟨d1, d2, _⟩ := xo.db j nm kd hj
  exact ⟨_, pe_var (by rw [xo.nN]; exact hN) (xo.vs j nm kd hj hk) d1 d2, v, e, h v F M emp M H (.refl F) w (sep_emp_l M) g r⟩
theorem re_int {i : Int} {j : Nat} : RE X Γ os (.Constant (.int i) j pos) tInt (SM.ret i) := fun σ F M R H o W Q tk c w g h => ⟨_, pe_int, end_flat (g := V.int) h (.refl F) w g⟩
theorem re_bool {b : Bool} {j : Nat} : RE X Γ os (.Constant (.bool b) j pos) tBool (SM.ret b) := fun σ F M R H o W Q tk c w g h => ⟨_, pe_bl, end_flat (g := V.bl) h (.refl F) w g⟩
theorem re_none {j : Nat} : RE X Γ os (.Constant .none j pos) tNone (SM.ret ()) := fun σ F M R H o W Q tk c w g h => ⟨_, pe_non, end_flat (g := fun _ => V.non) h (.refl F) w g⟩
theorem re_str {z : Str} {j : Nat} (l : List Nat) (hz : z = sOf l := by rfl) : RE X Γ os (.Constant (.str z) j pos) tStr (SM.ret l) := fun σ F M R H o W Q tk c w g h => ⟨_, pe_str, by
  subst hz
  exact end_flat (g := fun l => V.str (sOf l)) h (.refl F) w g⟩
theorem re_cv {e : Expr} {t u : Ty} {f : t.A → u.A} {m : SM (OT os) t.A} (hc : Cv t u f) (h : RE X Γ os e t m) : RE X Γ os e u (SM.map f m) := fun σ F M R H o W Q tk c w g q =>
  h σ F M R H o W Q tk c w g (q.bind.imp (fun x o1 z v F' M1 mm M' H' s a b c d => z v F' M1 mm M' H' s a b c (hc d)) fun _ _ z => z)
theorem cv_chr : Cv tChr tStr (fun c => [c]) := fun h => h

def VOp (r : R2) (ta tb tc : Ty) (f : ta.A → tb.A → Option tc.A) : Prop := ∀ {x y z v u F M H} {Q : VK}, f x y = some z → ta.rep x v F emp → tb.rep y u F emp → Good F M H →
  (∀ v' F' mm M' H', Sub F F' → Sep mm M M' → Good F' M' H' → tc.rep z v' F' mm → Q v' H') → r v u H Q
theorem two_ends {a b : Expr} {ta tb : Ty} {ma : SM (OT os) ta.A} {mb : SM (OT os) tb.A} {C : Type} {mk : ta.A → tb.A → SM (OT os) C} {R2 : V → V → Hp → Prop} {N : C → OT os → Prop} {σ : L2.St} {F M R H : Hp} {o : OT os} {W : WX}
    (ia : Imm ta) (ib : Imm tb) (ha : RE X Γ os a ta ma) (hb : RE X Γ os b tb mb) (tk : Takes X W) (c : CtxOk Γ σ F) (w : OwnOk os o σ F M R) (g : Good F M H)
    (h : Want ((SM.bind ma fun x => SM.bind mb fun y => mk x y) o) N (ExcE X os σ F R W))
    (fin : ∀ x y o2 v u F2 M2 H2, Want (mk x y o2) N (ExcE X os σ F R W) → Sub F F2 → OwnOk os o2 σ F2 M2 R → Good F2 M2 H2 → ta.rep x v F2 emp → tb.rep y u F2 emp → R2 v u H2) :
    best X a σ H fun v H1 => best X b σ H1 fun u H2 => R2 v u H2 := by
  refine ha σ F M R H o W _ tk c w g (h.bind.imp (fun x o1 h1 => ?_) fun _ _ z => z)
  intro v F1 M1 m1 M1' H1 s1 w1 p1 g1 r1
  have e := ia r1; subst e
  have e := p1.emp_l; subst e
  refine hb σ F1 _ R H1 o1 W _ tk (c.mono s1) w1 g1 (h1.bind.imp (fun y o2 h2 => ?_) fun _ _ z => z.mono s1)
  intro u F2 M2 m2 M2' H2 s2 w2 p2 g2 r2
  have e := ib r2; subst e
  have e := p2.emp_l; subst e
  exact fin x y o2 v u F2 _ H2 h2 (s1.trans s2) w2 g2 (ta.mono r1 s2) r2
theorem lift_fin {tc : Ty} {r : Option tc.A} {o2 : OT os} {σ : L2.St} {F R F2 M2 : Hp} {W : WX} {Q : VK} {k : Prop} (h : Want (SM.lift r o2) (NormE os tc σ F R Q) (ExcE X os σ F R W)) (s : Sub F F2) (w : OwnOk os o2 σ F2 M2 R) 
    (fin : ∀ z, r = some z → (∀ v' F' mm M' H', Sub F2 F' → Sep mm M2 M' → Good F' M' H' → tc.rep z v' F' mm → Q v' H') → k) : k := by
  unfold SM.lift at h
  cases e : r with
  | none => rw [e] at h; exact h.elim
  | some z =>
    rw [e] at h
    exact fin z e fun v' F' mm M' H' s' p' g' r' => h v' F' M2 mm M' H' (s.trans s') (w.mono s') p' g' r'
theorem re_op {op : Operator} {r : R2} {ta tb tc : Ty} {f : ta.A → tb.A → Option tc.A} {a b : Expr} {ma : SM (OT os) ta.A} {mb : SM (OT os) tb.A} (ho : OpR X (binaryOp op) r) (hv : VOp r ta tb tc f) (ia : Imm ta) (ib : Imm tb)
    (ha : RE X Γ os a ta ma) (hb : RE X Γ os b tb mb) : RE X Γ os (.BinOp a op b pos) tc (SM.bind ma fun x => SM.bind mb fun y => SM.lift (f x y)) := by
  intro σ F M R H o W Q tk c w g h
  refine ⟨_, pe_op ho (pe_best X a) (pe_best X b), ?_⟩
  exact two_ends ia ib ha hb tk c w g h fun x y o2 v u F2 M2 H2 h2 s2 w2 g2 r1 r2 => lift_fin h2 s2 w2 fun z e q => hv e r1 r2 g2 q
theorem re_cmp {op : CmpOp} {r : R2} {ta tb tc : Ty} {f : ta.A → tb.A → Option tc.A} {a b : Expr} {ma : SM (OT os) ta.A} {mb : SM (OT os) tb.A} (ho : OpR X (compareOp op) r) (hv : VOp r ta tb tc f) (ia : Imm ta) (ib : Imm tb)
    (ha : RE X Γ os a ta ma) (hb : RE X Γ os b tb mb) (hm : behindInMarks op b = false := by first | exact nobehind _ (by decide) (by decide) | rfl) : RE X Γ os (.Compare a [op] [b] pos) tc (SM.bind ma fun x => SM.bind mb fun y => SM.lift (f x y)) := by
  intro σ F M R H o W Q tk c w g h
  refine ⟨_, pe_cmpR ho (pe_best X a) (pe_best X b) hm, ?_⟩
  exact two_ends ia ib ha hb tk c w g h fun x y o2 v u F2 M2 H2 h2 s2 w2 g2 r1 r2 => lift_fin h2 s2 w2 fun z e q => hv e r1 r2 g2 q
theorem re_ix {r : R2} {ta tb tc : Ty} {f : ta.A → tb.A → Option tc.A} {a b : Expr} {ma : SM (OT os) ta.A} {mb : SM (OT os) tb.A} (ho : IxR X r) (hv : VOp r ta tb tc f) (ia : Imm ta) (ib : Imm tb)
    (ha : RE X Γ os a ta ma) (hb : RE X Γ os b tb mb) (hs : PlainIx b := by exact fun _ _ => rfl) : RE X Γ os (.Subscript a b pos) tc (SM.bind ma fun x => SM.bind mb fun y => SM.lift (f x y)) := by
  intro σ F M R H o W Q tk c w g h
  refine ⟨_, pe_ix ho (pe_best X a) (pe_best X b) hs, ?_⟩
  exact two_ends ia ib ha hb tk c w g h fun x y o2 v u F2 M2 H2 h2 s2 w2 g2 r1 r2 => lift_fin h2 s2 w2 fun z e q => hv e r1 r2 g2 q
theorem one_end {a : Expr} {ta : Ty} {ma : SM (OT os) ta.A} {C : Type} {mk : ta.A → SM (OT os) C} {R1 : V → Hp → Prop} {N : C → OT os → Prop} {σ : L2.St} {F M R H : Hp} {o : OT os} {W : WX}
    (ia : Imm ta) (ha : RE X Γ os a ta ma) (tk : Takes X W) (c : CtxOk Γ σ F) (w : OwnOk os o σ F M R) (g : Good F M H)
    (h : Want ((SM.bind ma fun x => mk x) o) N (ExcE X os σ F R W))
    (fin : ∀ x o2 v F2 M2 H2, Want (mk x o2) N (ExcE X os σ F R W) → Sub F F2 → OwnOk os o2 σ F2 M2 R → Good F2 M2 H2 → ta.rep x v F2 emp → R1 v H2) :
    best X a σ H R1 := by
  refine ha σ F M R H o W _ tk c w g (h.bind.imp (fun x o1 h1 => ?_) fun _ _ z => z)
  intro v F1 M1 m1 M1' H1 s1 w1 p1 g1 r1
  have e := ia r1; subst e
  have e := p1.emp_l; subst e
  exact fin x o1 v F1 _ H1 h1 s1 w1 g1 r1
theorem fl {A : Type} {gA : A → V} {z : A} {F M H : Hp} {Q : VK} (q : ∀ v' F' mm M' H', Sub F F' → Sep mm M M' → Good F' M' H' → (flat A gA).rep z v' F' mm → Q v' H') (g : Good F M H) : Q (gA z) H :=
  q (gA z) F emp M H (.refl F) (sep_emp_l M) g ⟨rfl, rfl⟩
theorem imF {A : Type} {gA : A → V} : Imm (flat A gA) := fun a => a.1

theorem v_I0 {gg : Int → Int → Int} : VOp (rI0 fun i j => .int (gg i j)) tInt tInt tInt (fun i j => some (gg i j)) := by
  intro x y z v u F M H Q e ⟨_, rx⟩ ⟨_, ry⟩ g q
  cases e
  exact ⟨x, y, rx, ry, fl (gA := V.int) q g⟩
theorem v_IB {gg : Int → Int → Bool} : VOp (rI0 fun i j => .bl (gg i j)) tInt tInt tBool (fun i j => some (gg i j)) := by
  intro x y z v u F M H Q e ⟨_, rx⟩ ⟨_, ry⟩ g q
  cases e
  exact ⟨x, y, rx, ry, fl (gA := V.bl) q g⟩
theorem v_I {C : Int → Int → Prop} [∀ i j, Decidable (C i j)] {gg : Int → Int → Int} : VOp (rI C fun i j => .int (gg i j)) tInt tInt tInt (fun i j => if C i j then some (gg i j) else none) := by
  intro x y z v u F M H Q e ⟨_, rx⟩ ⟨_, ry⟩ g q
  have e' : (if C x y then some (gg x y) else none) = some z := e
  by_cases hc : C x y
  · rw [if_pos hc] at e'
    cases e'
    exact ⟨x, y, rx, ry, hc, fl (gA := V.int) q g⟩
  · rw [if_neg hc] at e'; cases e'
instance {i j : Int} : Decidable (CMul i j) := by unfold CMul; exact inferInstance
instance {i j : Int} : Decidable (CPow i j) := by unfold CPow; exact inferInstance
variable {a b e : Expr}
theorem re_add {ma mb : SM (OT os) Int} (ha : RE X Γ os a tInt ma) (hb : RE X Γ os b tInt mb) : RE X Γ os (.BinOp a .Add b pos) tInt (SM.bind ma fun x => SM.bind mb fun y => SM.lift (some (x + y))) := re_op op_add v_I0 imF imF ha hb
theorem re_sub {ma mb : SM (OT os) Int} (ha : RE X Γ os a tInt ma) (hb : RE X Γ os b tInt mb) : RE X Γ os (.BinOp a .Sub b pos) tInt (SM.bind ma fun x => SM.bind mb fun y => SM.lift (some (x - y))) := re_op op_sub v_I0 imF imF ha hb
theorem re_mul {ma mb : SM (OT os) Int} (ha : RE X Γ os a tInt ma) (hb : RE X Γ os b tInt mb) : RE X Γ os (.BinOp a .Mult b pos) tInt (SM.bind ma fun x => SM.bind mb fun y => SM.lift (if CMul x y then some (x * y) else none)) := re_op op_mul v_I imF imF ha hb
theorem re_mod {ma mb : SM (OT os) Int} (ha : RE X Γ os a tInt ma) (hb : RE X Γ os b tInt mb) : RE X Γ os (.BinOp a .Mod b pos) tInt (SM.bind ma fun x => SM.bind mb fun y => SM.lift (if 0 < y then some (x % y) else none)) := re_op op_mod v_I imF imF ha hb
theorem re_pow {ma mb : SM (OT os) Int} (ha : RE X Γ os a tInt ma) (hb : RE X Γ os b tInt mb) : RE X Γ os (.BinOp a .Pow b pos) tInt (SM.bind ma fun x => SM.bind mb fun y => SM.lift (if CPow x y then some (x ^ y.toNat) else none)) := re_op op_pow v_I imF imF ha hb
structure Sca (A : Type) (gA : A → V) : Prop where
  sc : ∀ x y, scal (gA x) (gA y) = true
  inj : ∀ {x y}, gA x = gA y → x = y
theorem sca_int : Sca Int V.int := ⟨fun _ _ => rfl, fun h => V.int.inj h⟩
theorem sca_str : Sca (List Nat) fun l => V.str (sOf l) := ⟨fun _ _ => rfl, fun h => sOf_inj (V.str.inj h)⟩
theorem Sca.dec {A : Type} {gA : A → V} [DecidableEq A] (s : Sca A gA) (x y : A) : decide (gA x = gA y) = decide (x = y) := by
  by_cases h : x = y
  · subst h; simp
  · rw [decide_eq_false h, decide_eq_false fun q => h (s.inj q)]
theorem v_eq {A : Type} {gA : A → V} [DecidableEq A] (s : Sca A gA) : VOp rEq (flat A gA) (flat A gA) tBool (fun x y => some (decide (x = y))) := by
  intro x y z v u F M H Q e ⟨_, rx⟩ ⟨_, ry⟩ g q
  cases e
  subst rx ry
  refine ⟨s.sc x y, ?_⟩
  rw [s.dec]
  exact fl (gA := V.bl) q g
theorem v_ne {A : Type} {gA : A → V} [DecidableEq A] (s : Sca A gA) : VOp rNe (flat A gA) (flat A gA) tBool (fun x y => some (!decide (x = y))) := by
  intro x y z v u F M H Q e ⟨_, rx⟩ ⟨_, ry⟩ g q
  cases e
  subst rx ry
  refine ⟨s.sc x y, ?_⟩
  rw [s.dec]
  exact fl (gA := V.bl) q g
theorem re_eq {A : Type} {gA : A → V} [DecidableEq A] (s : Sca A gA) {ma mb : SM (OT os) A} (ha : RE X Γ os a (flat A gA) ma) (hb : RE X Γ os b (flat A gA) mb) :
    RE X Γ os (.Compare a [.Eq] [b] pos) tBool (SM.bind ma fun x => SM.bind mb fun y => SM.lift (some (decide (x = y)))) := re_cmp op_eq (v_eq s) imF imF ha hb
theorem rt_val {m : SM (OT os) Bool} (h : RE X Γ os e tBool m) (he : ∀ whole, isTrue e X.env whole = (do let v ← whole; standAt e.pos; holding [v] (truthy v)) := by intro _; rfl) : RT X Γ os e m := by
  intro σ F M R H o W Q tk c w g q
  refine ⟨_, pt_val (pe_best X e) he, h σ F M R H o W _ tk c w g (q.imp (fun x o1 z => ?_) fun _ _ z => z)⟩
  intro v F' M1 mm M' H' s1 w1 p1 g1 ⟨e1, r1⟩
  subst e1
  have e := p1.emp_l; subst e
  exact ⟨x, r1, z F' _ H' s1 w1 g1⟩
theorem rt_cmp {op : CmpOp} {r : R2} {ta tb : Ty} {f : ta.A → tb.A → Option Bool} {ma : SM (OT os) ta.A} {mb : SM (OT os) tb.A} (ho : OpR X (compareOp op) r) (hv : VOp r ta tb tBool f) (ia : Imm ta) (ib : Imm tb)
    (ha : RE X Γ os a ta ma) (hb : RE X Γ os b tb mb) (hm : behindInMarks op b = false := by first | exact nobehind _ (by decide) (by decide) | rfl) : RT X Γ os (.Compare a [op] [b] pos) (SM.bind ma fun x => SM.bind mb fun y => SM.lift (f x y)) := by
  intro σ F M R H o W Q tk c w g h
  refine ⟨_, pt_cmpR ho (pe_best X a) (pe_best X b) hm, ?_⟩
  refine two_ends ia ib ha hb tk c w g h fun x y o2 v u F2 M2 H2 h2 s2 w2 g2 r1 r2 => ?_
  unfold SM.lift at h2
  cases e : f x y with
  | none => rw [e] at h2; exact h2.elim
  | some z =>
    rw [e] at h2
    refine hv e r1 r2 g2 fun v' F' mm M' H' s' p' g' ⟨e1, r'⟩ => ?_
    subst e1
    have e := p'.emp_l; subst e
    exact ⟨z, r', h2 F' _ H' (s2.trans s') (w2.mono s') g'⟩
theorem rt_not {m : SM (OT os) Bool} (h : RT X Γ os a m) : RT X Γ os (.UnaryOp .Not a pos) (SM.bind m fun b => SM.ret (!b)) := by
  intro σ F M R H o W Q tk c w g q
  exact ⟨_, pt_not (pt_best X a), h σ F M R H o W _ tk c w g (q.bind.imp (fun x o1 z => z) fun _ _ z => z)⟩
def SM.andB {O : Type} (m n : SM O Bool) : SM O Bool := SM.bind m fun b => if b = true then n else SM.ret false
def SM.orB {O : Type} (m n : SM O Bool) : SM O Bool := SM.bind m fun b => if b = true then SM.ret true else n
variable {rest : List Expr}
theorem re_one {op : BoolOp} {t : Ty} {m : SM (OT os) t.A} (h : RE X Γ os a t m) : RE X Γ os (.BoolOp op [a] pos) t m := fun σ F M R H o W Q tk c w g q => ⟨_, pe_one (pe_best X a), h σ F M R H o W Q tk c w g q⟩
theorem re_and {m n : SM (OT os) Bool} (h : RE X Γ os a tBool m) (hb : RE X Γ os (.BoolOp .And (b :: rest) pos) tBool n) : RE X Γ os (.BoolOp .And (a :: b :: rest) pos) tBool (SM.andB m n) := by
  intro σ F M R H o W Q tk c w g q
  refine ⟨_, L2.pe_and (pe_best X a) (pe_best X _), h σ F M R H o W _ tk c w g (q.bind.imp (fun x o1 z => ?_) fun _ _ z => z)⟩
  intro v F' M1 mm M' H' s w' p' g' ⟨e1, r1⟩
  subst e1
  have e := p'.emp_l; subst e
  refine ⟨x, r1, ?_⟩
  cases x with
  | true => exact hb σ F' _ R H' o1 W Q tk (c.mono s) w' g' (z.imp (fun x o2 z => z.mono s) fun _ _ z => z.mono s)
  | false => exact end_flat (g := V.bl) (show NormE os tBool σ F R Q false o1 from z) s w' g'
def SM.ite {O A : Type} (m : SM O Bool) (n k : SM O A) : SM O A := SM.bind m fun b => if b = true then n else k
theorem re_if {c : Expr} {t : Ty} {mc : SM (OT os) Bool} {ma mb : SM (OT os) t.A} (hc : RT X Γ os c mc) (ha : RE X Γ os a t ma) (hb : RE X Γ os b t mb) : RE X Γ os (.IfExp c a b pos) t (SM.ite mc ma mb) := by
  intro σ F M R H o W Q tk cc w g q
  refine ⟨_, pe_ifExp (pt_best X c) (pe_best X a) (pe_best X b), hc σ F M R H o W _ tk cc w g (q.bind.imp (fun x o1 z => ?_) fun _ _ z => z)⟩
  intro F' M' H' s w' g'
  cases x with
  | true => exact ha σ F' M' R H' o1 W Q tk (cc.mono s) w' g' (z.imp (fun x o2 z => z.mono s) fun _ _ z => z.mono s)
  | false => exact hb σ F' M' R H' o1 W Q tk (cc.mono s) w' g' (z.imp (fun x o2 z => z.mono s) fun _ _ z => z.mono s)

theorem ra_nil : RA X Γ os [] [] (SM.ret ()) := fun σ F M R H o W Q tk c w g q => ⟨_, pa_nil, q [] F M H (.refl F) w g rfl⟩
theorem ra_cons {t : Ty} {ts : List Ty} {es : List Expr} {m : SM (OT os) t.A} {n : SM (OT os) (AT ts)} (it : Imm t) (h : RE X Γ os e t m) (hr : RA X Γ os es ts n)
    (he : starEach (e :: es) X.env = (false, eval e X.env) :: starEach es X.env := by rfl) : RA X Γ os (e :: es) (t :: ts) (SM.bind m fun x => SM.bind n fun y => SM.ret (x, y)) := by
  intro σ F M R H o W Q tk c w g q
  refine ⟨_, pa_cons (pe_best X e) (pa_best X es) he, h σ F M R H o W _ tk c w g (q.bind.imp (fun x o1 z => ?_) fun _ _ z => z)⟩
  intro v F' M1 mm M' H' s w' p' g' r
  have e := it r; subst e
  have e := p'.emp_l; subst e
  refine hr σ F' _ R H' o1 W _ tk (c.mono s) w' g' (z.bind.imp (fun y o2 z => ?_) fun _ _ z => z.mono s)
  intro us F2 M2 H2 s2 w2 g2 r2
  exact z (v :: us) F2 M2 H2 (s.trans s2) w2 g2 ⟨v, us, rfl, t.mono r s2, r2⟩

def VCall (r : List V → Hp → VK → Prop) (ts : List Ty) (tc : Ty) (f : AT ts → Option tc.A) : Prop := ∀ {x z vs F M H} {Q : VK}, f x = some z → ArgsOk ts x vs F → Good F M H →
  (∀ v' F' mm M' H', Sub F F' → Sep mm M M' → Good F' M' H' → tc.rep z v' F' mm → Q v' H') → r vs H Q
theorem args_end {es : List Expr} {ts : List Ty} {m : SM (OT os) (AT ts)} {C : Type} {mk : AT ts → SM (OT os) C} {R1 : List V → Hp → Prop} {N : C → OT os → Prop} {σ : L2.St} {F M R H : Hp} {o : OT os} {W : WX}
    (ha : RA X Γ os es ts m) (tk : Takes X W) (c : CtxOk Γ σ F) (w : OwnOk os o σ F M R) (g : Good F M H)
    (h : Want ((SM.bind m fun x => mk x) o) N (ExcE X os σ F R W))
    (fin : ∀ x o2 vs F2 M2 H2, Want (mk x o2) N (ExcE X os σ F R W) → Sub F F2 → OwnOk os o2 σ F2 M2 R → Good F2 M2 H2 → ArgsOk ts x vs F2 → R1 vs H2) :
    bestA X es σ H R1 :=
  ha σ F M R H o W _ tk c w g (h.bind.imp (fun x o1 h1 vs F' M' H' s w' g' r => fin x o1 vs F' M' H' h1 s w' g' r) fun _ _ z => z)
theorem re_callB {nm : Str} {id : String} {r : List V → Hp → VK → Prop} {ts : List Ty} {tc : Ty} {f : AT ts → Option tc.A} {es : List Expr} {m : SM (OT os) (AT ts)} (hc : CallR X (.builtin id) r) (hv : VCall r ts tc f)
    (hg : Gl X nm) (hm : X.mg nm = none) (hb : bootBuiltins nm = some (.builtin id)) (ha : RA X Γ os (e :: es) ts m) (hn : nm ≠ "__name__" := by decide) (hdb : (nm == ("__debug__" : Str)) = false := by decide)
    (he : starEach (e :: es) X.env = (false, eval e X.env) :: starEach es X.env := by rfl) (hpl : (backTo pos (starEach es X.env)).any (·.1) = false := by rfl) :
    RE X Γ os (.Call (.Name nm p) (e :: es) [] pos) tc (SM.bind m fun x => SM.lift (f x)) := by
  intro σ F M R H o W Q tk c w g h
  refine ⟨_, pe_callB hc hg hm hb (pa_best X (e :: es)) hn hdb he hpl, ?_⟩
  exact args_end ha tk c w g h fun x o2 vs F2 M2 H2 h2 s2 w2 g2 r2 => lift_fin h2 s2 w2 fun z ez q => hv ez r2 g2 q
theorem re_bm {name : Str} {T id : String} {r : V → List V → Hp → VK → Prop} {to : Ty} {ts : List Ty} {tc : Ty} {f : to.A → AT ts → Option tc.A} {ob : Expr} {es : List Expr} {mo : SM (OT os) to.A} {m : SM (OT os) (AT ts)}
    (pa : PlainAttrs T) (slot : Slot T name id) (hty : typeOf (.builtin id) = pure (.type "method_descriptor")) (hm : MtR X id r)
    (ht : ∀ {x v F M H}, to.rep x v F emp → Good F M H → tyV X.K T v H)
    (hv : ∀ {x y z v vs F M H} {Q : VK}, f x y = some z → to.rep x v F emp → ArgsOk ts y vs F → Good F M H → (∀ v' F' mm M' H', Sub F F' → Sep mm M M' → Good F' M' H' → tc.rep z v' F' mm → Q v' H') → r v vs H Q)
    (io : Imm to) (ho : RE X Γ os ob to mo) (ha : RA X Γ os (e :: es) ts m)
    (hbase : attributeBase ob name X.env (eval ob X.env) = eval ob X.env := by rfl) (hline : (apos.endLine == pos.line) = true := by rfl)
    (he : starEach (e :: es) X.env = (false, eval e X.env) :: starEach es X.env := by rfl) (hpl : (backTo pos (starEach es X.env)).any (·.1) = false := by rfl)
    (hfew : ((backTo pos (starEach (e :: es) X.env)).all (fun x => !x.1) && (backToKw pos (keywordEach [] X.env)).all (fun x => x.1.isSome)
      && decide ((e :: es).length + ([] : List Keyword).length + (if ([] : List Keyword).isEmpty then 0 else 1) < 30)) = true := by rfl) :
    RE X Γ os (.Call (.Attribute ob name apos) (e :: es) [] pos) tc (SM.bind mo fun x => SM.bind m fun y => SM.lift (f x y)) := by
  intro σ F M R H o W Q tk c w g h
  refine ⟨_, pe_bm pa slot hty hm (pe_best X ob) (pa_best X (e :: es)) hbase hfew hline he hpl, ?_⟩
  refine one_end io ho tk c w g h fun x o2 v F2 M2 H2 h2 s2 w2 g2 r1 => ⟨ht r1 g2, ?_⟩
  refine args_end ha tk (c.mono s2) w2 g2 (h2.imp (fun _ _ z => NormE.mono z s2) fun _ _ z => z.mono s2) fun y o3 vs F3 M3 H3 h3 s3 w3 g3 r3 => lift_fin h3 s3 w3 fun z ez q => hv ez (to.mono r1 s3) r3 g3 q
end
end Mi

namespace Mi
open PySem PySem.Spec PyProof.Rows L2

section
variable {X : Cx} {G : FX} {L : LC} {β : Type} {Γn : β → Ctx} {osn : Os}
def RB (X : Cx) (G : FX) (L : LC) (Γ : Ctx) (os : Os) (sts : List Stmt) {β : Type} (Γn : β → Ctx) (osn : Os) (m : OT os → OutT G L β osn) : Prop :=
  ∀ (σ : L2.St) (F M R H : Hp) (o : OT os) (W : WX) (D : Ends), Takes X W → CtxOk Γ σ F → OwnOk os o σ F M R → Good F M H → WantS X G L Γn osn σ F R W D (m o) → bestB X sts D σ H
def RS (X : Cx) (G : FX) (L : LC) (Γ : Ctx) (os : Os) (st : Stmt) {β : Type} (Γn : β → Ctx) (osn : Os) (m : OT os → OutT G L β osn) : Prop :=
  ∀ (σ : L2.St) (F M R H : Hp) (o : OT os) (W : WX) (D : Ends), Takes X W → CtxOk Γ σ F → OwnOk os o σ F M R → Good F M H → WantS X G L Γn osn σ F R W D (m o) → bestS X st D σ H

variable {Γ : Ctx} {os : Os} {st : Stmt} {rest : List Stmt} {pos p p2 : Pos} {e : Expr} {t : Ty} {N : List Str} {sc : Scope} {B : List Str} {k : Nat}
theorem rb_nil (b : β) (hle : CtxLe (Γn b) Γ) (h : OSub os osn) : RB X G L Γ os [] Γn osn (fun o => some (.nxt (b, h.map o))) := by
  intro σ F M R H o W D tk c w g q
  obtain ⟨M0, s0, w0⟩ := h.own w
  exact ⟨_, pss_nil, q σ F M0 H (.refl F) .refl (c.le hle) w0 (g.less s0)⟩
theorem rb_cons {γ : Type} {Γm : γ → Ctx} {om : Os} {m1 : OT os → OutT G L γ om} {m2 : γ → OT om → OutT G L β osn} (h1 : RS X G L Γ os st Γm om m1) (h2 : ∀ b, RB X G L (Γm b) om rest Γn osn (m2 b)) :
    RB X G L Γ os (st :: rest) Γn osn (fun o => Out.bind (m1 o) m2) := by
  intro σ F M R H o W D tk c w g q
  refine ⟨_, pss_cons (ps_best X st) (pss_best X rest), ?_⟩
  refine h1 σ F M R H o W { D with nx := bestB X rest D } tk c w g ?_
  have q' : WantS X G L Γn osn σ F R W D (Out.bind (m1 o) m2) := q
  cases z : m1 o with
  | none => rw [z] at q'; exact q'
  | some r =>
    rw [z] at q'
    cases r with
    | nxt n => exact fun σ' F' M' H' s k' c' w' g' => h2 n.1 σ' F' M' R H' n.2 W D tk c' w' g' (q'.mono s k')
    | brk n => exact q'
    | cnt n => exact q'
    | ret x p => exact q'
    | exc e p => exact q'
theorem rb_one {m : OT os → OutT G L β osn} (h : RS X G L Γ os st Γn osn m) : RB X G L Γ os [st] Γn osn m := fun σ F M R H o W D tk c w g q => ⟨_, pss_one (ps_best X st), h σ F M R H o W D tk c w g q⟩
def bindX {A : Type} {G : FX} {L : LC} {β : Type} {os osn : Os} (h : OSub os G.ps) (r : Option (Except Exn A × OT os)) (k : A → OT os → OutT G L β osn) : OutT G L β osn := match r with
  | none => none
  | some (.ok x, o) => k x o
  | some (.error e, o) => some (.exc e (h.map o))
theorem WantS.bindX {A : Type} {h : OSub os G.ps} {r : Option (Except Exn A × OT os)} {kk : A → OT os → OutT G L β osn} {σ : L2.St} {F R : Hp} {W : WX} {D : Ends} (q : WantS X G L Γn osn σ F R W D (bindX h r kk)) :
    Want r (fun x o => WantS X G L Γn osn σ F R W D (kk x o)) (ExcE X os σ F R W) := by
  cases r with
  | none => exact q
  | some r =>
    obtain ⟨r, o⟩ := r
    cases r with
    | ok x => exact q
    | error e =>
      intro cls d F' M' H' s w g x
      obtain ⟨M0, s0, w0⟩ := h.own w
      exact q cls d σ F' M0 H' s .refl w0 (g.less s0) x
theorem keep_set {kp : List Nat} {i : Nat} {σ : L2.St} {w : Option V} (h : kp.all (· != i) = true) : Keep kp σ (σ.set i w) := ⟨by simp, fun j hj => by
  have z := List.all_eq_true.mp h j hj
  have z' : j ≠ i := by simpa using z
  rw [List.getElem?_set_ne (Ne.symm z')]⟩
theorem rb_asg (xo : XOk X N sc B k) (hS : OSub os G.ps) (i j : Nat) {nm : Str} {kd : NameKind} {me : SM (OT os) t.A} {kk : t.A → OT os → OutT G L β osn} (it : Imm t) (he : RE X Γ os e t me)
    (hk : ∀ x, RB X G L (Γ.set i (some ⟨t, x⟩)) os rest Γn osn (kk x))
    (hj : sc.names[j]? = some (nm, kd) := by rfl) (hkd : locK kd = true := by rfl) (hN : N[i]? = some nm := by rfl) (hf : noSlot i os = true := by rfl) (hkp : G.kp.all (· != i) = true := by rfl)
    (hs : swapsWith e (some (.Name nm p)) pos.line X.env = pure false := by rfl) : RB X G L Γ os (.Assign [.Name nm p] e pos :: rest) Γn osn (fun o => bindX hS (me o) kk) := by
  intro σ F M R H o W D tk c w g q
  obtain ⟨l1, l2⟩ := xo.lc j nm kd hj hkd
  refine ⟨_, pss_cons (ps_set (i := i) xo.nd (by rw [xo.nN]; exact hN) l1 (pe_best X e) hs l2) (pss_best X rest), ?_⟩
  refine he σ F M R H o W _ tk c w g (q.bindX.imp (fun x o1 z => ?_) fun _ _ z => z)
  intro v F' M1 mm M' H' s' w' p' g' r'
  have e := it r'; subst e
  have e := p'.emp_l; subst e
  exact hk x (σ.set i (some v)) F' _ R H' o1 W D tk ((c.mono s').set r') (w'.set hf) g' (z.mono s' (keep_set hkp))
theorem rb_asgO (xo : XOk X N sc B k) (hS : OSub os G.ps) (i j : Nat) {nm : Str} {kd : NameKind} {me : SM (OT os) t.A} {kk : OT ((i, t) :: os) → OutT G L β osn} (he : RE X Γ os e t me)
    (hk : RB X G L (Γ.set i none) ((i, t) :: os) rest Γn osn kk)
    (hlt : Nat.ble (i + 1) Γ.length = true := by rfl)
    (hj : sc.names[j]? = some (nm, kd) := by rfl) (hkd : locK kd = true := by rfl) (hN : N[i]? = some nm := by rfl) (hf : noSlot i os = true := by rfl) (hkp : G.kp.all (· != i) = true := by rfl)
    (hs : swapsWith e (some (.Name nm p)) pos.line X.env = pure false := by rfl) : RB X G L Γ os (.Assign [.Name nm p] e pos :: rest) Γn osn (fun o => bindX hS (me o) fun x o => kk (x, o)) := by
  intro σ F M R H o W D tk c w g q
  obtain ⟨l1, l2⟩ := xo.lc j nm kd hj hkd
  refine ⟨_, pss_cons (ps_set (i := i) xo.nd (by rw [xo.nN]; exact hN) l1 (pe_best X e) hs l2) (pss_best X rest), ?_⟩
  refine he σ F M R H o W _ tk c w g (q.bindX.imp (fun x o1 z => ?_) fun _ _ z => z)
  intro v F' M1 mm M' H' s' w' p' g' r'
  exact hk (σ.set i (some v)) F' M' R H' (x, o1) W D tk ((c.mono s').out) ⟨v, mm, M1, List.getElem?_set_self (by rw [← c.1]; exact Nat.le_of_ble_eq_true hlt), r', p', w'.set hf⟩ g' (z.mono s' (keep_set hkp))
theorem rb_expr (hS : OSub os G.ps) {me : SM (OT os) t.A} {kk : OT os → OutT G L β osn} (he : RE X Γ os e t me) (hk : RB X G L Γ os rest Γn osn kk) (hs : swapsWith e none pos.line X.env = pure false := by rfl) :
    RB X G L Γ os (.Expr e pos :: rest) Γn osn (fun o => bindX hS (me o) fun _ o => kk o) := by
  intro σ F M R H o W D tk c w g q
  refine ⟨_, pss_cons (ps_expr (pe_best X e) hs) (pss_best X rest), ?_⟩
  refine he σ F M R H o W _ tk c w g (q.bindX.imp (fun x o1 z => ?_) fun _ _ z => z)
  intro v F' M1 mm M' H' s' w' p' g' r'
  exact hk σ F' M1 R H' o1 W D tk (c.mono s') w' (g'.less p'.r) (z.mono s' .refl)
theorem rs_ret (hS : OSub os G.ps) {me : SM (OT os) G.tr.A} (he : RE X Γ os e G.tr me) : RS X G L Γ os (.Return (some e) pos) Γn osn (fun o => bindX hS (me o) fun x o => some (.ret x (hS.map o))) := by
  intro σ F M R H o W D tk c w g q
  refine ⟨_, ps_ret (pe_best X e), ?_⟩
  refine he σ F M R H o W _ tk c w g (q.bindX.imp (fun x o1 z => ?_) fun _ _ z => z)
  intro v F' M1 mm M' H' s' w' p' g' r'
  obtain ⟨M0, s0, w0⟩ := hS.own w'
  refine z v σ F' M0 mm (uni mm M0) H' s' .refl w0 ⟨fun a => ?_, rfl⟩ (g'.less fun a u h => ?_) r'
  · exact (p'.dis a).imp id fun y => s0.none y
  · cases y : mm a with
    | some u' => rw [uni_l y] at h; exact p'.l a u (by rw [y]; exact h)
    | none => rw [uni_r y] at h; exact p'.r a u (s0 a u h)
theorem rs_if (hS : OSub os G.ps) {c : Expr} {sa sb : List Stmt} {mc : SM (OT os) Bool} {ma mb : OT os → OutT G L β osn} (hc : RT X Γ os c mc) (ha : RB X G L Γ os sa Γn osn ma) (hb : RB X G L Γ os sb Γn osn mb) :
    RS X G L Γ os (.If c sa sb pos) Γn osn (fun o => bindX hS (mc o) fun b o => if b = true then ma o else mb o) := by
  intro σ F M R H o W D tk cc w g q
  refine ⟨_, ps_if (pt_best X c) (pss_best X sa) (pss_best X sb), ?_⟩
  refine hc σ F M R H o W _ tk cc w g (q.bindX.imp (fun x o1 z => ?_) fun _ _ z => z)
  intro F' M' H' s' w' g'
  cases x with
  | true => exact ha σ F' M' R H' o1 W D tk (cc.mono s') w' g' (WantS.mono z s' .refl)
  | false => exact hb σ F' M' R H' o1 W D tk (cc.mono s') w' g' (WantS.mono z s' .refl)
def Out.turn {β : Type} {G : FX} {L : LC} {os : Os} (r : Option (Out (β × OT os) (β × OT os) G.tr.A (OT G.ps))) (k : β → OT os → OutT G L β os) : OutT G L β os := match r with
  | none => none
  | some (.nxt z) => k z.1 z.2
  | some (.cnt z) => k z.1 z.2
  | some (.brk z) => some (.nxt z)
  | some (.ret x p) => some (.ret x p)
  | some (.exc e p) => some (.exc e p)
def Yld (J : It) (t : Ty) (xs : List t.A) (F : Hp) : Prop := ∀ F' M H, Sub F F' → Good F' M H → ∀ i, (xs.length ≤ i → J.stop i H) ∧
  ∀ x, xs[i]? = some x → J.go i H ∧ ∀ v H', J.yld i H v H' → ∃ F2, Sub F' F2 ∧ Good F2 M H' ∧ t.rep x v F2 emp
def bestI (X : Cx) (tg iter : Expr) : TI := fun σ H R => ∃ w, PI X tg iter w ∧ w σ H R
theorem pi_best (X : Cx) (tg iter : Expr) : PI X tg iter (bestI X tg iter) := ⟨fun pins s σ H R I ⟨_, p, h⟩ => p.run pins s σ H R I h⟩
def NormI (os : Os) (t : Ty) (σ : L2.St) (F R : Hp) (K : It → Hp → Prop) (xs : List t.A) (o : OT os) : Prop :=
  ∀ J F' M' H', Sub F F' → OwnOk os o σ F' M' R → Good F' M' H' → Yld J t xs F' → K J H'
def RI (X : Cx) (Γ : Ctx) (os : Os) (tg iter : Expr) (t : Ty) (m : SM (OT os) (List t.A)) : Prop :=
  ∀ (σ : L2.St) (F M R H : Hp) (o : OT os) (W : WX) (K : It → Hp → Prop), Takes X W → CtxOk Γ σ F → OwnOk os o σ F M R → Good F M H →
    Want (m o) (NormI os t σ F R K) (ExcE X os σ F R W) → bestI X tg iter σ H K
def RG (X : Cx) (kp : List Nat) (Γ : Ctx) (os : Os) (tg : Expr) (t : Ty) (Γx : t.A → Ctx) : Prop :=
  ∃ g, PG X tg g ∧ ∀ (σ : L2.St) (F M R H : Hp) (o : OT os) (x : t.A) (v : V) (K : L2.St → Hp → Prop), CtxOk Γ σ F → OwnOk os o σ F M R → Good F M H → t.rep x v F emp →
    (∀ σ', Keep kp σ σ' → CtxOk (Γx x) σ' F → OwnOk os o σ' F M R → K σ' H) → g v σ H K
theorem rg_name (xo : XOk X N sc B k) (i j : Nat) {kp : List Nat} {nm : Str} {kd : NameKind} (hj : sc.names[j]? = some (nm, kd) := by rfl) (hkd : locK kd = true := by rfl) (hN : N[i]? = some nm := by rfl) (hf : noSlot i os = true := by rfl) (hkp : kp.all (· != i) = true := by rfl) :
    RG X kp Γ os (.Name nm p) t (fun x => Γ.set i (some ⟨t, x⟩)) := by
  obtain ⟨l1, l2⟩ := xo.lc j nm kd hj hkd
  refine ⟨_, pg_name (i := i) xo.nd (by rw [xo.nN]; exact hN) l1 l2, fun σ F M R H o x v K c w g r h => ?_⟩
  exact h _ (keep_set hkp) (c.set r) (w.set hf)
def forS {α β : Type} {G : FX} {L : LC} {os : Os} (body : α → β → OT os → Option (Out (β × OT os) (β × OT os) G.tr.A (OT G.ps))) : List α → β → OT os → OutT G L β os
  | [], b, o => some (.nxt (b, o))
  | x :: xs, b, o => Out.turn (body x b o) (forS body xs)
theorem rs_for (hS : OSub os G.ps) (hp : PassesOwn (model X.prog X.w) X.A X.env X.xe) (hc : X.calm = true) {tg iter : Expr} {body : List Stmt} {ΓL : β → Ctx} {b0 : β} {mi : SM (OT os) (List t.A)} {Γx : β → t.A → Ctx}
    {mb : t.A → β → OT os → Option (Out (β × OT os) (β × OT os) G.tr.A (OT G.ps))}
    (hle : CtxLe (ΓL b0) Γ) (hi : RI X Γ os tg iter t mi) (hg : ∀ b, RG X G.kp (ΓL b) os tg t (Γx b)) (hb : ∀ x b, RB X G ⟨β, ΓL, os⟩ (Γx b x) os body ΓL os (mb x b))
    (hs : ∀ x, foldedSetIterable iter X.env x = pure x := by intro _; rfl) :
    RS X G L Γ os (.For tg iter body [] pos) ΓL os (fun o => bindX hS (mi o) fun xs o => forS mb xs b0 o) := by
  intro σ F M R H o W D tk cc w g q
  -- one target for every turn
  let gg : TG := fun v σ H K => ∃ g', PG X tg g' ∧ g' v σ H K
  have hgg : PG X tg gg := ⟨fun pins s σ H v u Q I r ⟨_, p, h⟩ => p.run pins s σ H v u Q I r h⟩
  refine ⟨_, ps_for hp hc (pi_best X tg iter) hgg (pss_best X body) hs, ?_⟩
  refine hi σ F M R H o W _ tk cc w g (q.bindX.imp (fun xs o1 z => ?_) fun _ _ z => z)
  intro J F1 M1 H1 s1 w1 g1 y1
  refine ⟨fun i m σ' H' => m = xs.length - i ∧ i ≤ xs.length ∧ ∃ b o' F' M', Sub F1 F' ∧ Keep G.kp σ σ' ∧ CtxOk (ΓL b) σ' F' ∧ OwnOk os o' σ' F' M' R ∧ Good F' M' H' ∧ WantS X G L ΓL os σ' F' R W D (forS mb (xs.drop i) b o'),
    ⟨_, rfl, Nat.zero_le _, b0, o1, F1, M1, .refl F1, .refl, (cc.mono s1).le hle, w1, g1, WantS.mono z s1 .refl⟩, ?_⟩
  rintro i m σ2 H2 ⟨rfl, hi2, b, o2, F2, M2, s2, k2, c2, w2, g2, q2⟩
  obtain ⟨st, go⟩ := y1 F2 M2 H2 s2 g2 i
  by_cases hlt : i < xs.length
  · have hx : xs[i]? = some xs[i] := List.getElem?_eq_getElem hlt
    obtain ⟨go1, go2⟩ := go xs[i] hx
    refine .inr ⟨go1, fun σ' H' => i + 1 ≤ xs.length ∧ ∃ b o' F' M', Sub F1 F' ∧ Keep G.kp σ σ' ∧ CtxOk (ΓL b) σ' F' ∧ OwnOk os o' σ' F' M' R ∧ Good F' M' H' ∧ WantS X G L ΓL os σ' F' R W D (forS mb (xs.drop (i + 1)) b o'),
      fun σ' H' h => ⟨xs.length - (i + 1), by omega, rfl, h.1, h.2⟩, fun v H3 hy => ?_⟩
    obtain ⟨F3, s3, g3, r3⟩ := go2 v H3 hy
    obtain ⟨g', pg, hg'⟩ := hg b
    refine ⟨g', pg, hg' σ2 F3 M2 R H3 o2 xs[i] v _ (c2.mono s3) (w2.mono s3) g3 r3 fun σ4 k4 c4 w4 => ?_⟩
    rw [List.drop_eq_getElem_cons hlt] at q2
    refine hb xs[i] b σ4 F3 M2 R H3 o2 W _ tk c4 w4 g3 ?_
    have q2' : WantS X G L ΓL os σ2 F2 R W D (Out.turn (mb xs[i] b o2) (forS mb (xs.drop (i + 1)))) := q2
    cases u : mb xs[i] b o2 with
    | none => rw [u] at q2'; exact q2'
    | some r =>
      rw [u] at q2'
      cases r with
      | nxt n => exact fun σ' F' M' H' s k' c' w' g' => ⟨hlt, n.1, n.2, F', M', (s2.trans s3).trans s, (k2.trans k4).trans k', c', w', g', WantS.mono q2' (s3.trans s) (k4.trans k')⟩
      | cnt n => exact fun σ' F' M' H' s k' c' w' g' => ⟨hlt, n.1, n.2, F', M', (s2.trans s3).trans s, (k2.trans k4).trans k', c', w', g', WantS.mono q2' (s3.trans s) (k4.trans k')⟩
      | brk n => exact NxtS.mono (show NxtS G ΓL os σ2 F2 R D.nx n from q2') s3 k4
      | ret x p => exact fun v σ' F' M1 mm M' H' s' k' => q2' v σ' F' M1 mm M' H' (s3.trans s') (k4.trans k')
      | exc e p => exact fun cls d σ' F' M' H' s' k' => q2' cls d σ' F' M' H' (s3.trans s') (k4.trans k')
  · have e : i = xs.length := by omega
    subst e
    rw [List.drop_length] at q2
    exact .inl ⟨st (Nat.le_refl _), (show NxtS G ΓL os σ2 F2 R D.nx (b, o2) from q2) σ2 F2 M2 H2 (.refl F2) .refl c2 w2 g2⟩
end
end Mi

namespace Mi
open PySem PySem.Spec PyProof.Rows L2

structure Md where
  P : Program
  w : World
  K : PySem.W.Frag
  mg : Str → Option Value
  base : Heap
def _root_.L2.Cx.md (X : Cx) : Md := ⟨X.prog, X.w, X.K, X.mg, X.base⟩
structure XS (X : Cx) : Prop where
  own : PassesOwn (model X.prog X.w) X.A X.env X.xe
  hs : X.stack = X.env :: X.outer
  hf : X.env.frame = some X.env.locals
def spP (mg : Str → Option Value) (ts : List Ty) (tr : Ty) (fn : AT ts → Option (Except Exn tr.A)) : Sp := fun vs H Q E => ∃ x F R, ArgsOk ts x vs F ∧ Good F R H ∧
  (match fn x with
  | none => False
  | some (.ok y) => ∀ v F' mm M' H', Sub F F' → Sep mm R M' → Good F' M' H' → tr.rep y v F' mm → Q v H'
  | some (.error ex) => ∀ cls d F' H', Sub F F' → Good F' R H' → ExnOk mg ex cls d F' → E cls d H')
def spO (mg : Str → Option Value) (t0 : Ty) (ts : List Ty) (tr : Ty) (fn : t0.A → AT ts → Option (Except Exn tr.A × t0.A)) : Sp := fun vs H Q E => ∃ v0 us y0 x F m0 R M, vs = v0 :: us ∧ t0.rep y0 v0 F m0 ∧ Sep m0 R M ∧ ArgsOk ts x us F ∧ Good F M H ∧
  (match fn y0 x with
  | none => False
  | some (.ok y, z) => ∀ v F' m' M1 mm M' H', Sub F F' → t0.rep z v0 F' m' → Sep m' R M1 → Sep mm M1 M' → Good F' M' H' → tr.rep y v F' mm → Q v H'
  | some (.error ex, z) => ∀ cls d F' m' M1 H', Sub F F' → t0.rep z v0 F' m' → Sep m' R M1 → Good F' M1 H' → ExnOk mg ex cls d F' → E cls d H')
structure LkF (M : Md) (nm : Str) (ps : List Str) (sp : Sp) (j : Nat) (f : Addr) (fd : FuncData) : Prop where
  mg : M.mg nm = some (.ref f)
  kp : PySem.W.keepIn M.K (.ref f) = true
  bd : Binds M.K fd ps []
  ok : FnOk M.P M.w M.K M.mg M.base (L2.CX M.P M.w) j f fd ps sp
def LkP (M : Md) (nm : Str) (ps : List Str) (ts : List Ty) (tr : Ty) (fn : AT ts → Option (Except Exn tr.A)) (j : Nat) : Prop := ∃ f fd, LkF M nm ps (spP M.mg ts tr fn) j f fd
def LkO (M : Md) (nm : Str) (ps : List Str) (t0 : Ty) (ts : List Ty) (tr : Ty) (fn : t0.A → AT ts → Option (Except Exn tr.A × t0.A)) (j : Nat) : Prop := ∃ f fd, LkF M nm ps (spO M.mg t0 ts tr fn) j f fd
section
variable {X : Cx} {N : List Str} {sc : Scope} {B : List Str} {k : Nat} {Γ : Ctx} {os : Os} {pos p : Pos} {e : Expr} {es : List Expr}
theorem re_call (xo : XOk X N sc B k) {nm : Str} {ps : List Str} {ts : List Ty} {tr : Ty} {fn : AT ts → Option (Except Exn tr.A)} {j : Nat} {m : SM (OT os) (AT ts)} (l : LkP X.md nm ps ts tr fn j) (g : Nat)
    (ha : RA X Γ os (e :: es) ts m) (hg : sc.names[g]? = some (nm, .globalImplicit) := by rfl) (hj : j ≤ k := by decide)
    (he : starEach (e :: es) X.env = (false, eval e X.env) :: starEach es X.env := by rfl) (hpl : (backTo pos (starEach es X.env)).any (·.1) = false := by rfl) :
    RE X Γ os (.Call (.Name nm p) (e :: es) [] pos) tr (SM.bind m fun x => SM.lifx (fn x)) := by
  obtain ⟨f, fd, lf⟩ := l
  intro σ F M R H o W Q tk c w gd h
  refine ⟨_, pe_callSD (E := WE W) (F := lf.ok) (xo.room.mono hj) (xo.gl g nm hg) lf.mg lf.kp lf.bd .nil (fun σ => passAt tk σ) (pa_best X (e :: es)) (xo.db g nm _ hg).1 he hpl, ?_⟩
  refine args_end ha tk c w gd h fun x o2 vs F2 M2 H2 h2 s2 w2 g2 r2 => ?_
  refine ⟨x, F2, M2, by rw [List.append_nil]; exact r2, g2, ?_⟩
  unfold SM.lifx at h2
  cases z : fn x with
  | none => rw [z] at h2; exact h2
  | some r =>
    rw [z] at h2
    cases r with
    | ok y => exact fun v F' mm M' H' s' p' g' r' => (show NormE os tr σ F R Q y o2 from h2) v F' M2 mm M' H' (s2.trans s') (w2.mono s') p' g' r'
    | error ex => exact fun cls d F' H' s' g' x' => (show ExcE X os σ F R W ex o2 from h2) cls d F' M2 H' (s2.trans s') (w2.mono s') g' x'
def SM.callO {os : Os} {i : Nat} {t0 : Ty} {A B : Type} (hm : OMem os i t0) (fn : t0.A → A → Option (Except Exn B × t0.A)) (x : A) : SM (OT os) B := fun o => match fn (hm.get o) x with
  | none => none
  | some (r, z) => some (r, hm.set z o)
theorem re_callO (xo : XOk X N sc B k) {nm nb : Str} {ps : List Str} {t0 : Ty} {ts : List Ty} {tr : Ty} {fn : t0.A → AT ts → Option (Except Exn tr.A × t0.A)} {j i jb : Nat} {kd : NameKind} {pb : Pos} {m : SM (OT os) (AT ts)} (l : LkO X.md nm ps t0 ts tr fn j) (g : Nat)
    (hm : OMem os i t0) (ib : Nat) (ha : RA X Γ os es ts m) (hib : ib = jb := by rfl)
    (hjb : sc.names[jb]? = some (nb, kd) := by rfl) (hkb : visK kd = true := by rfl) (hN : N[i]? = some nb := by rfl)
    (hg : sc.names[g]? = some (nm, .globalImplicit) := by rfl) (hj : j ≤ k := by decide)
    (he : starEach (.Name nb pb :: es) X.env = (false, eval (.Name nb pb) X.env) :: starEach es X.env := by rfl) (hpl : (backTo pos (starEach es X.env)).any (·.1) = false := by rfl) :
    RE X Γ os (.Call (.Name nm p) (.Name nb pb :: es) [] pos) tr (SM.bind m fun x => SM.callO hm fn x) := by
  obtain ⟨f, fd, lf⟩ := l
  intro σ F M R H o W Q tk c w gd h
  refine ⟨_, pe_callSD (E := WE W) (F := lf.ok) (xo.room.mono hj) (xo.gl g nm hg) lf.mg lf.kp lf.bd .nil (fun σ => passAt tk σ) (pa_cons (pe_var (by rw [xo.nN]; exact hN) (xo.vs jb nb kd hjb hkb) (xo.db jb nb kd hjb).1 (xo.db jb nb kd hjb).2.1) (pa_best X es) he) (xo.db g nm _ hg).1 he hpl, ?_⟩
  obtain ⟨v0, m0, M0, e0, r0, s0, _⟩ := hm.at w
  refine ⟨v0, e0, ?_⟩
  refine args_end ha tk c w gd h fun x o2 vs F2 M2 H2 h2 s2 w2 g2 r2 => ?_
  obtain ⟨v1, m1, M1, e1, r1, s1, up⟩ := hm.at w2
  rw [e0] at e1
  cases e1
  refine ⟨v0, vs, hm.get o2, x, F2, m1, M1, M2, by rw [List.append_nil], r1, s1, r2, g2, ?_⟩
  have h3 := h2
  unfold SM.callO at h3
  cases z : fn (hm.get o2) x with
  | none => rw [z] at h3; exact h3
  | some r =>
    obtain ⟨r, y0⟩ := r
    rw [z] at h3
    cases r with
    | ok y => exact fun v F' m' M3 mm M' H' s' q' p1 p2 g' r' => (show NormE os tr σ F R Q y (hm.set y0 o2) from h3) v F' M3 mm M' H' (s2.trans s') (up y0 m' M3 F' s' q' p1) p2 g' r'
    | error ex => exact fun cls d F' m' M3 H' s' q' p1 g' x' => (show ExcE X os σ F R W ex (hm.set y0 o2) from h3) cls d F' M3 H' (s2.trans s') (up y0 m' M3 F' s' q' p1) g' x'
end

def argCtx : (ts : List Ty) → AT ts → Ctx
  | [], _ => []
  | t :: r, x => some ⟨t, x.1⟩ :: argCtx r x.2
theorem ctx_args : ∀ {ts : List Ty} {x : AT ts} {vs : List V} {F : Hp} {n : Nat}, ArgsOk ts x vs F → CtxOk (argCtx ts x ++ List.replicate n none) (vs.map some ++ List.replicate n none) F
  | [], _, vs, F, n, h => by
    have h' : vs = [] := h
    subst h'
    refine ⟨by simp [argCtx], fun i t y e => ?_⟩
    have e' : (List.replicate n (none : Option ((t : Ty) × t.A)))[i]? = some (some ⟨t, y⟩) := e
    rw [List.getElem?_replicate] at e'
    split at e' <;> cases e'
  | t :: r, x, vs, F, n, ⟨v, us, e, q, k⟩ => by
    subst e
    have ih := ctx_args (n := n) k
    refine ⟨by have z := ih.1; simp only [argCtx, List.map_cons, List.cons_append, List.length_cons]; rw [z], fun i u y e => ?_⟩
    cases i with
    | zero =>
      have e' : some (some (⟨t, x.1⟩ : (t : Ty) × t.A)) = some (some ⟨u, y⟩) := e
      obtain ⟨rfl, e2⟩ := Sigma.mk.inj (Option.some.inj (Option.some.inj e'))
      cases e2
      exact ⟨v, rfl, q⟩
    | succ i => exact ih.2 i u y e
def runZ {G : FX} {L : LC} {β : Type} {osn : Os} (z : Option G.tr.A) (r : OutT G L β osn) : Option (Except Exn G.tr.A) := match r with
  | some (.ret x _) => some (.ok x)
  | some (.exc e _) => some (.error e)
  | some (.nxt _) => z.map .ok
  | _ => none
def runO {t0 tr : Ty} {i : Nat} {kp : List Nat} {L : LC} {β : Type} {osn : Os} (r : OutT ⟨kp, [(i, t0)], tr⟩ L β osn) : Option (Except Exn tr.A × t0.A) := match r with
  | some (.ret x p) => some (.ok x, p.1)
  | some (.exc e p) => some (.error e, p.1)
  | _ => none
def dropAll : (a : Os) → OSub a []
  | [] => .nil
  | _ :: r => .skip (dropAll r)
def fnScB (N ps : List Str) (sc : Scope) : Bool := decide (sc.kind = .function) && (!sc.isCoroutine && (!sc.isGenerator && (decide N.Nodup && (decide (N.take ps.length = ps) && ((ps.all fun x => match sc.names.lookup x with
  | some .local => true | some .cell => true | _ => false) && ((sc.names.all fun y => decide (y.2 ≠ .free)) && ((sc.names.all fun y => decide (sc.names.lookup y.1 = some y.2)) && sc.names.all fun y => (!(y.1 == ("__debug__" : Str)) && (!(y.1 == ("__classdict__" : Str)) && decide (y.1 ≠ "__name__"))))))))))
theorem fnScB_ok {N ps : List Str} {sc : Scope} (h : fnScB N ps sc = true) : FnScope N ps sc ∧ (∀ y ∈ sc.names, sc.names.lookup y.1 = some y.2) ∧ ∀ y ∈ sc.names, (y.1 == ("__debug__" : Str)) = false ∧ (y.1 == ("__classdict__" : Str)) = false ∧ y.1 ≠ "__name__" := by
  unfold fnScB at h
  simp only [Bool.and_eq_true, decide_eq_true_eq, Bool.not_eq_true', List.all_eq_true] at h
  obtain ⟨h1, h2, h3, h4, h5, h6, h7, h8, h9⟩ := h
  refine ⟨⟨h1, h2, h3, h4, h5, fun x hx => ?_, h7⟩, h8, h9⟩
  have z := h6 x hx
  split at z
  · exact .inl (by assumption)
  · exact .inr (by assumption)
  · cases z
section
variable {M : Md} {x qual : Str} {params : Arguments} {body : List Stmt} {scope : Scope} {f : Addr} {fd : FuncData} {N ps : List Str} {B : List Str} {k : Nat}
theorem xo_body (S : FnScope N ps scope) (hu : ∀ y ∈ scope.names, scope.names.lookup y.1 = some y.2) (hd : ∀ y ∈ scope.names, (y.1 == ("__debug__" : Str)) = false ∧ (y.1 == ("__classdict__" : Str)) = false ∧ y.1 ≠ "__name__") (hB : ∀ (i : Nat) (x : Str), B[i]? = some x → M.mg x = none) {cdv : Value} {A : Around} {outer : List Env} {s : Shared} {H : Hp} {E : XK}
    (hr : Room k (A.deeper (envOfC qual scope s.heap.objs.size f cdv))) : XOk (cxOf (L2.CX M.P M.w) M.P M.w M.K M.mg M.base N qual scope f cdv A outer s H E) N scope B k := by
  have kind : ∀ (x : Str) (kd : NameKind), scope.names.lookup x = some kd → (envOfC qual scope s.heap.objs.size f cdv).kindOf x = some kd := fun x kd h => h
  refine ⟨rfl, fun j x kd h => hd _ (List.mem_of_getElem? h), fun j x kd h hk => ?_, fun j x h => ?_, fun j x kd h hk => ?_, fun j x kd h hk => ?_, fun j x kd h _ => hu _ (List.mem_of_getElem? h), S.kind, S.nd, hB, hr, rfl⟩
  · have e := hu _ (List.mem_of_getElem? h)
    cases kd <;> first | exact .inl e | exact .inr (.inl e) | exact .inr (.inr e) | cases hk
  · exact kind x _ (hu _ (List.mem_of_getElem? h))
  · have e := hu _ (List.mem_of_getElem? h)
    cases kd <;> first | exact ⟨.inl e, .inl rfl⟩ | exact ⟨.inr e, .inl rfl⟩ | cases hk
  · have e := hu _ (List.mem_of_getElem? h)
    rcases hk with rfl | rfl
    · exact .inl e
    · exact .inr e
theorem xs_body {cdv : Value} {A : Around} {outer : List Env} {s : Shared} {H : Hp} {E : XK} : XS (cxOf (L2.CX M.P M.w) M.P M.w M.K M.mg M.base N qual scope f cdv A outer s H E) := ⟨passes_of rfl, rfl, rfl⟩
theorem takes_body {cdv : Value} {A : Around} {outer : List Env} {s : Shared} {H : Hp} {E : XK} : Takes (cxOf (L2.CX M.P M.w) M.P M.w M.K M.mg M.base N qual scope f cdv A outer s H E) (fun cls d _ H => E cls d H) := takes_of rfl rfl rfl rfl
theorem fn_P (F : FunD M.K x qual params body scope [] [] f fd) {Lks : Md → Prop} (lks : Lks M) {ts : List Ty} {tr : Ty} {β : Type} {Γn : β → Ctx} {osn : Os} {m : AT ts → OT [] → OutT ⟨[], [], tr⟩ LC.none β osn} {z : Option tr.A}
    (hB : ∀ (i : Nat) (x : Str), B[i]? = some x → M.mg x = none) (hsc : fnScB N ps scope = true) (hl : ts.length = ps.length)
    (hb : ∀ X, Lks X.md → XOk X N scope B k → XS X → ∀ x, RB X ⟨[], [], tr⟩ LC.none (argCtx ts x ++ List.replicate (N.length - ts.length) none) [] body Γn osn (m x))
    (hz : ∀ y, z = some y → ∀ F, tr.rep y .non F emp) :
    FnOk M.P M.w M.K M.mg M.base (L2.CX M.P M.w) (k + 1) f fd ps (spP M.mg ts tr fun x => runZ z (m x ())) := by
  obtain ⟨S, hu, hd⟩ := fnScB_ok hsc
  refine F.ok S (fun vs H Q E h => ?_) fun cdv A outer s H vs Q E hr h => ?_
  · obtain ⟨_, _, _, h, _⟩ := h
    rw [h.length, hl]
  · obtain ⟨x, F, R, ha, g, h⟩ := h
    refine ⟨_, pss_best _ body, ?_⟩
    have c := ctx_args (n := N.length - vs.length) ha
    have hlen := ha.length
    rw [hlen] at c
    refine hb (cxOf (L2.CX M.P M.w) M.P M.w M.K M.mg M.base N qual scope f cdv A outer s H E) lks (xo_body S hu hd hB hr) xs_body x (L2.start N vs) F R R H () (fun cls d _ H => E cls d H) _ takes_body ?_ rfl g ?_
    · unfold L2.start
      rw [hlen]
      exact c
    · revert h
      show (match runZ z (m x ()) with
        | none => False
        | some (.ok y) => _
        | some (.error ex) => _) → WantS _ _ _ _ _ _ _ _ _ _ (m x ())
      cases q : m x () with
      | none => exact fun h => h.elim
      | some r =>
        cases r with
        | nxt n =>
          cases z with
          | none => exact fun h => h.elim
          | some y =>
            intro h σ' F' M' H' s' k' c' w' g'
            obtain ⟨M0, s0, w0⟩ := (dropAll osn).own w'
            have w0' : M0 = R := w0
            subst w0'
            exact h .non F' emp _ H' s' (sep_emp_l _) (g'.less s0) (hz y rfl F')
        | brk n => exact fun h => h.elim
        | cnt n => exact fun h => h.elim
        | ret y p =>
          intro h v σ' F' M1 mm M' H' s' k' w' p' g' r'
          have e : M1 = R := w'
          subst e
          exact h v F' mm M' H' s' p' g' r'
        | exc e p =>
          intro h cls d σ' F' M' H' s' k' w' g' x'
          have e : M' = R := w'
          subst e
          exact h cls d F' H' s' g' x'
theorem fn_O (F : FunD M.K x qual params body scope [] [] f fd) {Lks : Md → Prop} (lks : Lks M) {t0 : Ty} {ts : List Ty} {tr : Ty} {β : Type} {Γn : β → Ctx} {osn : Os} {m : AT ts → OT [(0, t0)] → OutT ⟨[0], [(0, t0)], tr⟩ LC.none β osn}
    (hB : ∀ (i : Nat) (x : Str), B[i]? = some x → M.mg x = none) (hsc : fnScB N ps scope = true) (hl : ts.length + 1 = ps.length)
    (hb : ∀ X, Lks X.md → XOk X N scope B k → XS X → ∀ x, RB X ⟨[0], [(0, t0)], tr⟩ LC.none (none :: (argCtx ts x ++ List.replicate (N.length - (ts.length + 1)) none)) [(0, t0)] body Γn osn (m x)) :
    FnOk M.P M.w M.K M.mg M.base (L2.CX M.P M.w) (k + 1) f fd ps (spO M.mg t0 ts tr fun y x => runO (m x (y, ()))) := by
  obtain ⟨S, hu, hd⟩ := fnScB_ok hsc
  refine F.ok S (fun vs H Q E h => ?_) fun cdv A outer s H vs Q E hr h => ?_
  · obtain ⟨_, us, _, _, _, _, _, _, rfl, _, _, h, _⟩ := h
    rw [List.length_cons, h.length, hl]
  · obtain ⟨v0, us, y0, x, F, m0, R, M1, rfl, r0, s0, ha, g, h⟩ := h
    refine ⟨_, pss_best _ body, ?_⟩
    have hlen := ha.length
    have c := ctx_args (n := N.length - (us.length + 1)) ha
    have c2 : CtxOk (none :: (argCtx ts x ++ List.replicate (N.length - (ts.length + 1)) none)) (L2.start N (v0 :: us)) F := by
      unfold L2.start
      rw [List.length_cons, hlen]
      rw [hlen] at c
      refine ⟨by have z := c.1; simp only [List.map_cons, List.cons_append, List.length_cons]; rw [z], fun i u y e => ?_⟩
      cases i with
      | zero => cases e
      | succ i => exact c.2 i u y e
    refine hb (cxOf (L2.CX M.P M.w) M.P M.w M.K M.mg M.base N qual scope f cdv A outer s H E) lks (xo_body S hu hd hB hr) xs_body x (L2.start N (v0 :: us)) F M1 R H (y0, ()) (fun cls d _ H => E cls d H) _ takes_body c2 ⟨v0, m0, R, rfl, r0, s0, rfl⟩ g ?_
    revert h
    show (match runO (m x (y0, ())) with
      | none => False
      | some (.ok y, z) => _
      | some (.error ex, z) => _) → WantS _ _ _ _ _ _ _ _ _ _ (m x (y0, ()))
    cases q : m x (y0, ()) with
    | none => exact fun h => h.elim
    | some r =>
      cases r with
      | nxt n => exact fun h => h.elim
      | brk n => exact fun h => h.elim
      | cnt n => exact fun h => h.elim
      | ret y p =>
        intro h v σ' F' M2 mm M' H' s' k' w' p' g' r'
        obtain ⟨v1, m1, M3, e1, r1, s1, w1⟩ := w'
        have e : M3 = R := w1
        subst e
        have k0 := k'.2 0 (by simp)
        rw [show (L2.start N (v0 :: us))[0]? = some (some v0) from rfl] at k0
        have e2 : σ'[0]? = some (some v1) := e1
        rw [k0] at e2
        cases e2
        exact h v F' m1 M2 mm M' H' s' r1 s1 p' g' r'
      | exc e p =>
        intro h cls d σ' F' M' H' s' k' w' g' x'
        obtain ⟨v1, m1, M3, e1, r1, s1, w1⟩ := w'
        have e : M3 = R := w1
        subst e
        have k0 := k'.2 0 (by simp)
        rw [show (L2.start N (v0 :: us))[0]? = some (some v0) from rfl] at k0
        have e2 : σ'[0]? = some (some v1) := e1
        rw [k0] at e2
        cases e2
        exact h cls d F' m1 M' H' s' r1 s1 g' x'
end
end Mi

namespace Mi
open PySem PySem.Spec PyProof.Rows L2

abbrev gI (x : Str) : Str × NameKind := (x, .globalImplicit)
theorem AllR.app {t : Ty} : ∀ {xs ys : List t.A} {vs us : List V} {F : Hp}, AllR t xs vs F → AllR t ys us F → AllR t (xs ++ ys) (vs ++ us) F
  | [], _, vs, _, _, h, k => by have h' : vs = [] := h; subst h'; exact k
  | _ :: _, _, _, _, _, ⟨v, r, e, q, z⟩, k => by subst e; exact ⟨v, _, rfl, q, z.app k⟩
theorem AllR.snoc {t : Ty} {xs : List t.A} {vs : List V} {F : Hp} {x : t.A} {v : V} (h : AllR t xs vs F) (r : t.rep x v F emp) : AllR t (xs ++ [x]) (vs ++ [v]) F := h.app ⟨v, [], rfl, r, rfl⟩
theorem AllR.drop {t : Ty} : ∀ {xs : List t.A} {vs : List V} {F : Hp} (n : Nat), AllR t xs vs F → AllR t (xs.drop n) (vs.drop n) F
  | _, _, _, 0, h => h
  | [], vs, _, n + 1, h => by have h' : vs = [] := h; subst h'; exact rfl
  | _ :: _, _, _, n + 1, ⟨v, r, e, q, k⟩ => by subst e; exact k.drop n
theorem AllR.take {t : Ty} : ∀ {xs : List t.A} {vs : List V} {F : Hp} (n : Nat), AllR t xs vs F → AllR t (xs.take n) (vs.take n) F
  | _, _, _, 0, h => rfl
  | [], vs, _, n + 1, h => by have h' : vs = [] := h; subst h'; exact rfl
  | _ :: _, _, _, n + 1, ⟨v, r, e, q, k⟩ => by subst e; exact ⟨v, _, rfl, q, k.take n⟩
abbrev tLst (t : Ty) : Ty := imTy (List t.A) (fun xs v F => ∃ a vs, v = .ref a ∧ F a = some (.lst vs) ∧ AllR t xs vs F) fun ⟨a, vs, e, q, r⟩ s => ⟨a, vs, e, s _ _ q, r.mono s⟩
abbrev tOwn (t : Ty) : Ty := ⟨List t.A, fun xs v F m => ∃ a vs, v = .ref a ∧ m = sing a (.lst vs) ∧ AllR t xs vs F, fun ⟨a, vs, e, q, r⟩ s => ⟨a, vs, e, q, r.mono s⟩⟩
abbrev tTup (ts : List Ty) : Ty := imTy (AT ts) (fun x v F => ∃ a vs, v = .ref a ∧ F a = some (.tup vs) ∧ ArgsOk ts x vs F) fun ⟨a, vs, e, q, r⟩ s => ⟨a, vs, e, s _ _ q, r.mono s⟩
theorem im_lst {t : Ty} : Imm (tLst t) := fun a => a.1
theorem im_tup {ts : List Ty} : Imm (tTup ts) := fun a => a.1

def Frz (t u : Ty) (f : t.A → u.A) : Prop := ∀ {x v F m}, t.rep x v F m → (∀ p, m p = none ∨ F p = none) → u.rep (f x) v (uni m F) emp
theorem sub_uni {m F : Hp} (d : ∀ p, m p = none ∨ F p = none) : Sub F (uni m F) := fun a o h => by
  rcases d a with e | e
  · rw [uni_r e]; exact h
  · rw [h] at e; cases e
theorem frz_own {t : Ty} : Frz (tOwn t) (tLst t) id := fun {x v F m} ⟨a, vs, e, q, r⟩ d => by
  subst q
  exact ⟨rfl, a, vs, e, uni_l sing_same, r.mono (sub_uni d)⟩
section
variable {X : Cx} {N : List Str} {sc : Scope} {B : List Str} {k : Nat} {Γ : Ctx} {os : Os} {pos p p2 apos : Pos} {e a b : Expr} {es : List Expr} {t u : Ty}
theorem re_frz {f : t.A → u.A} {m : SM (OT os) t.A} (z : Frz t u f) (h : RE X Γ os e t m) : RE X Γ os e u (SM.map f m) := by
  intro σ F M R H o W Q tk c w g q
  refine h σ F M R H o W Q tk c w g (q.bind.imp (fun x o1 y v F' M1 mm M' H' s w' p' g' r' => ?_) fun _ _ z => z)
  obtain ⟨g2, s2, _⟩ := g'.freeze p'
  have d : ∀ q, mm q = none ∨ F' q = none := fun q => by
    rcases g'.dis q with z | z
    · exact .inr z
    · exact .inl (p'.none z).1
  exact (show NormE os u σ F R Q (f x) o1 from y) v (uni mm F') M1 emp M1 H' (s.trans s2) (w'.mono s2) (sep_emp_l M1) g2 (z r' d)
def Flat (t : Ty) : Prop := ∀ {x v F m}, t.rep x v F m → m = emp ∧ ∀ F', t.rep x v F' emp
theorem flat_im {A : Type} {g : A → V} : Flat (flat A g) := fun h => ⟨h.1, fun _ => ⟨rfl, h.2⟩⟩
def SM.borrow {os : Os} {i : Nat} {t0 : Ty} {A B : Type} (h : OMem os i t0) (f : t0.A → A) (m : A → SM (OT []) B) : SM (OT os) B := fun o => match m (f (h.get o)) () with
  | some (.ok y, _) => some (.ok y, o)
  | _ => none
theorem re_borrow {i : Nat} {t0 t1 : Ty} {f : t0.A → t1.A} {m : t1.A → SM (OT []) t.A} (h : OMem os i t0) (z : Frz t0 t1 f) (ft : Flat t) (he : ∀ x, RE X (Γ.set i (some ⟨t1, x⟩)) [] e t (m x)) :
    RE X Γ os e t (SM.borrow h f m) := by
  intro σ F M R H o W Q tk c w g q
  obtain ⟨v, m0, M', e0, r0, s0, _⟩ := h.at w
  have d : ∀ q, m0 q = none ∨ F q = none := fun q => by
    rcases g.dis q with z | z
    · exact .inr z
    · exact .inl (s0.none z).1
  obtain ⟨g2, s2, s3⟩ := g.freeze s0
  have c2 : CtxOk (Γ.set i (some ⟨t1, f (h.get o)⟩)) σ (uni m0 F) := by
    have c3 := (c.mono s2).set (i := i) (t := t1) (x := f (h.get o)) (v := v) (z r0 d)
    have e3 : σ.set i (some v) = σ := by
      apply List.ext_getElem?
      intro j
      by_cases hj : j = i
      · subst hj
        have hl : j < σ.length := (List.getElem?_eq_some_iff.mp e0).1
        rw [List.getElem?_set_self hl, e0]
      · rw [List.getElem?_set_ne (Ne.symm hj)]
    rw [e3] at c3
    exact c3
  have q' := q
  unfold SM.borrow at q'
  refine he _ σ (uni m0 F) M' M' H () W Q tk c2 rfl g2 ?_
  cases r : m (f (h.get o)) () with
  | none => rw [r] at q'; exact q'.elim
  | some y =>
    obtain ⟨y, o1⟩ := y
    rw [r] at q'
    cases y with
    | error x => exact q'.elim
    | ok y =>
      intro v2 F2 M1 mm M2 H2 s4 w4 p4 g4 r4
      have e4 : M1 = M' := w4
      subst e4
      obtain ⟨e5, r5⟩ := ft r4
      subst e5
      have e6 := p4.emp_l
      subst e6
      obtain ⟨s5, g5⟩ := g4.back s0 (s2.trans s4) (fun a u e => s4 _ _ (s3 a u e)) d (fun a u e => g.nt a u (s0.l a u e))
      exact (show NormE os t σ F R Q y o from q') v2 (mns F2 m0) M emp M H2 s5 (w.mono s5) (sep_emp_l M) g5 (r5 _)

def NormL (os : Os) (t : Ty) (n : Nat) (σ : L2.St) (F R : Hp) (Q : List V → Hp → Prop) (xs : List t.A) (o : OT os) : Prop :=
  ∀ vs F' M' H', Sub F F' → OwnOk os o σ F' M' R → Good F' M' H' → AllR t xs vs F' → vs.length = n → Q vs H'
def RAL (X : Cx) (Γ : Ctx) (os : Os) (es : List Expr) (t : Ty) (m : SM (OT os) (List t.A)) : Prop :=
  ∀ (σ : L2.St) (F M R H : Hp) (o : OT os) (W : WX) (Q : List V → Hp → Prop), Takes X W → CtxOk Γ σ F → OwnOk os o σ F M R → Good F M H →
    Want (m o) (NormL os t es.length σ F R Q) (ExcE X os σ F R W) → bestA X es σ H Q
theorem ral_nil : RAL X Γ os [] t (SM.ret []) := fun σ F M R H o W Q tk c w g q => ⟨_, pa_nil, q [] F M H (.refl F) w g rfl rfl⟩
theorem ral_cons {m : SM (OT os) t.A} {n : SM (OT os) (List t.A)} (it : Imm t) (h : RE X Γ os e t m) (hr : RAL X Γ os es t n)
    (he : starEach (e :: es) X.env = (false, eval e X.env) :: starEach es X.env := by rfl) : RAL X Γ os (e :: es) t (SM.bind m fun x => SM.bind n fun y => SM.ret (x :: y)) := by
  intro σ F M R H o W Q tk c w g q
  refine ⟨_, pa_cons (pe_best X e) (pa_best X es) he, h σ F M R H o W _ tk c w g (q.bind.imp (fun x o1 z => ?_) fun _ _ z => z)⟩
  intro v F' M1 mm M' H' s w' p' g' r
  have e := it r; subst e
  have e := p'.emp_l; subst e
  refine hr σ F' _ R H' o1 W _ tk (c.mono s) w' g' (z.bind.imp (fun y o2 z => ?_) fun _ _ z => z.mono s)
  intro us F2 M2 H2 s2 w2 g2 r2 l2
  exact z (v :: us) F2 M2 H2 (s.trans s2) w2 g2 ⟨v, us, rfl, t.mono r s2, r2⟩ (by rw [List.length_cons, List.length_cons, l2])
theorem re_list {m : SM (OT os) (List t.A)} (h : RAL X Γ os es t m) (hl : es.length ≤ 1000 := by exact by decide) : RE X Γ os (.List es pos) (tOwn t) m := by
  intro σ F M R H o W Q tk c w g q
  refine ⟨_, pe_lst (pa_best X es), h σ F M R H o W _ tk c w g (q.imp (fun xs o1 z => ?_) fun _ _ z => z)⟩
  intro vs F' M' H' s w' g' r l
  refine ⟨Nat.le_of_lt (small1000 (by omega)), fun p hp => ?_⟩
  obtain ⟨g2, s2⟩ := g'.newM (o := .lst vs) hp
  exact z (.ref p) F' M' _ _ _ s w' s2 g2 ⟨p, vs, rfl, rfl, r⟩
theorem re_tup {ts : List Ty} {x1 : Nat} {m : SM (OT os) (AT ts)} (h : RA X Γ os es ts m) (hl : ts.length ≤ 1000 := by exact by decide) : RE X Γ os (.Tuple es x1 pos) (tTup ts) m := by
  intro σ F M R H o W Q tk c w g q
  refine ⟨_, pe_tup (pa_best X es), h σ F M R H o W _ tk c w g (q.imp (fun xs o1 z => ?_) fun _ _ z => z)⟩
  intro vs F' M' H' s w' g' r
  refine ⟨Nat.le_of_lt (small1000 (by rw [r.length]; exact hl)), fun p hp => ?_⟩
  have hF : F' p = none := g'.fnone hp
  have s2 := sub_upd (o := .tup vs) hF
  exact z (.ref p) (upd F' p (.tup vs)) M' emp M' _ (s.trans s2) (w'.mono s2) (sep_emp_l M') (g'.newF hp) ⟨rfl, p, vs, rfl, upd_same, r.mono s2⟩

def cut {α : Type} (l : List α) (lo hi : Option Int) : List α := (l.drop (HT.sIx l.length 0 lo)).take (HT.sIx l.length l.length hi - HT.sIx l.length 0 lo)
theorem atI_map {t : Ty} {xs : List t.A} {vs : List V} {F : Hp} {i : Int} {x : t.A} (h : AllR t xs vs F) (e : atI xs i = some x) : ∃ v, atI vs i = some v ∧ t.rep x v F emp := by
  unfold atI at e ⊢
  rw [h.length]
  cases q : ixN xs.length i with
  | none => rw [q] at e; cases e
  | some j =>
    rw [q] at e
    exact h.get e
theorem re_ixL {m : SM (OT os) (List t.A)} {n : SM (OT os) Int} (it : Imm t) (ha : RE X Γ os a (tLst t) m) (hb : RE X Γ os b tInt n) (hs : PlainIx b := by exact fun _ _ => rfl) :
    RE X Γ os (.Subscript a b pos) t (SM.bind m fun x => SM.bind n fun y => SM.lift (atI x y)) := by
  refine re_ix (ta := tLst t) (tb := tInt) (tc := t) (f := atI) ix_list (fun {x y z v u F M H Q} e hx hy g q => ?_) im_lst imF ha hb hs
  obtain ⟨_, a, vs, ea, fa, r⟩ := hx
  obtain ⟨w, e1, e2⟩ := atI_map r e
  exact ⟨a, vs, y, w, ea, hy.2, .inl (.inl (g.f _ _ fa)), e1, q w F emp M H (.refl F) (sep_emp_l M) g (it e2 ▸ e2)⟩
theorem toL {l : List Nat} : (sOf l).cps.toList = l := rfl
theorem re_ixS {m : SM (OT os) (List Nat)} {n : SM (OT os) Int} (ha : RE X Γ os a tStr m) (hb : RE X Γ os b tInt n) (hs : PlainIx b := by exact fun _ _ => rfl) :
    RE X Γ os (.Subscript a b pos) tChr (SM.bind m fun x => SM.bind n fun y => SM.lift (if x.length ≤ sizeLine then atI x y else none)) := by
  refine re_ix (ta := tStr) (tb := tInt) (tc := tChr) (f := fun x y => if x.length ≤ sizeLine then atI x y else none) ix_str (fun {x y z v u F M H Q} e hx hy g q => ?_) imF imF ha hb hs
  obtain ⟨_, ea⟩ := hx
  obtain ⟨_, ru⟩ := hy
  have e' : (if x.length ≤ sizeLine then atI x y else none) = some z := e
  by_cases h : x.length ≤ sizeLine
  · rw [if_pos h] at e'
    exact ⟨sOf x, y, z, ea, ru, h, e', fl (gA := fun c => V.str (sOf [c])) q g⟩
  · rw [if_neg h] at e'; cases e'
def NormO (os : Os) (σ : L2.St) (F R : Hp) (Q : Option Int → Hp → Prop) (x : Option Int) (o : OT os) : Prop :=
  ∀ F' M' H', Sub F F' → OwnOk os o σ F' M' R → Good F' M' H' → Q x H'
def bestO (X : Cx) (e : Option Expr) : TO := fun σ H Q => ∃ t, PO X e t ∧ t σ H Q
theorem po_best (X : Cx) (e : Option Expr) : PO X e (bestO X e) := ⟨fun pins s σ H Q I ⟨_, p, h⟩ => p.run pins s σ H Q I h⟩
def RO (X : Cx) (Γ : Ctx) (os : Os) (e : Option Expr) (m : SM (OT os) (Option Int)) : Prop :=
  ∀ (σ : L2.St) (F M R H : Hp) (o : OT os) (W : WX) (Q : Option Int → Hp → Prop), Takes X W → CtxOk Γ σ F → OwnOk os o σ F M R → Good F M H →
    Want (m o) (NormO os σ F R Q) (ExcE X os σ F R W) → bestO X e σ H Q
theorem ro_none : RO X Γ os none (SM.ret none) := fun σ F M R H o W Q tk c w g q => ⟨_, po_none, q F M H (.refl F) w g⟩
theorem ro_some {m : SM (OT os) Int} (h : RE X Γ os e tInt m) : RO X Γ os (some e) (SM.map some m) := fun σ F M R H o W Q tk c w g q =>
  ⟨_, po_some (pe_best X e), h σ F M R H o W _ tk c w g (q.bind.imp (fun x o1 z v F' M1 mm M' H' s w' p' g' r' => by
    obtain ⟨e1, e2⟩ := r'
    subst e1
    have e := p'.emp_l; subst e
    exact ⟨x, e2, z F' _ H' s w' g'⟩) fun _ _ z => z)⟩
theorem re_sl {ts : Ty} {tr : Ty} {r : V → Option Int → Option Int → Hp → VK → Prop} {f : ts.A → Option Int → Option Int → Option tr.A} {lo hi : Option Expr} {m : SM (OT os) ts.A} {ml mh : SM (OT os) (Option Int)} (hr : SlR X r) (is : Imm ts)
    (hv : ∀ {x l h z v F M H} {Q : VK}, f x l h = some z → ts.rep x v F emp → Good F M H → (∀ v' F' mm M' H', Sub F F' → Sep mm M M' → Good F' M' H' → tr.rep z v' F' mm → Q v' H') → r v l h H Q)
    (ha : RE X Γ os a ts m) (hl : RO X Γ os lo ml) (hh : RO X Γ os hi mh) : RE X Γ os (.Subscript a (.Slice lo hi none p2) pos) tr (SM.bind m fun x => SM.bind ml fun l => SM.bind mh fun h => SM.lift (f x l h)) := by
  intro σ F M R H o W Q tk c w g q
  refine ⟨_, pe_slice hr (pe_best X a) (po_best X lo) (po_best X hi), ?_⟩
  refine one_end is ha tk c w g q fun x o2 v F2 M2 H2 h2 s2 w2 g2 r2 => ?_
  refine hl σ F2 M2 R H2 o2 W _ tk (c.mono s2) w2 g2 (h2.bind.imp (fun l o3 h3 => ?_) fun _ _ z => z.mono s2)
  intro F3 M3 H3 s3 w3 g3
  refine hh σ F3 M3 R H3 o3 W _ tk ((c.mono s2).mono s3) w3 g3 (h3.bind.imp (fun h o4 h4 => ?_) fun _ _ z => z.mono (s2.trans s3))
  intro F4 M4 H4 s4 w4 g4
  exact lift_fin h4 ((s2.trans s3).trans s4) w4 fun z ez qq => hv ez (ts.mono r2 (s3.trans s4)) g4 qq
theorem cutS_of (l : List Nat) (lo hi : Option Int) : cutS (sOf l) lo hi = sOf (cut l lo hi) := rfl
theorem re_slS {lo hi : Option Expr} {m : SM (OT os) (List Nat)} {ml mh : SM (OT os) (Option Int)} (ha : RE X Γ os a tStr m) (hl : RO X Γ os lo ml) (hh : RO X Γ os hi mh) :
    RE X Γ os (.Subscript a (.Slice lo hi none p2) pos) tStr (SM.bind m fun x => SM.bind ml fun l => SM.bind mh fun h => SM.lift (if x.length ≤ sizeLine then some (cut x l h) else none)) := by
  refine re_sl (ts := tStr) (tr := tStr) (f := fun x l h => if x.length ≤ sizeLine then some (cut x l h) else none) sl_str imF (fun {x l h z v F M H Q} e hx g q => ?_) ha hl hh
  obtain ⟨_, rx⟩ := hx
  have e' : (if x.length ≤ sizeLine then some (cut x l h) else none) = some z := e
  by_cases hz : x.length ≤ sizeLine
  · rw [if_pos hz] at e'
    cases e'
    refine ⟨sOf x, rx, hz, ?_⟩
    rw [cutS_of]
    exact fl (gA := fun l => V.str (sOf l)) q g
  · rw [if_neg hz] at e'; cases e'
variable {ga ma : Nat}
theorem v_lenS : VCall (fun xs H Q => ∃ z, xs = [.str z] ∧ z.length ≤ sizeLine ∧ Q (.int z.length) H) [tStr] tInt (fun x => if x.1.length ≤ sizeLine then some (x.1.length : Int) else none) := by
  intro x z vs F M H Q e ⟨v, us, e1, ⟨_, ea⟩, e2⟩ g q
  have e2' : us = [] := e2
  have ea' : v = V.str (sOf x.1) := ea
  subst e2' e1 ea'
  have e' : (if x.1.length ≤ sizeLine then some (x.1.length : Int) else none) = some z := e
  by_cases h : x.1.length ≤ sizeLine
  · rw [if_pos h] at e'
    cases e'
    exact ⟨sOf x.1, rfl, h, fl (gA := V.int) q g⟩
  · rw [if_neg h] at e'; cases e'
theorem re_lenS (xo : XOk X N sc B k) {m : SM (OT os) (AT [tStr])} (ga ma : Nat) (ha : RA X Γ os [e] [tStr] m) (hg : sc.names[ga]? = some (gI "len") := by rfl) (hm : B[ma]? = some "len" := by rfl)
    (he : starEach [e] X.env = (false, eval e X.env) :: starEach [] X.env := by rfl) :
    RE X Γ os (.Call (.Name "len" p) [e] [] pos) tInt (SM.bind m fun x => SM.lift (if x.1.length ≤ sizeLine then some (x.1.length : Int) else none)) := re_callB call_len_str v_lenS (xo.gl ga _ hg) (xo.fr ma _ hm) boot_len ha (by decide) (by decide) he rfl

theorem sOf_app (a b : List Nat) : sOf a ++ sOf b = sOf (a ++ b) := by
  show (⟨(sOf a).cps ++ (sOf b).cps⟩ : Str) = _
  unfold sOf
  simp
theorem re_addS {m n : SM (OT os) (List Nat)} (ha : RE X Γ os a tStr m) (hb : RE X Γ os b tStr n) :
    RE X Γ os (.BinOp a .Add b pos) tStr (SM.bind m fun x => SM.bind n fun y => SM.lift (if x.length + y.length ≤ sizeLine then some (x ++ y) else none)) := by
  refine re_op (ta := tStr) (tb := tStr) (tc := tStr) (f := fun x y => if x.length + y.length ≤ sizeLine then some (x ++ y) else none) op_add_str (fun {x y z v u F M H Q} e hx hy g q => ?_) imF imF ha hb
  obtain ⟨_, rx⟩ := hx
  obtain ⟨_, ry⟩ := hy
  have e' : (if x.length + y.length ≤ sizeLine then some (x ++ y) else none) = some z := e
  by_cases h : x.length + y.length ≤ sizeLine
  · rw [if_pos h] at e'
    cases e'
    refine ⟨sOf x, sOf y, rx, ry, h, ?_⟩
    rw [sOf_app]
    exact fl (gA := fun l => V.str (sOf l)) q g
  · rw [if_neg h] at e'; cases e'
theorem v_inC : VOp (fun x y H Q => ∃ (c : Nat) (z : Str), x = .str ⟨#[c]⟩ ∧ y = .str z ∧ Q (.bl (decide (c ∈ z.cps.toList))) H) tChr tStr tBool (fun c l => some (decide (c ∈ l))) := by
  intro x y z v u F M H Q e ⟨_, rx⟩ ⟨_, ry⟩ g q
  cases e
  exact ⟨x, sOf y, rx, ry, fl (gA := V.bl) q g⟩
theorem ri_str {tg : Expr} {m : SM (OT os) (List Nat)} (h : RE X Γ os e tStr m) : RI X Γ os tg e tChr m := by
  intro σ F M R H o W K tk c w g q
  refine ⟨_, pi_str (pe_best X e), h σ F M R H o W _ tk c w g (q.imp (fun xs o1 z => ?_) fun _ _ z => z)⟩
  intro v F' M1 mm M' H' s w' p' g' ⟨e1, ev⟩
  subst e1
  have e := p'.emp_l; subst e
  refine ⟨sOf xs, ev, z _ F' _ H' s w' g' fun F2 M2 H2 s2 g2 i => ?_⟩
  refine ⟨fun hi => show xs.toArray.size ≤ i by simpa using hi, fun x hx => ?_⟩
  have hlt : i < xs.length := (List.getElem?_eq_some_iff.mp hx).1
  refine ⟨show i < xs.toArray.size by simpa using hlt, fun v' H3 ⟨h3, c', hc, hv⟩ => ?_⟩
  subst h3 hv
  have hc' : xs[i]? = some c' := by
    have z : xs.toArray[i]? = some c' := hc
    simpa using z
  rw [hx] at hc'
  cases hc'
  exact ⟨F2, .refl F2, g2, rfl, rfl⟩
def small62 (i : Int) : Prop := -(2 ^ 62) ≤ i ∧ i < 2 ^ 62
instance {i : Int} : Decidable (small62 i) := by unfold small62; exact inferInstance
def rng (lo hi : Int) : List Int := (List.range (hi - lo).toNat).map fun (k : Nat) => lo + (k : Int)
theorem yld_rng {lo hi : Int} {F : Hp} : Yld (Itr lo (hi - lo).toNat) tInt (rng lo hi) F := by
  intro F2 M2 H2 s2 g2 i
  refine ⟨fun hi => show (_ : Nat) ≤ i by simpa [rng] using hi, fun x hx => ?_⟩
  have hlt : i < (hi - lo).toNat := by
    have z := (List.getElem?_eq_some_iff.mp hx).1
    simpa [rng] using z
  refine ⟨hlt, fun v' H3 ⟨h3, hv⟩ => ?_⟩
  subst h3 hv
  unfold rng at hx
  rw [List.getElem?_map, List.getElem?_range hlt] at hx
  cases hx
  exact ⟨F2, .refl F2, g2, rfl, rfl⟩
theorem ri_range1 (xo : XOk X N sc B k) {tg : Expr} (ga ma : Nat) {m : SM (OT os) (AT [tInt])} (h : RA X Γ os [e] [tInt] m) (hg : sc.names[ga]? = some (gI "range") := by rfl) (hm : B[ma]? = some "range" := by rfl)
    (hs : starEach [e] X.env = [(false, eval e X.env)] := by rfl) : RI X Γ os tg (.Call (.Name "range" p) [e] [] pos) tInt (SM.bind m fun x => SM.lift (if small62 x.1 then some (rng 0 x.1) else none)) := by
  intro σ F M R H o W K tk c w g q
  refine ⟨_, pi_range1 (xo.gl ga _ hg) (xo.fr ma _ hm) (pa_best X [e]) hs, ?_⟩
  refine args_end h tk c w g q fun x o2 vs F2 M2 H2 h2 s2 w2 g2 ⟨v, us, e1, ⟨_, e2⟩, e3⟩ => ?_
  have e3' : us = [] := e3
  have e2' : v = V.int x.1 := e2
  subst e3' e1 e2'
  unfold SM.lift at h2
  by_cases hz : small62 x.1
  · rw [if_pos hz] at h2
    refine ⟨x.1, rfl, hz.1, hz.2, (show NormI os tInt σ F R K (rng 0 x.1) o2 from h2) _ F2 M2 H2 s2 w2 g2 ?_⟩
    have y := yld_rng (lo := 0) (hi := x.1) (F := F2)
    rw [show (x.1 - 0).toNat = x.1.toNat by rw [Int.sub_zero]] at y
    exact y
  · rw [if_neg hz] at h2; exact h2.elim
end
end Mi

namespace Mi
open PySem PySem.Spec PyProof.Rows L2
section
variable {X : Cx} {N : List Str} {sc : Scope} {B : List Str} {k : Nat} {Γ : Ctx} {os : Os} {pos p p2 apos : Pos} {e a b : Expr} {es : List Expr} {t u : Ty}

instance {i j : Int} : Decidable (CDivW i j) := by unfold CDivW; exact inferInstance
theorem re_fdiv {ma mb : SM (OT os) Int} (ha : RE X Γ os a tInt ma) (hb : RE X Γ os b tInt mb) : RE X Γ os (.BinOp a .FloorDiv b pos) tInt (SM.bind ma fun x => SM.bind mb fun y => SM.lift (if CDivW x y then some (x / y) else none)) := re_op op_fdivW v_I imF imF ha hb
theorem v_II2 {gg : Int → Int → Int} : VCall (fun xs H Q => ∃ i j, xs = [.int i, .int j] ∧ Q (.int (gg i j)) H) [tInt, tInt] tInt (fun x => some (gg x.1 x.2.1)) := by
  intro x z vs F M H Q e h g q
  obtain ⟨v, us, e1, ⟨_, ev⟩, v2, us2, e3, ⟨_, ev2⟩, e4⟩ := h
  cases e
  have e4' : us2 = [] := e4
  have ev' : v = V.int x.1 := ev
  have ev2' : v2 = V.int x.2.1 := ev2
  subst e4' e3 e1 ev' ev2'
  exact ⟨x.1, x.2.1, rfl, fl (gA := V.int) q g⟩
theorem re_max2 (xo : XOk X N sc B k) {m : SM (OT os) (AT [tInt, tInt])} (ga ma : Nat) (ha : RA X Γ os [a, b] [tInt, tInt] m) (hg : sc.names[ga]? = some (gI "max") := by rfl) (hm : B[ma]? = some "max" := by rfl)
    (he : starEach [a, b] X.env = (false, eval a X.env) :: starEach [b] X.env := by rfl) (hpl : (backTo pos (starEach [b] X.env)).any (·.1) = false := by rfl) :
    RE X Γ os (.Call (.Name "max" p) [a, b] [] pos) tInt (SM.bind m fun x => SM.lift (some (if x.2.1 > x.1 then x.2.1 else x.1))) := re_callB (call_max2 xo.calm) (v_II2 (gg := fun i j => if j > i then j else i)) (xo.gl ga _ hg) (xo.fr ma _ hm) boot_max ha (by decide) (by decide) he hpl
theorem re_min2 (xo : XOk X N sc B k) {m : SM (OT os) (AT [tInt, tInt])} (ga ma : Nat) (ha : RA X Γ os [a, b] [tInt, tInt] m) (hg : sc.names[ga]? = some (gI "min") := by rfl) (hm : B[ma]? = some "min" := by rfl)
    (he : starEach [a, b] X.env = (false, eval a X.env) :: starEach [b] X.env := by rfl) (hpl : (backTo pos (starEach [b] X.env)).any (·.1) = false := by rfl) :
    RE X Γ os (.Call (.Name "min" p) [a, b] [] pos) tInt (SM.bind m fun x => SM.lift (some (if x.2.1 < x.1 then x.2.1 else x.1))) := re_callB (call_min2 xo.calm) (v_II2 (gg := fun i j => if j < i then j else i)) (xo.gl ga _ hg) (xo.fr ma _ hm) boot_min ha (by decide) (by decide) he hpl

variable {G : FX} {L : LC} {β : Type} {Γn : β → Ctx} {osn : Os} {rest : List Stmt}
theorem rb_setL (xo : XOk X N sc B k) (hS : OSub os G.ps) {i : Nat} (h : OMem os i (tOwn t)) (jn : Nat) {nm : Str} {kd : NameKind} {me : SM (OT os) t.A} {mi : SM (OT os) Int} {kk : OT os → OutT G L β osn} (it : Imm t) (he : RE X Γ os e t me) (hi : RE X Γ os a tInt mi) (hk : RB X G L Γ os rest Γn osn kk)
    (hjb : sc.names[jn]? = some (nm, kd) := by rfl) (hkb : visK kd = true := by rfl) (hN : N[i]? = some nm := by rfl)
    (hs : swapsWithSole [.Subscript (.Name nm p) a p2] e pos.line X.env = pure false := by rfl) (hw : swappedStores [.Subscript (.Name nm p) a p2] e X.env = pure none := by rfl)
    (h1 : (assignEach [.Subscript (.Name nm p) a p2] X.env).map (·.2) = [assign (.Subscript (.Name nm p) a p2) X.env] := by rfl)
    (ha : ∀ v, assign (.Subscript (.Name nm p) a p2) X.env v = (do
      let ov ← holding [v] (eval (.Name nm p) X.env)
      let iv ← holding [v, ov] (eval a X.env)
      standAt p2
      holding [v, ov, iv] (setItem ov iv v)
      release [v, ov, iv] []) := by intro _; rfl) :
    RB X G L Γ os (.Assign [.Subscript (.Name nm p) a p2] e pos :: rest) Γn osn (fun o => bindX hS (me o) fun x o => bindX hS (mi o) fun y o => match ixN (h.get o).length y with
      | some n => kk (h.set ((h.get o).set n x) o)
      | none => none) := by
  intro σ F M R H o W D tk c w g q
  refine ⟨_, pss_cons (ps_asg (pe_best X e) (pg_sub (pe_var (by rw [xo.nN]; exact hN) (xo.vs jn nm kd hjb hkb) (xo.db jn nm kd hjb).1 (xo.db jn nm kd hjb).2.1) (pe_best X a) set_list ha) hs hw h1) (pss_best X rest), ?_⟩
  refine he σ F M R H o W _ tk c w g (q.bindX.imp (fun x o1 z => ?_) fun _ _ z => z)
  intro v F1 M1 mm M1' H1 s1 w1 p1 g1 r1
  have e := it r1; subst e
  have e := p1.emp_l; subst e
  obtain ⟨v0, m0, M0, e0, r0, s0, _⟩ := h.at w1
  refine ⟨v0, e0, ?_⟩
  refine hi σ F1 _ R H1 o1 W _ tk (c.mono s1) w1 g1 ((WantS.bindX z).imp (fun y o2 z2 => ?_) fun _ _ z => z.mono s1)
  intro v' F2 M2 mm2 M2' H2 s2 w2 p2 g2 r2
  obtain ⟨e, ey⟩ := r2
  subst e
  have e := p2.emp_l; subst e
  obtain ⟨v1, m1, M3, e1, ⟨a, vs, ea, em, ra⟩, s3, up⟩ := h.at w2
  rw [e0] at e1
  cases e1
  have z2' : WantS X G L Γn osn σ F R W D (match ixN (h.get o2).length y with
      | some n => kk (h.set ((h.get o2).set n x) o2)
      | none => none) := z2
  cases hix : ixN (h.get o2).length y with
  | none => rw [hix] at z2'; exact z2'.elim
  | some n =>
    rw [hix] at z2'
    subst em ea
    have hH : H2 a = some (.lst vs) := g2.m _ _ (s3.l _ _ sing_same)
    refine ⟨a, vs, y, n, rfl, ey, hH, by rw [ra.length]; exact hix, ?_⟩
    obtain ⟨M4, s4, g4⟩ := g2.set (o' := .lst (vs.set n v)) s3
    exact hk σ F2 M4 R _ _ W D tk (c.mono (s1.trans s2)) (up _ _ M4 F2 (.refl F2) ⟨a, _, rfl, rfl, ra.set n (t.mono r1 s2)⟩ s4) g4 (z2'.mono (s1.trans s2) .refl)
end
end Mi
namespace Mi
open PySem PySem.Spec PyProof.Rows L2
section
variable {X : Cx} {N : List Str} {sc : Scope} {B : List Str} {k : Nat} {Γ : Ctx} {os : Os} {pos p p2 apos : Pos} {e a b : Expr}
abbrev tScr (K : PySem.W.Frag) : Ty := imTy (List Int) (fun xs v F => ∃ a, v = .ref a ∧ SqL K F a (xs.map V.int)) fun ⟨a, e, r⟩ s => ⟨a, e, r.imp (fun r => r.imp (s _ _) fun ⟨o, h⟩ => ⟨o, s _ _ h⟩) id⟩
theorem im_scr {K : PySem.W.Frag} : Imm (tScr K) := fun a => a.1
theorem sql_good {K : PySem.W.Frag} {F M H : Hp} {a : Addr} {xs : List V} (g : Good F M H) (h : SqL K F a xs) : SqL K H a xs := h.imp (fun r => r.imp (fun e => (g.f _ _ e).at fun _ e => nomatch e) fun ⟨o, h⟩ => ⟨o, g.f _ _ h⟩) id
variable {K : PySem.W.Frag}
theorem v_lenX : VCall (fun xs H Q => ∃ p ys, xs = [.ref p] ∧ (SqL K H p ys ∨ SqT K H p ys) ∧ Q (.int ys.length) H) [tScr K] tInt (fun x => some (x.1.length : Int)) := by
  intro x z vs F M H Q e ⟨v, us, e1, ⟨_, a, ea, fa⟩, e2⟩ g q
  cases e
  have e2' : us = [] := e2
  subst e2' e1 ea
  refine ⟨a, x.1.map V.int, rfl, .inl (sql_good g fa), ?_⟩
  rw [List.length_map]
  exact fl (gA := V.int) q g
theorem re_lenX (xo : XOk X N sc B k) (xk : X.K = K) {m : SM (OT os) (AT [tScr K])} (ga ma : Nat) (ha : RA X Γ os [e] [tScr K] m) (hg : sc.names[ga]? = some (gI "len") := by rfl) (hm : B[ma]? = some "len" := by rfl)
    (he : starEach [e] X.env = (false, eval e X.env) :: starEach [] X.env := by rfl) :
    RE X Γ os (.Call (.Name "len" p) [e] [] pos) tInt (SM.bind m fun x => SM.lift (some (x.1.length : Int))) := by
  subst xk
  exact re_callB call_len_seq v_lenX (xo.gl ga _ hg) (xo.fr ma _ hm) boot_len ha (by decide) (by decide) he rfl
theorem re_ixX (xk : X.K = K) {m : SM (OT os) (List Int)} {n : SM (OT os) Int} (ha : RE X Γ os a (tScr K) m) (hb : RE X Γ os b tInt n) (hs : PlainIx b := by exact fun _ _ => rfl) :
    RE X Γ os (.Subscript a b pos) tInt (SM.bind m fun x => SM.bind n fun y => SM.lift (atI x y)) := by
  subst xk
  refine re_ix (ta := tScr X.K) (tb := tInt) (tc := tInt) (f := atI) ix_list (fun {x y z v u F M H Q} e hx hy g q => ?_) im_scr imF ha hb hs
  obtain ⟨_, a, ea, fa⟩ := hx
  refine ⟨a, _, y, .int z, ea, hy.2, sql_good g fa, ?_, fl (gA := V.int) q g⟩
  unfold atI at e ⊢
  rw [List.length_map]
  cases q : ixN x.length y with
  | none => rw [q] at e; cases e
  | some j =>
    rw [q] at e
    have e' : x[j]? = some z := e
    show (x.map V.int)[j]? = _
    rw [List.getElem?_map, e'] <;> rfl
end
end Mi

namespace Mi
open PySem PySem.Spec PyProof.Rows L2

def blkB (N : List Str) (sc scope : Scope) (own : List (Str × Nat)) : Bool :=
  decide (scope.kind = .function) && (scope.names.all (fun y => decide (scope.names.lookup y.1 = some y.2)) && (own.all (fun p => decide (N[p.2]? = some p.1)) &&
  (scope.names.all (fun y => !decide (y.2 = .free) || (sc.names.any fun z => decide (z.1 = y.1) && (decide (z.2 = .cell) || decide (z.2 = .free)))) &&
  (scope.names.all (fun y => !(decide (y.2 = .local) || decide (y.2 = .cell)) || (decide (y.1 ∈ own.map (·.1)) || decide (y.1 ∉ N))) &&
  (scope.names.all fun y => (!(y.1 == ("__debug__" : Str)) && (!(y.1 == ("__classdict__" : Str)) && decide (y.1 ≠ "__name__"))))))))
section
variable {X : Cx} {N : List Str} {sc scope : Scope} {B : List Str} {k : Nat} {own : List (Str × Nat)}
theorem blkB_ok (xo : XOk X N sc B k) (h : blkB N sc scope own = true) : BlkOk X.N X.env.scope scope own ∧ ∀ y ∈ scope.names, (y.1 == ("__debug__" : Str)) = false ∧ (y.1 == ("__classdict__" : Str)) = false ∧ y.1 ≠ "__name__" := by
  unfold blkB at h
  simp only [Bool.and_eq_true, decide_eq_true_eq, Bool.not_eq_true', List.all_eq_true, Bool.or_eq_true, decide_eq_false_iff_not, List.any_eq_true] at h
  obtain ⟨h1, h2, h3, h4, h5, h6⟩ := h
  rw [xo.nN]
  refine ⟨⟨h1, h2, h3, fun y hy e => ?_, fun y hy e => ?_⟩, h6⟩
  · rcases h4 y hy with z | ⟨z, hz, e1, e2⟩
    · exact absurd e z
    · obtain ⟨j, hj⟩ := List.getElem?_of_mem hz
      have q := xo.ce j z.1 z.2 hj e2
      rw [e1] at q
      exact q
  · rcases h5 y hy with z | z
    · exact absurd e (by
        have z' := z
        simp only [Bool.or_eq_false_iff, decide_eq_false_iff_not] at z'
        rintro (q | q)
        · exact z'.1 q
        · exact z'.2 q)
    · exact z
theorem lookup_relS_free {sc : Scope} : ∀ {names : List (Str × NameKind)} {x : Str}, names.lookup x = some .free →
    (names.map fun (n, k) => if (k == NameKind.free && sc.kind == .function && sc.names.lookup n == some .cell) then (n, NameKind.cell) else (n, k)).lookup x = some .free ∨
    (names.map fun (n, k) => if (k == NameKind.free && sc.kind == .function && sc.names.lookup n == some .cell) then (n, NameKind.cell) else (n, k)).lookup x = some .cell
  | [], x, h => by simp at h
  | (n, k₀) :: r, x, h => by
    have ih := @lookup_relS_free sc r x
    show List.lookup x ((if (k₀ == NameKind.free && sc.kind == .function && sc.names.lookup n == some .cell) = true then (n, NameKind.cell) else (n, k₀)) :: (r.map _)) = some .free ∨ List.lookup x ((if (k₀ == NameKind.free && sc.kind == .function && sc.names.lookup n == some .cell) = true then (n, NameKind.cell) else (n, k₀)) :: (r.map _)) = some .cell
    cases hx : x == n with
    | true =>
      simp only [List.lookup_cons, hx] at h
      cases h
      by_cases hc : (NameKind.free == NameKind.free && sc.kind == .function && sc.names.lookup n == some .cell) = true
      · rw [if_pos hc]; simp only [List.lookup_cons, hx]; simp
      · rw [if_neg hc]; simp only [List.lookup_cons, hx]; simp
    | false =>
      simp only [List.lookup_cons, hx] at h
      by_cases hc : (k₀ == NameKind.free && sc.kind == .function && sc.names.lookup n == some .cell) = true
      · rw [if_pos hc]; simp only [List.lookup_cons, hx]; exact ih h
      · rw [if_neg hc]; simp only [List.lookup_cons, hx]; exact ih h
theorem xo_blk (xo : XOk X N sc B k) (h : blkB N sc scope own = true) (s : Shared) (H : Hp) (C : Addr) (cl : List (Str × Addr)) (fp : List Addr) : XOk (X.blk s H scope (compEnvC scope cl C X.env) fp) N scope B k := by
  obtain ⟨ok, hd⟩ := blkB_ok xo h
  have rl : (compEnvC scope cl C X.env).scope = relS scope X.env.scope := rfl
  have keep : ∀ (x : Str) (kd : NameKind), kd ≠ .free → scope.names.lookup x = some kd → (compEnvC scope cl C X.env).scope.names.lookup x = some kd := fun x kd hk e => by
    rw [rl]
    exact lookup_relS_keep hk e
  have free : ∀ (x : Str), scope.names.lookup x = some .free → (compEnvC scope cl C X.env).scope.names.lookup x = some .free ∨ (compEnvC scope cl C X.env).scope.names.lookup x = some .cell := fun x e => by
    rw [rl]
    exact lookup_relS_free e
  refine ⟨xo.nN, fun j x kd e => hd _ (List.mem_of_getElem? e), fun j x kd e hk => ?_, fun j x e => ?_, fun j x kd e hk => ?_, fun j x kd e hk => ?_, fun j x kd e hk => keep x kd hk (ok.uniq _ (List.mem_of_getElem? e)), ok.kind, xo.nd, xo.fr, xo.room, xo.calm⟩
  · have q := ok.uniq _ (List.mem_of_getElem? e)
    cases kd with
    | «local» => exact .inl (keep x _ (by decide) q)
    | cell => exact .inr (.inl (keep x _ (by decide) q))
    | free => exact (free x q).elim (fun z => .inr (.inr z)) fun z => .inr (.inl z)
    | _ => cases hk
  · exact keep x _ (by decide) (ok.uniq _ (List.mem_of_getElem? e))
  · have q := ok.uniq _ (List.mem_of_getElem? e)
    cases kd with
    | «local» => exact ⟨.inl (keep x _ (by decide) q), .inr (keep x _ (by decide) q)⟩
    | cell =>
      refine ⟨.inr (keep x _ (by decide) q), .inl ?_⟩
      show (scope.names.lookup x == some .cell) = true
      rw [show scope.names.lookup x = some .cell from q] <;> rfl
    | _ => cases hk
  · have q := ok.uniq _ (List.mem_of_getElem? e)
    rcases hk with rfl | rfl
    · exact .inl (keep x _ (by decide) q)
    · exact (free x q).elim .inr .inl
end
section
variable {X : Cx} {Γ : Ctx} {os : Os}
def bestTs (X : Cx) (ifs : List Expr) : TT := fun σ H Q => ∃ t, PTs X ifs t ∧ t σ H Q
def RTs (X : Cx) (Γ : Ctx) (os : Os) (ifs : List Expr) (m : SM (OT os) Bool) : Prop :=
  ∀ (σ : L2.St) (F M R H : Hp) (o : OT os) (W : WX) (Q : Bool → Hp → Prop), Takes X W → CtxOk Γ σ F → OwnOk os o σ F M R → Good F M H →
    Want (m o) (NormT os σ F R Q) (ExcE X os σ F R W) → bestTs X ifs σ H Q
theorem rts_one {e : Expr} {m : SM (OT os) Bool} (h : RT X Γ os e m) : RTs X Γ os [e] m := fun σ F M R H o W Q tk c w g q => ⟨_, pts_one (pt_best X e), h σ F M R H o W Q tk c w g q⟩
def noX {O A : Type} (m : SM O A) : SM O A := fun o => match m o with
  | some (.ok x, o) => some (.ok x, o)
  | _ => none
def mapS {O A C : Type} (mt : A → SM O Bool) (me : A → SM O C) : List A → SM O (List C)
  | [] => SM.ret []
  | x :: xs => SM.bind (noX (mt x)) fun b => if b = true then SM.bind (noX (me x)) fun y => SM.bind (mapS mt me xs) fun ys => SM.ret (y :: ys) else mapS mt me xs
def wipeC (Γ : Ctx) : List Nat → Ctx
  | [] => Γ
  | i :: r => (wipeC Γ r).set i none
theorem CtxOk.wipe {σ : L2.St} {F : Hp} (h : CtxOk Γ σ F) : ∀ vs : List Nat, CtxOk (wipeC Γ vs) (wipe σ vs) F
  | [] => h
  | i :: r => (CtxOk.wipe h r).out
theorem wipe_ne {σ : L2.St} {i : Nat} : ∀ {vs : List Nat}, i ∉ vs → (wipe σ vs)[i]? = σ[i]?
  | [], _ => rfl
  | v :: vs, h => by
    unfold wipe
    rw [List.getElem?_set_ne fun e => h (by rw [e]; exact List.mem_cons_self)]
    exact wipe_ne fun e => h (List.mem_cons_of_mem _ e)
theorem wipe_in {σ : L2.St} {i : Nat} : ∀ {vs : List Nat}, i ∈ vs → i < σ.length → (wipe σ vs)[i]? = some none
  | [], h, _ => by cases h
  | v :: vs, h, l => by
    unfold wipe
    by_cases e : v = i
    · subst e
      exact List.getElem?_set_self (by rw [wipe_length]; exact l)
    · rw [List.getElem?_set_ne e]
      refine wipe_in ?_ l
      rcases List.mem_cons.mp h with z | z
      · exact absurd z.symm e
      · exact z
theorem wipe_same {σ σ2 : L2.St} {vs kp : List Nat} {n : Nat} (hl : σ.length = n) (h : (List.range n).all (fun i => vs.contains i || kp.contains i) = true) (k : Keep kp (wipe σ vs) σ2) : wipe σ2 vs = wipe σ vs := by
  have l2 : σ2.length = σ.length := k.1.trans (wipe_length _ _)
  apply List.ext_getElem?
  intro i
  by_cases hi : i < n
  · by_cases hv : i ∈ vs
    · rw [wipe_in hv (by rw [l2, hl]; exact hi), wipe_in hv (by rw [hl]; exact hi)]
    · have z := List.all_eq_true.mp h i (List.mem_range.mpr hi)
      simp only [Bool.or_eq_true, List.contains_iff_mem] at z
      rw [wipe_ne hv]
      exact k.2 i (z.resolve_left hv)
  · rw [List.getElem?_eq_none (by rw [wipe_length, l2, hl]; omega), List.getElem?_eq_none (by rw [wipe_length, hl]; omega)]
variable {N : List Str} {sc scope : Scope} {B : List Str} {k : Nat} {pos : Pos} {t u : Ty} {elt tg iter : Expr} {ifs : List Expr}
theorem lc_read {Lks : Md → Prop} (lks : Lks X.md) (xo : XOk X N sc B k) (own : List (Str × Nat)) (kp : List Nat) {mi : SM (OT os) (List t.A)} {Γx : t.A → Ctx} {mt : t.A → SM (OT os) Bool} {me : t.A → SM (OT os) u.A} (iu : Imm u)
    (hi : RI X Γ os tg iter t mi)
    (hg : ∀ X', XOk X' N scope B k → RG X' kp (wipeC Γ (own.map (·.2))) os tg t Γx)
    (ht : ∀ X', Lks X'.md → XOk X' N scope B k → ∀ x, RTs X' (Γx x) os ifs (mt x))
    (he : ∀ X', Lks X'.md → XOk X' N scope B k → ∀ x, RE X' (Γx x) os elt u (me x))
    (hb : blkB N sc scope own = true := by decide +kernel) (hkp : (List.range Γ.length).all (fun i => (own.map (·.2)).contains i || kp.contains i) = true := by rfl)
    (ho : (own.all fun p => noSlot p.2 os) = true := by rfl)
    (hs : ∀ x, foldedSetIterable iter X.env x = pure x := by intro _; rfl) :
    ∃ wi g tt te, PI X tg iter wi ∧ BlkOk X.N X.env.scope scope own ∧ (∀ (s : Shared) (H : Hp) (C : Addr) (cl : List (Str × Addr)) (fp : List Addr), PG (X.blk s H scope (compEnvC scope cl C X.env) fp) tg g) ∧
      (∀ (s : Shared) (H : Hp) (C : Addr) (cl : List (Str × Addr)) (fp : List Addr), PTs (X.blk s H scope (compEnvC scope cl C X.env) fp) ifs tt) ∧ (∀ (s : Shared) (H : Hp) (C : Addr) (cl : List (Str × Addr)) (fp : List Addr), PE (X.blk s H scope (compEnvC scope cl C X.env) fp) elt te) ∧
      ∀ (σ : L2.St) (F M R H : Hp) (o : OT os) (W : WX) (Q : VK), Takes X W → CtxOk Γ σ F → OwnOk os o σ F M R → Good F M H →
        Want ((SM.bind mi fun xs => if xs.length ≤ sizeLine then mapS mt me xs else SM.fail) o) (NormE os (tOwn u) σ F R Q) (ExcE X os σ F R W) → tLc wi g tt te (own.map (·.2)) σ H Q := by
  obtain ⟨ok, _⟩ := blkB_ok xo hb
  -- the family of the blocks' contexts
  let Fam : Cx → Prop := fun X' => ∃ s H C cl fp, X' = X.blk s H scope (compEnvC scope cl C X.env) fp
  have fo : ∀ X', Fam X' → XOk X' N scope B k := by rintro _ ⟨s, H, C, cl, fp, rfl⟩; exact xo_blk xo hb s H C cl fp
  have fl : ∀ X', Fam X' → Lks X'.md := by rintro _ ⟨s, H, C, cl, fp, rfl⟩; exact lks
  have ft : ∀ X', Fam X' → Takes X' (fun _ _ _ _ => False) := by
    rintro _ ⟨s, H, C, cl, fp, rfl⟩ u s' ⟨a, B, sI, pins, σ, H, cls, d, e, I, nb, up, sky, na, os, ag, w⟩
    exact w.elim
  let gg : TG := fun v σ H K => ∀ X', Fam X' → ∃ g', PG X' tg g' ∧ g' v σ H K
  let tt : TT := fun σ H Q => ∀ X', Fam X' → bestTs X' ifs σ H Q
  let te : TE := fun σ H Q => ∀ X', Fam X' → best X' elt σ H Q
  have pg : ∀ (s : Shared) (H : Hp) (C : Addr) (cl : List (Str × Addr)) (fp : List Addr), PG (X.blk s H scope (compEnvC scope cl C X.env) fp) tg gg := fun s H C cl fp =>
    ⟨fun pins s1 σ H1 v u Q I r h => by obtain ⟨g', p, z⟩ := h _ ⟨s, H, C, cl, fp, rfl⟩; exact p.run pins s1 σ H1 v u Q I r z⟩
  have pt : ∀ (s : Shared) (H : Hp) (C : Addr) (cl : List (Str × Addr)) (fp : List Addr), PTs (X.blk s H scope (compEnvC scope cl C X.env) fp) ifs tt := fun s H C cl fp =>
    ⟨fun pins s1 σ H1 Q I h => by obtain ⟨g', p, z⟩ := h _ ⟨s, H, C, cl, fp, rfl⟩; exact p.run pins s1 σ H1 Q I z⟩
  have pe : ∀ (s : Shared) (H : Hp) (C : Addr) (cl : List (Str × Addr)) (fp : List Addr), PE (X.blk s H scope (compEnvC scope cl C X.env) fp) elt te := fun s H C cl fp =>
    ⟨fun pins s1 σ H1 Q I h => by obtain ⟨g', p, z⟩ := h _ ⟨s, H, C, cl, fp, rfl⟩; exact p.run pins s1 σ H1 Q I z⟩
  refine ⟨bestI X tg iter, gg, tt, te, pi_best X tg iter, ok, pg, pt, pe, fun σ F M R H o W Q tk c w g q => ?_⟩
  refine hi σ F M R H o W _ tk c w g (q.bind.imp (fun xs o1 z => ?_) fun _ _ z => z)
  intro J F1 M1 H1 s1 w1 g1 y1 D hD
  by_cases hlen : xs.length ≤ sizeLine
  · rw [if_pos hlen] at z
    have hsl : ∀ (σ2 : L2.St), (∀ i, i ∉ own.map (·.2) → σ2[i]? = σ[i]?) → ∀ p ∈ os, σ2[p.1]? = σ[p.1]? := fun σ2 h p hp => h p.1 fun hm => by
      obtain ⟨y, hy, e⟩ := List.mem_map.mp hm
      exact noSlot_ne (List.all_eq_true.mp ho y hy) p hp e.symm
    refine ⟨fun i m H2 => m = xs.length - i ∧ i ≤ xs.length ∧ ∃ accx acc o2 F2 M0 M2, Sub F1 F2 ∧ OwnOk os o2 σ F2 M0 R ∧ Sep (sing D (.lst acc)) M0 M2 ∧ Good F2 M2 H2 ∧ AllR u accx acc F2 ∧ acc.length ≤ i ∧
      Want (mapS mt me (xs.drop i) o2) (fun ys o => NormE os (tOwn u) σ F2 R Q (accx ++ ys) o) (ExcE X os σ F2 R W), ?_, ?_⟩
    · obtain ⟨g2, s2⟩ := g1.newM (o := .lst []) hD
      exact ⟨_, rfl, Nat.zero_le _, [], [], o1, F1, M1, _, .refl _, w1, s2, g2, rfl, Nat.le_refl _, z.imp (fun ys o2 y => y.mono s1) fun _ _ y => y.mono s1⟩
    · rintro i m H2 ⟨rfl, hi2, accx, acc, o2, F2, M0, M2, s2, w2, p2, g2, r2, l2, q2⟩
      obtain ⟨st, go⟩ := y1 F2 M2 H2 s2 g2 i
      by_cases hlt : i < xs.length
      · have hx : xs[i]? = some xs[i] := List.getElem?_eq_getElem hlt
        obtain ⟨go1, go2⟩ := go xs[i] hx
        refine .inr ⟨go1, fun H3 => i + 1 ≤ xs.length ∧ ∃ accx acc o2 F2 M0 M2, Sub F1 F2 ∧ OwnOk os o2 σ F2 M0 R ∧ Sep (sing D (.lst acc)) M0 M2 ∧ Good F2 M2 H3 ∧ AllR u accx acc F2 ∧ acc.length ≤ i + 1 ∧
          Want (mapS mt me (xs.drop (i + 1)) o2) (fun ys o => NormE os (tOwn u) σ F2 R Q (accx ++ ys) o) (ExcE X os σ F2 R W), fun H3 h => ⟨xs.length - (i + 1), by omega, rfl, h.1, h.2⟩, fun v H3 hy => ?_⟩
        obtain ⟨F3, s3, g3, r3⟩ := go2 v H3 hy
        intro X' fam
        obtain ⟨g', pg', hg'⟩ := hg X' (fo X' fam)
        have cw : CtxOk (wipeC Γ (own.map (·.2))) (wipe σ (own.map (·.2))) F3 := (c.mono ((s1.trans s2).trans s3)).wipe _
        obtain ⟨R2, pR, w3⟩ := (w2.mono s3).frame p2
        have w4 : OwnOk os o2 (wipe σ (own.map (·.2))) F3 M2 R2 := w3.slots (hsl _ fun i hi => wipe_ne hi)
        refine ⟨g', pg', hg' _ F3 M2 R2 H3 o2 xs[i] v _ cw w4 g3 r3 fun σ4 k4 c4 w5 => ?_⟩
        have ew : wipe σ4 (own.map (·.2)) = wipe σ (own.map (·.2)) := wipe_same c.1.symm hkp k4
        have es : ∀ i, i ∉ own.map (·.2) → σ4[i]? = σ[i]? := fun i hi => by
          have z1 := wipe_ne (σ := σ4) hi
          rw [ew, wipe_ne hi] at z1
          exact z1.symm
        refine ⟨ew, fun X2 fam2 => ?_⟩
        have q3 : Want (mapS mt me (xs.drop i) o2) (fun ys o => NormE os (tOwn u) σ F2 R Q (accx ++ ys) o) (ExcE X os σ F2 R W) := q2
        rw [List.drop_eq_getElem_cons hlt] at q3
        have q4 := (show Want (SM.bind (noX (mt xs[i])) _ o2) _ _ from q3).bind
        refine ht X2 (fl X2 fam2) (fo X2 fam2) xs[i] σ4 F3 M2 R2 H3 o2 _ _ (ft X2 fam2) c4 w5 g3 ?_
        unfold noX at q4
        cases et : mt xs[i] o2 with
        | none => rw [et] at q4; exact q4
        | some rt =>
          obtain ⟨rt, o3⟩ := rt
          rw [et] at q4
          cases rt with
          | error ex => exact q4.elim
          | ok b =>
            intro F4 M4 H4 s4 w6 g4
            have w7 := w6.slots (fun p hp => (hsl σ4 es p hp).symm)
            cases b with
            | false =>
              obtain ⟨M5, p5, w8⟩ := OwnOk.unframe w7 pR
              exact ⟨hlt, accx, acc, o3, F4, M5, M4, (s2.trans s3).trans s4, w8, p5, g4, r2.mono (s3.trans s4), Nat.le_succ_of_le l2, (show Want (mapS mt me (xs.drop (i + 1)) o3) _ _ from q4).imp (fun ys o y => y.mono (s3.trans s4)) fun _ _ y => y.mono (s3.trans s4)⟩
            | true =>
              intro X3 fam3
              have q5 := (show Want (SM.bind (noX (me xs[i])) _ o3) _ _ from q4).bind
              refine he X3 (fl X3 fam3) (fo X3 fam3) xs[i] σ4 F4 M4 R2 H4 o3 _ _ (ft X3 fam3) (c4.mono s4) w6 g4 ?_
              unfold noX at q5
              cases ee : me xs[i] o3 with
              | none => rw [ee] at q5; exact q5
              | some re =>
                obtain ⟨re, o4⟩ := re
                rw [ee] at q5
                cases re with
                | error ex => exact q5.elim
                | ok y =>
                  intro v' F5 M5 mm M5' H5 s5 w8 p8 g5 r5
                  have e := iu r5; subst e
                  have e := p8.emp_l; subst e
                  have w9 := w8.slots (fun p hp => (hsl σ4 es p hp).symm)
                  obtain ⟨M6, p6, w10⟩ := OwnOk.unframe w9 pR
                  have hDm : H5 D = some (.lst acc) := g5.m _ _ (p6.l _ _ sing_same)
                  refine ⟨acc, hDm, Nat.lt_of_le_of_lt l2 (Nat.lt_of_lt_of_le hlt hlen), ?_⟩
                  obtain ⟨M7, p7, g7⟩ := g5.set (o' := .lst (acc ++ [v'])) p6
                  refine ⟨hlt, accx ++ [y], acc ++ [v'], o4, F5, M6, M7, ((s2.trans s3).trans s4).trans s5, w10, p7, g7, (r2.mono ((s3.trans s4).trans s5)).snoc r5, by rw [List.length_append]; exact Nat.succ_le_succ l2, ?_⟩
                  refine (show Want (SM.bind (mapS mt me (xs.drop (i + 1))) _ o4) _ _ from q5).bind.imp (fun ys o y => ?_) fun _ _ y => y.mono ((s3.trans s4).trans s5)
                  rw [List.append_assoc]
                  exact NormE.mono (show NormE os (tOwn u) σ F2 R Q _ o from y) ((s3.trans s4).trans s5)
      · have e : i = xs.length := by omega
        subst e
        rw [List.drop_length] at q2
        have q3 : NormE os (tOwn u) σ F2 R Q (accx ++ []) o2 := q2
        rw [List.append_nil] at q3
        exact .inl ⟨st (Nat.le_refl _), q3 (.ref D) F2 M0 _ M2 H2 (.refl _) w2 p2 g2 ⟨D, acc, rfl, rfl, r2⟩⟩
  · rw [if_neg hlen] at z; exact z.elim
theorem re_lc {Lks : Md → Prop} (lks : Lks X.md) (xo : XOk X N sc B k) (own : List (Str × Nat)) (kp : List Nat) {mi : SM (OT os) (List t.A)} {Γx : t.A → Ctx} {mt : t.A → SM (OT os) Bool} {me : t.A → SM (OT os) u.A} (iu : Imm u)
    (hi : RI X Γ os tg iter t mi)
    (hg : ∀ X', XOk X' N scope B k → RG X' kp (wipeC Γ (own.map (·.2))) os tg t Γx)
    (ht : ∀ X', Lks X'.md → XOk X' N scope B k → ∀ x, RTs X' (Γx x) os ifs (mt x))
    (he : ∀ X', Lks X'.md → XOk X' N scope B k → ∀ x, RE X' (Γx x) os elt u (me x))
    (hb : blkB N sc scope own = true := by decide +kernel) (hkp : (List.range Γ.length).all (fun i => (own.map (·.2)).contains i || kp.contains i) = true := by rfl)
    (ho : (own.all fun p => noSlot p.2 os) = true := by rfl)
    (hs : ∀ x, foldedSetIterable iter X.env x = pure x := by intro _; rfl) :
    RE X Γ os (.ListComp elt [⟨tg, iter, ifs, 0⟩] scope pos) (tOwn u) (SM.bind mi fun xs => if xs.length ≤ sizeLine then mapS mt me xs else SM.fail) := by
  obtain ⟨wi, g, tt, te, h1, ok, h2, h3, h4, h5⟩ := lc_read lks xo own kp iu hi hg ht he hb hkp ho hs
  exact fun σ F M R H o W Q tk c w gd q => ⟨_, pe_lc xo.calm xo.nd h1 ok h2 h3 h4 hs, h5 σ F M R H o W Q tk c w gd q⟩
end
end Mi

namespace Mi
open PySem PySem.Spec PyProof.Rows L2
theorem im_dat : Imm tDat := fun a => a.1
theorem boot_isi : bootBuiltins "isinstance" = some (.builtin "isinstance") := by decide +kernel
theorem boot_str : bootBuiltins "str" = some (.type "str") := by decide +kernel
theorem boot_repr : bootBuiltins "repr" = some (.builtin "repr") := by decide +kernel
section
variable {X : Cx} {N : List Str} {sc : Scope} {B : List Str} {k : Nat} {Γ : Ctx} {os : Os} {pos p p2 p3 cpos apos : Pos} {e a b : Expr} {es rest : List Expr} {t u : Ty}
theorem ctx_cv {i : Nat} {x : t.A} {f : u.A} (hΓ : Γ[i]? = some (some ⟨t, x⟩)) (hc : ∀ v F, t.rep x v F emp → u.rep f v F emp) : ∀ σ F, CtxOk Γ σ F → CtxOk (Γ.set i (some ⟨u, f⟩)) σ F := by
  intro σ F c
  obtain ⟨v, e, r⟩ := c.2 i t x hΓ
  have c3 := c.set (i := i) (t := u) (x := f) (v := v) (hc v F r)
  have e3 : σ.set i (some v) = σ := by
    apply List.ext_getElem?
    intro j
    by_cases hj : j = i
    · subst hj
      have hl : j < σ.length := (List.getElem?_eq_some_iff.mp e).1
      rw [List.getElem?_set_self hl, e]
    · rw [List.getElem?_set_ne (Ne.symm hj)]
  rw [e3] at c3
  exact c3
def isStr : Dat → Bool
  | .str _ => true
  | _ => false
theorem kit_str : kitB "str" "str" = some true ∧ kitB "int" "str" = some false ∧ kitB "bool" "str" = some false ∧ kitB "NoneType" "str" = some false ∧ kitB "list" "str" = some false ∧ kitB "tuple" "str" = some false ∧ kitB "dict" "str" = some false := by decide +kernel
theorem dat_isi {K : PySem.W.Frag} {x : Dat} {v : V} {F M H : Hp} (r : DRep x v F) (g : Good F M H) : ∃ t, TyX K H v t ∧ PySem.W.kitOne K t (.type "str") = some (isStr x) := by
  obtain ⟨k1, k2, k3, k4, k5, k6, k7⟩ := kit_str
  cases x with
  | non => unfold DRep at r; subst r; exact ⟨_, .base .non, kit_ty k4⟩
  | bl b => unfold DRep at r; subst r; exact ⟨_, .base (.bl b), kit_ty k3⟩
  | int i => unfold DRep at r; subst r; exact ⟨_, .base (.int i), kit_ty k2⟩
  | str s => unfold DRep at r; subst r; exact ⟨_, .base (.str _), kit_ty k1⟩
  | lst xs => unfold DRep at r; obtain ⟨a, vs, e, q, _⟩ := r; subst e; exact ⟨_, .base (.lst (g.f _ _ q)), kit_ty k5⟩
  | tup xs => unfold DRep at r; obtain ⟨a, vs, e, q, _⟩ := r; subst e; exact ⟨_, .base (.tup (g.f _ _ q)), kit_ty k6⟩
  | dct ks xs => unfold DRep at r; obtain ⟨a, o, vs, e, q, _⟩ := r; subst e; exact ⟨_, .fDict (g.f _ _ q), kit_ty k7⟩
  | opq =>
    unfold DRep at r
    obtain ⟨a, e, q⟩ := r
    subst e
    rcases q with ⟨xs, z⟩ | ⟨xs, z⟩ | ⟨xs, z⟩
    · exact ⟨_, .base (.lst (g.f _ _ z)), kit_ty k5⟩
    · exact ⟨_, .base (.tup (g.f _ _ z)), kit_ty k6⟩
    · exact ⟨_, .base (.dK (g.f _ _ z)), kit_ty k7⟩
  | raw u =>
    unfold DRep at r
    obtain ⟨e0, a, e, q⟩ := r
    subst e0 e
    rcases q with ⟨xs, z⟩ | ⟨xs, z⟩ | ⟨xs, z⟩ | ⟨o, xs, z⟩
    · exact ⟨_, .base (.lst (g.f _ _ z)), kit_ty k5⟩
    · exact ⟨_, .base (.tup (g.f _ _ z)), kit_ty k6⟩
    · exact ⟨_, .base (.dK (g.f _ _ z)), kit_ty k7⟩
    · exact ⟨_, .fDict (g.f _ _ z), kit_ty k7⟩
theorem re_isi (xo : XOk X N sc B k) (ga ma g2 m2 : Nat) {m : SM (OT os) Dat} (h : RE X Γ os e tDat m) (hg : sc.names[ga]? = some (gI "isinstance") := by rfl) (hm : B[ma]? = some "isinstance" := by rfl) (hg2 : sc.names[g2]? = some (gI "str") := by rfl) (hm2 : B[m2]? = some "str" := by rfl)
    (he : starEach [e, .Name "str" p2] X.env = (false, eval e X.env) :: starEach [.Name "str" p2] X.env := by rfl) (he2 : starEach [.Name "str" p2] X.env = (false, eval (.Name "str" p2) X.env) :: starEach [] X.env := by rfl) (hpl : (backTo pos (starEach [.Name "str" p2] X.env)).any (·.1) = false := by rfl) :
    RE X Γ os (.Call (.Name "isinstance" p) [e, .Name "str" p2] [] pos) tBool (SM.bind m fun x => SM.ret (isStr x)) := by
  intro σ F M R H o W Q tk c w g q
  refine ⟨_, pe_callB call_isi (xo.gl ga _ hg) (xo.fr ma _ hm) boot_isi (pa_cons (pe_best X e) (pa_cons (pe_bltn (v := .ty "str") (xo.gl g2 _ hg2) (xo.fr m2 _ hm2) boot_str rfl) pa_nil he2) he) (by decide) (by decide) he hpl, ?_⟩
  refine one_end im_dat h tk c w g q fun x o2 v F2 M2 H2 h2 s2 w2 g2 r2 => ?_
  obtain ⟨t, ty, kit⟩ := dat_isi (K := X.K) r2.2 g2
  exact ⟨v, .ty "str", t, .type "str", isStr x, rfl, .ty "str", ty, kit, end_flat (g := V.bl) (show NormE os tBool σ F R Q (isStr x) o2 from h2) s2 w2 g2⟩
theorem cv_chrD : Cv tChr tDat (fun c => Dat.str [c]) := fun h => ⟨h.1, by unfold DRep; exact h.2⟩
def Dat.asStr {A : Type} (x : Dat) (n : List Nat → A) (d : A) : A := match x with
  | .str s => n s
  | _ => d
theorem ctx_asStr {i : Nat} {s : List Nat} (hΓ : Γ[i]? = some (some ⟨tDat, Dat.str s⟩)) : ∀ σ F, CtxOk Γ σ F → CtxOk (Γ.set i (some ⟨tStr, s⟩)) σ F := ctx_cv (u := tStr) (f := s) hΓ fun v F h => ⟨rfl, by have z := h.2; unfold DRep at z; exact z⟩
theorem re_andIsi (xo : XOk X N sc B k) (i j ga ma g2 m2 : Nat) {nm : Str} {kd : NameKind} {x : Dat} {n : List Nat → SM (OT os) Bool} (hb : ∀ s, RE X (Γ.set i (some ⟨tStr, s⟩)) os (.BoolOp .And (b :: rest) pos) tBool (n s))
    (hj : sc.names[j]? = some (nm, kd) := by rfl) (hk : visK kd = true := by rfl) (hN : N[i]? = some nm := by rfl) (hΓ : Γ[i]? = some (some ⟨tDat, x⟩) := by rfl)
    (hg : sc.names[ga]? = some (gI "isinstance") := by rfl) (hm : B[ma]? = some "isinstance" := by rfl) (hg2 : sc.names[g2]? = some (gI "str") := by rfl) (hm2 : B[m2]? = some "str" := by rfl) :
    RE X Γ os (.BoolOp .And (.Call (.Name "isinstance" p) [.Name nm p3, .Name "str" p2] [] cpos :: b :: rest) pos) tBool (Dat.asStr x n (SM.ret false)) := by
  have h0 : RE X Γ os (.Call (.Name "isinstance" p) [.Name nm p3, .Name "str" p2] [] cpos) tBool _ := re_isi xo ga ma g2 m2 (re_var xo i j hj hk hN hΓ) hg hm hg2 hm2 (by rfl) (by rfl) (by rfl)
  intro σ F M R H o W Q tk c w g q
  refine ⟨_, L2.pe_and (pe_best X _) (pe_best X _), h0 σ F M R H o W _ tk c w g ?_⟩
  show NormE os tBool σ F R _ (isStr x) o
  intro v F' M1 mm M' H' s w' p' g' ⟨e1, r1⟩
  subst e1
  have e := p'.emp_l; subst e
  refine ⟨isStr x, r1, ?_⟩
  cases x with
  | str z => exact hb z σ F' _ R H' o W Q tk (ctx_asStr hΓ σ F' (c.mono s)) w' g' ((show Want (n z o) _ _ from q).imp (fun x o2 z => z.mono s) fun _ _ z => z.mono s)
  | _ => exact end_flat (g := V.bl) (show NormE os tBool σ F R Q false o from q) s w' g'
def LkC (M : Md) (nm : Str) (v : V) : Prop := ∃ u, M.mg nm = some u ∧ RelV v u
theorem re_gstr (xo : XOk X N sc B k) {nm : Str} {s : List Nat} (l : LkC X.md nm (.str (sOf s))) (ga : Nat) (hg : sc.names[ga]? = some (nm, .globalImplicit) := by rfl) : RE X Γ os (.Name nm pos) tStr (SM.ret s) := fun σ F M R H o W Q tk c w g h =>
  ⟨_, C8.pe_gc (xo.gl ga _ hg) l (xo.db ga _ _ hg).1, end_flat (g := fun l => V.str (sOf l)) h (.refl F) w g⟩
theorem join_chr : ∀ l : List Nat, Txt.join (sOf []) (l.map fun c => sOf [c]) = sOf l := by
  intro l
  have z : (Txt.join (sOf []) (l.map fun c => sOf [c])).cps.toList = l := by
    show (Builtin.Str.glued (sOf []) (l.map fun c => sOf [c])).cps.toList = l
    cases l with
    | nil => rfl
    | cons c r =>
      show ((r.map fun c => sOf [c]).foldl (fun acc p => acc ++ (sOf []).cps ++ p.cps) (sOf [c]).cps).toList = c :: r
      rw [PySem.StrLaws.glue_fold]
      have h : ∀ r : List Nat, PySem.StrLaws.glueL (sOf []).cps.toList (r.map fun c => sOf [c]) = r := by
        intro r
        induction r with
        | nil => rfl
        | cons d r ih =>
          show [] ++ ([d] ++ PySem.StrLaws.glueL _ _) = d :: r
          rw [ih] <;> rfl
      rw [h] <;> rfl
  generalize Txt.join (sOf []) (l.map fun c => sOf [c]) = y at z
  cases y with
  | mk a => show (⟨a⟩ : Str) = ⟨l.toArray⟩; rw [← z]
theorem allR_chr {F : Hp} : ∀ {l : List Nat} {vs : List V}, AllR tChr l vs F → vs = (l.map fun c => sOf [c]).map V.str
  | [], vs, h => h
  | c :: l, _, ⟨v, r, e, q, k⟩ => by
    subst e
    rw [allR_chr k, show v = V.str (sOf [c]) from q.2] <;> rfl
theorem chr_sum : ∀ l : List Nat, ((l.map fun c => sOf [c]).map (·.length)).sum = l.length
  | [] => rfl
  | c :: l => by
    show 1 + ((l.map fun c => sOf [c]).map (·.length)).sum = l.length + 1
    rw [chr_sum l]; omega
abbrev tC0 : Ty := flat (List Nat) fun _ => V.str (sOf [])
theorem im_c0 : Imm tC0 := imF
theorem re_c0 {j : Nat} : RE X Γ os (.Constant (.str "") j p) tC0 (SM.ret []) := fun σ F M R H o W Q tk c w g h => ⟨_, pe_str, end_flat (g := fun _ => V.str (sOf [])) h (.refl F) w g⟩
theorem re_join0 {j : Nat} {m : SM (OT os) (List Nat)} (h : RE X Γ os e (tLst tChr) m) (hline : (apos.endLine == pos.line) = true := by rfl) (he : starEach [e] X.env = (false, eval e X.env) :: starEach [] X.env := by rfl)
    (hpl : (backTo pos (starEach [] X.env)).any (·.1) = false := by rfl)
    (hfew : ((backTo pos (starEach [e] X.env)).all (fun x => !x.1) && (backToKw pos (keywordEach [] X.env)).all (fun x => x.1.isSome)
      && decide ([e].length + ([] : List Keyword).length + (if ([] : List Keyword).isEmpty then 0 else 1) < 30)) = true := by rfl) :
    RE X Γ os (.Call (.Attribute (.Constant (.str "") j p) "join" apos) [e] [] pos) tStr (SM.bind (SM.ret ([] : List Nat)) fun _ => SM.bind (SM.bind m fun x => SM.bind (SM.ret ()) fun y => SM.ret (x, y)) fun x => SM.lift (if x.1.length ≤ 16777216 then some x.1 else none)) := by
  have hr : RA X Γ os [e] [tLst tChr] _ := ra_cons im_lst h ra_nil he
  refine re_bm (to := tC0) (ts := [tLst tChr]) (tc := tStr) (f := fun s x => if x.1.length ≤ 16777216 then some x.1 else none) F.plainAttrs_str F.slot_str_join F.type_str_join mt_join (fun r _ => by
    obtain ⟨_, e⟩ := r; subst e; rfl) (fun {x y z v vs F M H Q} e hx hy g q => ?_) im_c0 re_c0 hr rfl hline he hpl hfew
  obtain ⟨_, ea⟩ := hx
  obtain ⟨v1, us, e1, ⟨_, a, ws, ea1, fa, r⟩, e2⟩ := hy
  have e2' : us = [] := e2
  subst e2' e1 ea1 ea
  have e' : (if y.1.length ≤ 16777216 then some y.1 else none) = some z := e
  by_cases hl : y.1.length ≤ 16777216
  · rw [if_pos hl] at e'
    cases e'
    have ew := allR_chr r
    subst ew
    refine ⟨sOf [], a, y.1.map fun c => sOf [c], rfl, rfl, .inl (.inl (.inl (g.f _ _ fa))), ?_, ?_⟩
    · rw [chr_sum]; show y.1.length + _ * 0 ≤ _; omega
    · rw [join_chr]
      exact fl (gA := fun l => V.str (sOf l)) q g
  · rw [if_neg hl] at e'; cases e'
end
end Mi

namespace Mi
open PySem PySem.Spec PyProof.Rows L2
section
variable {X : Cx} {N : List Str} {sc : Scope} {B : List Str} {k : Nat} {Γ : Ctx} {os : Os} {pos p p1 p2 p3 cpos apos : Pos} {e a b : Expr} {es rest : List Expr} {t u : Ty}
theorem op_mulS : OpR X (binaryOp .Mult) (fun x y H Q => ∃ (l : List Nat) (n : Nat), x = .str (sOf l) ∧ y = .int (n : Int) ∧ 2 ≤ n ∧ n ≤ 1000 ∧ l.length ≤ 10000 ∧ Q (.str (sOf (List.replicate n l).flatten)) H) := by
  intro pins s σ H x y v u Q I rx ry h
  obtain ⟨l, n, rfl, rfl, h2, h3, h5, q⟩ := h
  obtain ⟨t, rfl⟩ := rx
  obtain ⟨t', rfl⟩ := ry
  have hlen : (sOf l).length = l.length := rfl
  have ef : ∀ (n : Nat) (acc : Array Nat), (List.replicate n (sOf l).cps).foldl (· ++ ·) acc = acc ++ (List.replicate n l).flatten.toArray := by
    intro n
    induction n with
    | zero => intro acc; simp
    | succ n ih => intro acc; rw [List.replicate_succ, List.foldl_cons, ih, List.replicate_succ, List.flatten_cons]; show acc ++ l.toArray ++ _ = _; simp
  have hc1 : ¬ (n : Int) < 1 := by omega
  have hc2 : ((n : Int) == 1 || (sOf l).length == 0) = (l.length == 0) := by
    rw [hlen]
    have a1 : ((n : Int) == 1) = false := by rw [beq_eq_false_iff_ne]; omega
    rw [a1]; rfl
  have hsz : l.length * n ≤ 10000 * 1000 := Nat.mul_le_mul h5 h3
  refine P.mul_str ?_ (fun _ _ => ?_) (fun _ _ => ?_) ?_
  · rw [decide_eq_false (by omega), decide_eq_false (by omega)]; rfl
  · rw [hlen]
    intro hgt
    have : (2 ^ 63 - 1) / (n : Int) ≥ 9223372036854775807 / 1000 := by
      apply Int.le_ediv_of_mul_le (by omega)
      have : (9223372036854775807 / 1000 : Int) * n ≤ (9223372036854775807 / 1000 : Int) * 1000 := Int.mul_le_mul_of_nonneg_left (by omega) (by decide)
      omega
    omega
  · rw [hlen]
    have e : (n : Int).toNat = n := by omega
    rw [e]
    show decide (_ > sizeLine) = false
    rw [sizeLine_eq]
    exact decide_eq_false (by omega)
  · rw [if_neg hc1, hc2]
    by_cases h0 : l.length = 0
    · have e0 := List.eq_nil_of_length_eq_zero h0
      subst e0
      rw [if_pos (by rfl)]
      refine ⟨.str (sOf []), H, I.tok _, ⟨_, rfl⟩, ?_⟩
      have ez : (List.replicate n ([] : List Nat)).flatten = [] := by simp
      rw [ez] at q
      exact q
    rw [if_neg (by simpa using h0)]
    have e : (n : Int).toNat = n := by omega
    rw [e, ef]
    have e2 : (#[] ++ (List.replicate n l).flatten.toArray : Array Nat) = (List.replicate n l).flatten.toArray := by simp
    rw [e2]
    refine ⟨?_, .str (sOf (List.replicate n l).flatten), H, I.tok _, ⟨_, rfl⟩, q⟩
    show (List.replicate n l).flatten.toArray.size ≤ sizeLine
    rw [List.size_toArray, List.length_flatten, List.map_replicate, List.sum_replicate_nat, sizeLine_eq, Nat.mul_comm]
    omega
end
end Mi

namespace Mi
open PySem PySem.Spec PyProof.Rows L2
section
variable {X : Cx} {N : List Str} {sc : Scope} {B : List Str} {k : Nat} {Γ : Ctx} {os : Os} {pos p p1 p2 p3 cpos apos : Pos} {e a b : Expr} {es rest : List Expr} {t u : Ty}
theorem dp_chr {K : PySem.W.Frag} {H : Hp} : ∀ l : List Nat, DpAll K H ((l.map fun c => sOf [c]).map V.str) (l.map fun c => PyData.str (sOf [c]))
  | [] => .nil
  | c :: l => .cons (.str _) (dp_chr l)
abbrev okC (l : List Nat) : Bool := l.all fun c => decide (c < 1114112)
theorem can_chr : ∀ l : List Nat, okC l = true → PyData.canLayAll0 (l.map fun c => PyData.str (sOf [c])) = true
  | [], _ => rfl
  | c :: l, h => by
    have h' : decide (c < 1114112) = true ∧ okC l = true := by
      have z : (decide (c < 1114112) && okC l) = true := h
      simpa [Bool.and_eq_true] using z
    show PyData.canLayAll0 (PyData.str (sOf [c]) :: _) = true
    rw [PyData.canLayAll0, can_chr l h'.2, PyData.canLay0, Bool.and_true]
    show (#[c].all fun c => decide (c < 1114112)) = true
    simpa using h'.1
theorem dep_chr : ∀ l : List Nat, PyData.depthAll (l.map fun c => PyData.str (sOf [c])) ≤ 1
  | [] => by decide
  | c :: l => by
    show PyData.depthAll (PyData.str (sOf [c]) :: _) ≤ 1
    have ih := dep_chr l
    rw [PyData.depthAll]
    have h : (PyData.str (sOf [c])).depth ≤ 1 := by rw [PyData.depth] <;> decide
    omega
theorem shp_chr (l : List Nat) (hl : okC l = true) : SeqAt.shaped (.list (l.map fun c => PyData.str (sOf [c]))) = true := by
  unfold SeqAt.shaped
  rw [Bool.and_eq_true]
  refine ⟨?_, decide_eq_true ?_⟩
  · rw [PyData.canLay0]; exact can_chr l hl
  · have h := dep_chr l
    rw [PyData.depth]
    omega
theorem eqv_chr0 (l : List Nat) : PyData.eqv (.list (l.map fun c => PyData.str (sOf [c]))) (.list []) = decide (l = []) := by
  rw [PyData.eqv]
  cases l with
  | nil => rw [List.map_nil, PyData.eqvAll]; rfl
  | cons c l => rw [List.map_cons, PyData.eqvAll]; rfl
theorem v_ne0 : VOp (rNeD X.K) (tLst tChr) (tLst tChr) tBool (fun x y => if y = [] ∧ okC x = true then some (!decide (x = [])) else none) := by
  intro x y z v u F M H Q e ⟨_, a, vs, ea, fa, ra⟩ ⟨_, b, us, eb, fb, rb⟩ g q
  have e' : (if y = [] ∧ okC x = true then some (!decide (x = [])) else none) = some z := e
  by_cases hy : y = [] ∧ okC x = true
  · rw [if_pos hy] at e'
    cases e'
    obtain ⟨hy, hx⟩ := hy
    subst hy
    have e1 := allR_chr ra
    have e2 : us = [] := rb
    subst e1 e2 ea eb
    refine ⟨.list (x.map fun c => PyData.str (sOf [c])), .list [], .lst (.inl (.inl (g.f _ _ fa))) (dp_chr x), .lst (.inl (.inl (g.f _ _ fb))) .nil, shp_chr x hx, shp_chr [] rfl, ?_⟩
    rw [eqv_chr0]
    exact fl (gA := V.bl) q g
  · rw [if_neg hy] at e'; cases e'
theorem units_ok (xo : XOk X N sc B k) : X.A.units + 64 < cLine := by have h := xo.room.un; omega
end
end Mi

namespace Mi
open PySem PySem.Spec PyProof.Rows L2
section
variable {X : Cx} {N : List Str} {sc : Scope} {B : List Str} {k : Nat} {Γ : Ctx} {os : Os} {pos p p1 p2 p3 cpos apos : Pos} {e a b : Expr} {es : List Expr} {rest : List Stmt} {t u : Ty}
variable {G : FX} {L : LC} {β : Type} {Γn : β → Ctx} {osn : Os} {st : Stmt}
end
end Mi

namespace Mi
open PySem PySem.Spec PyProof.Rows L2
section
variable {X : Cx} {N : List Str} {sc : Scope} {B : List Str} {k : Nat} {Γ : Ctx} {os : Os} {pos p p1 p2 p3 cpos apos : Pos} {e a b : Expr} {es : List Expr} {rest : List Stmt} {t u : Ty}
variable {G : FX} {L : LC} {β : Type} {Γn : β → Ctx} {osn : Os} {st : Stmt}
def inS (x y : List Nat) : Bool := !(Builtin.Str.occurrences (sOf y) (sOf x) 0 (sOf y).length 1).isEmpty
theorem v_inS : VOp (fun x y H Q => ∃ i j, x = .str i ∧ y = .str j ∧ Q (.bl (!(Builtin.Str.occurrences j i 0 j.length 1).isEmpty)) H) tStr tStr tBool (fun x y => some (inS x y)) := by
  intro x y z v u F M H Q e ⟨_, rx⟩ ⟨_, ry⟩ g q
  cases e
  exact ⟨sOf x, sOf y, rx, ry, fl (gA := V.bl) q g⟩
theorem re_inS {m n : SM (OT os) (List Nat)} (ha : RE X Γ os a tStr m) (hb : RE X Γ os b tStr n) (hm : behindInMarks .In b = false := by rfl) : RE X Γ os (.Compare a [.In] [b] pos) tBool (SM.bind m fun x => SM.bind n fun y => SM.lift (some (inS x y))) := re_cmp op_in_str v_inS imF imF ha hb hm
theorem inS_one (l : List Nat) (c : Nat) : inS [c] l = decide (c ∈ l) := SX.in_one l c
theorem rt_lt {ma mb : SM (OT os) Int} (ha : RE X Γ os a tInt ma) (hb : RE X Γ os b tInt mb) : RT X Γ os (.Compare a [.Lt] [b] pos) (SM.bind ma fun x => SM.bind mb fun y => SM.lift (some (decide (x < y)))) := rt_cmp op_lt v_IB imF imF ha hb
theorem rt_gt {ma mb : SM (OT os) Int} (ha : RE X Γ os a tInt ma) (hb : RE X Γ os b tInt mb) : RT X Γ os (.Compare a [.Gt] [b] pos) (SM.bind ma fun x => SM.bind mb fun y => SM.lift (some (decide (y < x)))) := rt_cmp op_gt v_IB imF imF ha hb
theorem rt_eq {A : Type} {gA : A → V} [DecidableEq A] (s : Sca A gA) {ma mb : SM (OT os) A} (ha : RE X Γ os a (flat A gA) ma) (hb : RE X Γ os b (flat A gA) mb) : RT X Γ os (.Compare a [.Eq] [b] pos) (SM.bind ma fun x => SM.bind mb fun y => SM.lift (some (decide (x = y)))) := rt_cmp op_eq (v_eq s) imF imF ha hb
theorem rt_ne {A : Type} {gA : A → V} [DecidableEq A] (s : Sca A gA) {ma mb : SM (OT os) A} (ha : RE X Γ os a (flat A gA) ma) (hb : RE X Γ os b (flat A gA) mb) : RT X Γ os (.Compare a [.NotEq] [b] pos) (SM.bind ma fun x => SM.bind mb fun y => SM.lift (some (!decide (x = y)))) := rt_cmp op_ne (v_ne s) imF imF ha hb
theorem rt_ne0 (xo : XOk X N sc B k) {m n : SM (OT os) (List Nat)} (ha : RE X Γ os a (tLst tChr) m) (hb : RE X Γ os (.List [] p) (tLst tChr) n) : RT X Γ os (.Compare a [.NotEq] [.List [] p] pos) (SM.bind m fun x => SM.bind n fun y => SM.lift (if y = [] ∧ okC x = true then some (!decide (x = [])) else none)) := rt_cmp (op_neD (units_ok xo)) v_ne0 im_lst im_lst ha hb
theorem rt_inC {m : SM (OT os) Nat} {n : SM (OT os) (List Nat)} (ha : RE X Γ os a tChr m) (hb : RE X Γ os b tStr n) (hm : behindInMarks .In b = false := by rfl) : RT X Γ os (.Compare a [.In] [b] pos) (SM.bind m fun x => SM.bind n fun y => SM.lift (some (decide (x ∈ y)))) := rt_cmp op_in_sign v_inC imF imF ha hb hm
end
end Mi

namespace Mi
open PySem PySem.Spec PyProof.Rows L2
end Mi

namespace Mi
open PySem PySem.Spec PyProof.Rows L2
theorem at0 {a b c : Int} : atI [a, b, c] 0 = some a := rfl
theorem at1 {a b c : Int} : atI [a, b, c] 1 = some b := rfl
theorem at2 {a b c : Int} : atI [a, b, c] 2 = some c := rfl
theorem ix0 {a b c : Int} : ixN [a, b, c].length 0 = some 0 := rfl
theorem ix2 {a b c : Int} : ixN [a, b, c].length 2 = some 2 := rfl
theorem set0 {a b c d : Int} : [a, b, c].set 0 d = [d, b, c] := rfl
theorem set2 {a b c d : Int} : [a, b, c].set 2 d = [a, b, d] := rfl
theorem div_ok {x m : Int} (h0 : 0 < m) (h : m < 2 ^ 40) : CDivW x m := by
  refine ⟨h0, ?_⟩
  have h2 : m.natAbs < 2 ^ 40 := by omega
  by_cases hz : m.natAbs = 0
  · rw [hz]; decide
  · have := (Nat.log2_lt hz).mpr h2
    omega
theorem pow_ok {x j : Int} (h0 : 0 ≤ x) (h : x < 2 ^ 64) (hj : 0 ≤ j) (hk : j ≤ 1000000) : CPow x j := ⟨hj, hk, by omega⟩
theorem mul_ok {x y : Int} (h : -(2 ^ 64) < x ∧ x < 2 ^ 64) : CMul x y := .inl h
theorem mapS_pure {O A C : Type} {mt : A → SM O Bool} {me : A → SM O C} {p : A → Bool} {f : A → C} {o : O} : ∀ (xs : List A), (∀ x ∈ xs, mt x o = some (.ok (p x), o)) → (∀ x ∈ xs, p x = true → me x o = some (.ok (f x), o)) → mapS mt me xs o = some (.ok ((xs.filter p).map f), o)
  | [], _, _ => rfl
  | x :: xs, hp, hf => by
    have ih := mapS_pure xs (fun y hy => hp y (List.mem_cons_of_mem _ hy)) (fun y hy => hf y (List.mem_cons_of_mem _ hy))
    have e := hp x List.mem_cons_self
    cases hx : p x with
    | true =>
      have e2 := hf x List.mem_cons_self hx
      rw [hx] at e
      simp only [mapS, SM.bind, SM.ret, noX, e, e2, ih, if_true, List.filter_cons, hx, List.map_cons]
    | false =>
      rw [hx] at e
      simp only [mapS, SM.bind, SM.ret, noX, e, ih, Bool.false_eq_true, if_false, List.filter_cons, hx]
theorem forS_inv {α β : Type} {G : FX} {L : LC} {os : Os} {body : α → β → OT os → Option (Out (β × OT os) (β × OT os) G.tr.A (OT G.ps))} {P : Nat → β → OT os → Prop} : ∀ (xs : List α) (n : Nat) (b : β) (o : OT os),
    (∀ x ∈ xs, ∀ k b o, n ≤ k → k < n + xs.length → P k b o → ∃ b' o', body x b o = some (.nxt (b', o')) ∧ P (k + 1) b' o') → P n b o → ∃ b' o', forS (L := L) body xs b o = some (.nxt (b', o')) ∧ P (n + xs.length) b' o'
  | [], n, b, o, _, h => ⟨b, o, rfl, h⟩
  | x :: xs, n, b, o, hs, h => by
    obtain ⟨b1, o1, e1, i1⟩ := hs x List.mem_cons_self n b o (Nat.le_refl _) (by rw [List.length_cons]; omega) h
    obtain ⟨b2, o2, e2, i2⟩ := forS_inv (L := L) xs (n + 1) b1 o1 (fun z hz k b o hk hk2 => hs z (List.mem_cons_of_mem _ hz) k b o (by omega) (by rw [List.length_cons]; omega)) i1
    refine ⟨b2, o2, ?_, by rw [List.length_cons]; rwa [show n + (xs.length + 1) = n + 1 + xs.length by omega]⟩
    show Out.turn (body x b o) (forS body xs) = _
    rw [e1]
    exact e2
theorem small_len {α : Type} {l : List α} (h : l.length ≤ 16777216) : l.length ≤ sizeLine := by rw [sizeLine_eq]; exact h
end Mi

namespace Mi
open PySem PySem.Spec PyProof.Rows L2
def Fl (t : Ty) : Prop := ∀ {x v F F' m}, t.rep x v F m → t.rep x v F' m
theorem fl_flat {A : Type} {g : A → V} : Fl (flat A g) := fun h => h
theorem allR_fl {t : Ty} (ft : Fl t) {F F' : Hp} : ∀ {xs : List t.A} {vs : List V}, AllR t xs vs F → AllR t xs vs F'
  | [], _, h => h
  | _ :: _, _, ⟨v, r, e, q, k⟩ => ⟨v, r, e, ft q, allR_fl ft k⟩
theorem fl_own {t : Ty} (ft : Fl t) : Fl (tOwn t) := fun ⟨a, vs, e, q, r⟩ => ⟨a, vs, e, q, allR_fl ft r⟩
def FlOs : Os → Prop
  | [] => True
  | p :: r => Fl p.2 ∧ FlOs r
theorem OwnOk.fl : ∀ {os : Os} {o : OT os} {σ : L2.St} {F F' M R : Hp}, FlOs os → OwnOk os o σ F M R → OwnOk os o σ F' M R
  | [], _, _, _, _, _, _, _, h => h
  | _ :: _, _, _, _, _, _, _, ⟨f, fr⟩, ⟨v, m, M', e, r, s, k⟩ => ⟨v, m, M', e, f r, s, k.fl fr⟩
def OSel.join : {os os' : Os} → {i : Nat} → {t : Ty} → OSel os i t os' → t.A → OT os' → OT os
  | _, _, _, _, .here, x, o => (x, o)
  | _, _, _, _, .there h, x, o => (o.1, h.join x o.2)
theorem OSel.back : ∀ {os os' : Os} {i : Nat} {t : Ty} (h : OSel os i t os') {x : t.A} {o : OT os'} {σ : L2.St} {F M M' R m : Hp} {v : V}, σ[i]? = some (some v) → t.rep x v F m → Sep m M' M → OwnOk os' o σ F M' R → OwnOk os (h.join x o) σ F M R
  | _, _, _, _, .here, _, _, _, _, _, _, _, _, _, e, r, s, k => ⟨_, _, _, e, r, s, k⟩
  | _, _, _, _, .there h, x, o, σ, F, M, M', R, m, v, e, r, s, ⟨v1, m1, M1, e1, r1, s1, k1⟩ => by
    obtain ⟨G, g1, g2⟩ := s1.assoc s
    exact ⟨v1, m1, G, e1, r1, g2, h.back e r g1 k1⟩
theorem sep_mk {A B : Hp} (d : ∀ p, A p = none ∨ B p = none) : Sep A B (uni A B) := ⟨d, rfl⟩
section
variable {X : Cx} {N : List Str} {sc : Scope} {B : List Str} {k : Nat} {Γ : Ctx} {os os' : Os} {pos p p1 p2 p3 cpos apos : Pos} {e a b : Expr} {es : List Expr} {t u : Ty}
def SM.bor {os os' : Os} {i : Nat} {t0 : Ty} {A B : Type} (h : OSel os i t0 os') (f : t0.A → A) (m : A → SM (OT os') B) : SM (OT os) B := fun o => match m (f (h.get o)) (h.rest o) with
  | some (.ok y, o') => some (.ok y, h.join (h.get o) o')
  | _ => none
theorem bor_core {i : Nat} {t0 t1 : Ty} {f : t0.A → t1.A} (h : OSel os i t0 os') (z : Frz t0 t1 f) {σ : L2.St} {F M R H : Hp} {o : OT os} (c : CtxOk Γ σ F) (w : OwnOk os o σ F M R) (g : Good F M H) :
    ∃ m0 v M', t0.rep (h.get o) v F m0 ∧ σ[i]? = some (some v) ∧ (∀ q, m0 q = none ∨ F q = none) ∧ Sep m0 M' M ∧ CtxOk (Γ.set i (some ⟨t1, f (h.get o)⟩)) σ (uni m0 F) ∧ OwnOk os' (h.rest o) σ (uni m0 F) M' R ∧ Good (uni m0 F) M' H ∧ Sub F (uni m0 F) ∧ Sub m0 (uni m0 F) := by
  obtain ⟨v, m0, M', e0, r0, s0, w0⟩ := h.own w
  have d : ∀ q, m0 q = none ∨ F q = none := fun q => by
    rcases g.dis q with z | z
    · exact .inr z
    · exact .inl (s0.none z).1
  obtain ⟨g2, s2, s3⟩ := g.freeze s0
  refine ⟨m0, v, M', r0, e0, d, s0, ?_, w0.mono s2, g2, s2, s3⟩
  have c3 := (c.mono s2).set (i := i) (t := t1) (x := f (h.get o)) (v := v) (z r0 d)
  have e3 : σ.set i (some v) = σ := by
    apply List.ext_getElem?
    intro j
    by_cases hj : j = i
    · subst hj
      have hl : j < σ.length := (List.getElem?_eq_some_iff.mp e0).1
      rw [List.getElem?_set_self hl, e0]
    · rw [List.getElem?_set_ne (Ne.symm hj)]
  rw [e3] at c3
  exact c3
theorem bor_back {i : Nat} {t0 : Ty} (h : OSel os i t0 os') (f0 : Fl t0) (fo : FlOs os') {x : t0.A} {σ : L2.St} {F F2 m0 M0 M1 mm M2 R H2 : Hp} {v : V} {o' : OT os'} (r0 : t0.rep x v F m0) (e0 : σ[i]? = some (some v)) (d : ∀ q, m0 q = none ∨ F q = none)
    (s : Sub (uni m0 F) F2) (w : OwnOk os' o' σ F2 M1 R) (p : Sep mm M1 M2) (g : Good F2 M2 H2) (own : ∀ a u, m0 a = some u → ownO u) : Sub F (mns F2 m0) ∧ OwnOk os (h.join x o') σ (mns F2 m0) (uni m0 M1) R ∧ Sep mm (uni m0 M1) (uni m0 M2) ∧ Good (mns F2 m0) (uni m0 M2) H2 := by
  have d1 : ∀ q, m0 q = none ∨ M2 q = none := fun q => by
    cases e : m0 q with
    | none => exact .inl rfl
    | some o =>
      refine .inr ?_
      rcases g.dis q with z | z
      · rw [s q o (uni_l e)] at z; cases z
      · exact z
  have d2 : ∀ q, m0 q = none ∨ M1 q = none := fun q => (d1 q).imp id fun z => (p.none z).2
  have sF : Sub F F2 := (sub_uni d).trans s
  obtain ⟨sB, gB⟩ := g.back (sep_mk d1) sF (fun a u e => s a u (uni_l e)) d own
  refine ⟨sB, h.back e0 (t0.mono r0 sB) (sep_mk d2) (w.fl fo), ?_, gB⟩
  obtain ⟨G, g1, g2⟩ := p.assoc (sep_mk d1)
  have e : G = uni m0 M1 := g1.eq
  subst e
  exact g2
theorem re_bor {i : Nat} {t0 t1 : Ty} {f : t0.A → t1.A} {m : t1.A → SM (OT os') t.A} (h : OSel os i t0 os') (z : Frz t0 t1 f) (f0 : Fl t0) (fo : FlOs os') (ft : Fl t) (he : ∀ x, RE X (Γ.set i (some ⟨t1, x⟩)) os' e t (m x)) : RE X Γ os e t (SM.bor h f m) := by
  intro σ F M R H o W Q tk c w g q
  obtain ⟨m0, v, M', r0, e0, d, s0, c2, w2, g2, s2, s3⟩ := bor_core (Γ := Γ) h z c w g
  have q' := q
  unfold SM.bor at q'
  refine he _ σ (uni m0 F) M' R H (h.rest o) W Q tk c2 w2 g2 ?_
  cases r : m (f (h.get o)) (h.rest o) with
  | none => rw [r] at q'; exact q'.elim
  | some y =>
    obtain ⟨y, o1⟩ := y
    rw [r] at q'
    cases y with
    | error x => exact q'.elim
    | ok y =>
      intro v2 F2 M1 mm M2 H2 s4 w4 p4 g4 r4
      obtain ⟨b0, b1, b2, b3⟩ := bor_back h f0 fo (M0 := M') r0 e0 d s4 w4 p4 g4 fun a u e => g.nt a u (s0.l a u e)
      exact (show NormE os t σ F R Q y (h.join (h.get o) o1) from q') v2 _ _ mm _ H2 b0 b1 b2 b3 (ft r4)
theorem KvR.fl {t : Ty} (ft : Fl t) : ∀ {xs : List (List Nat × t.A)} {kvs : List (Key × V)} {F F' : Hp}, KvR t xs kvs F → KvR t xs kvs F'
  | [], _, _, _, h => h
  | _ :: _, _, _, _, ⟨v, l, e, q, k⟩ => ⟨v, l, e, ft q, KvR.fl ft k⟩
def dhas {A : Type} (k : List Nat) (xs : List (List Nat × A)) : Bool := (dget k xs).isSome
def dput {A : Type} (k : List Nat) (x : A) (xs : List (List Nat × A)) : List (List Nat × A) := if dhas k xs = true then xs.map fun y => if y.1 = k then (y.1, x) else y else xs ++ [(k, x)]
theorem KvR.has {t : Ty} {k : List Nat} {xs : List (List Nat × t.A)} {kvs : List (Key × V)} {F : Hp} (h : KvR t xs kvs F) : (valV kvs (.inr (sOf k))).isSome = dhas k xs := by
  have z := h.val (k := k)
  unfold dhas
  cases hd : dget k xs with
  | none => rw [hd] at z; rw [z] <;> rfl
  | some x => rw [hd] at z; obtain ⟨v, e, _⟩ := z; rw [e] <;> rfl
end
end Mi

namespace Mi
open PySem PySem.Spec PyProof.Rows L2
theorem KvR.snoc {t : Ty} {k : List Nat} {x : t.A} {v : V} {F : Hp} (r : t.rep x v F emp) : ∀ {xs : List (List Nat × t.A)} {kvs : List (Key × V)}, KvR t xs kvs F → KvR t (xs ++ [(k, x)]) (kvs ++ [(.inr (sOf k), v)]) F
  | [], kvs, h => by have h' : kvs = [] := h; subst h'; exact ⟨v, [], rfl, r, rfl⟩
  | _ :: _, _, ⟨w, l, e, q, k'⟩ => by subst e; exact ⟨w, _, rfl, q, k'.snoc r⟩
theorem KvR.repl {t : Ty} {k : List Nat} {x : t.A} {v : V} {F : Hp} (r : t.rep x v F emp) : ∀ {xs : List (List Nat × t.A)} {kvs : List (Key × V)}, KvR t xs kvs F →
    KvR t (xs.map fun y => if y.1 = k then (y.1, x) else y) (kvs.map fun kv => if kv.1 = (.inr (sOf k) : Key) then (kv.1, v) else kv) F
  | [], kvs, h => by have h' : kvs = [] := h; subst h'; exact rfl
  | y :: _, _, ⟨w, l, e, q, k'⟩ => by
    subst e
    rw [List.map_cons, List.map_cons]
    by_cases hk : y.1 = k
    · rw [if_pos hk, if_pos (show (.inr (sOf y.1) : Key) = .inr (sOf k) by rw [hk])]
      exact ⟨v, _, rfl, r, k'.repl r⟩
    · rw [if_neg hk, if_neg (fun h => hk (key_eq.mp h))]
      exact ⟨w, _, rfl, q, k'.repl r⟩
theorem valV_any' {kvs : List (Key × V)} {k : Key} : (kvs.any fun kv => decide (kv.1 = k)) = (valV kvs k).isSome := valV_any k kvs
theorem KvR.put {t : Ty} {k : List Nat} {x : t.A} {v : V} {F : Hp} {xs : List (List Nat × t.A)} {kvs : List (Key × V)} (h : KvR t xs kvs F) (r : t.rep x v F emp) : KvR t (dput k x xs) (putK kvs (.inr (sOf k)) v) F := by
  unfold dput putK
  rw [valV_any', h.has]
  by_cases hk : dhas k xs = true
  · rw [if_pos hk, if_pos hk]; exact h.repl r
  · rw [if_neg hk, if_neg hk]; exact h.snoc r
abbrev tOwnD (t : Ty) : Ty := ⟨List (List Nat × t.A), fun xs v F m => ∃ a kvs, v = .ref a ∧ m = sing a (.dK kvs) ∧ KvR t xs kvs F, fun ⟨a, kvs, e, q, r⟩ s => ⟨a, kvs, e, q, r.mono s⟩⟩
section
variable {X : Cx} {N : List Str} {sc : Scope} {B : List Str} {k : Nat} {Γ : Ctx} {os os' : Os} {pos p p1 p2 p3 cpos apos : Pos} {e a b : Expr} {es : List Expr} {t u : Ty}
theorem hu1 (xo : XOk X N sc B k) : X.A.units + 1 < cLine := by have h := xo.room.un; omega
variable {G : FX} {L : LC} {β : Type} {Γn : β → Ctx} {osn : Os} {rest : List Stmt}
end
end Mi

namespace Mi
open PySem PySem.Spec PyProof.Rows L2
section
variable {X : Cx} {N : List Str} {sc : Scope} {B : List Str} {k : Nat} {Γ : Ctx} {os os' : Os} {pos p p1 p2 p3 cpos apos : Pos} {e a b : Expr} {es : List Expr} {t u : Ty}
def NormM (os : Os) (ts : List Ty) (σ : L2.St) (F R : Hp) (Q : List V → Hp → Prop) (x : AT ts) (o : OT os) : Prop :=
  ∀ vs F' M1 m M' H', Sub F F' → OwnOk os o σ F' M1 R → Sep m M1 M' → Good F' M' H' → ArgsM ts x vs F' m → Q vs H'
def RAM (X : Cx) (Γ : Ctx) (os : Os) (es : List Expr) (ts : List Ty) (m : SM (OT os) (AT ts)) : Prop :=
  ∀ (σ : L2.St) (F M R H : Hp) (o : OT os) (W : WX) (Q : List V → Hp → Prop), Takes X W → CtxOk Γ σ F → OwnOk os o σ F M R → Good F M H →
    Want (m o) (NormM os ts σ F R Q) (ExcE X os σ F R W) → bestA X es σ H Q
theorem ram_nil : RAM X Γ os [] [] (SM.ret ()) := fun σ F M R H o W Q tk c w g q => ⟨_, pa_nil, q [] F M emp M H (.refl F) w (sep_emp_l M) g ⟨rfl, rfl⟩⟩
theorem ram_cons {ts : List Ty} {m : SM (OT os) t.A} {n : SM (OT os) (AT ts)} (h : RE X Γ os e t m) (hr : RAM X Γ os es ts n)
    (he : starEach (e :: es) X.env = (false, eval e X.env) :: starEach es X.env := by rfl) : RAM X Γ os (e :: es) (t :: ts) (SM.bind m fun x => SM.bind n fun y => SM.ret (x, y)) := by
  intro σ F M R H o W Q tk c w g q
  refine ⟨_, pa_cons (pe_best X e) (pa_best X es) he, h σ F M R H o W _ tk c w g (q.bind.imp (fun x o1 z => ?_) fun _ _ z => z)⟩
  intro v F' M1 mm M' H' s w' p' g' r
  obtain ⟨R2, pR, w2⟩ := w'.frame p'
  refine hr σ F' M' R2 H' o1 W _ tk (c.mono s) w2 g' (z.bind.imp (fun y o2 z => ?_) fun ex o2 z => ?_)
  · intro us F2 M3 m2 M2 H2 s2 w3 p2 g2 r2
    obtain ⟨M4, p4, w4⟩ := OwnOk.unframe w3 pR
    obtain ⟨G, g1, g3⟩ := p4.assoc p2
    obtain ⟨G2, g4, g5⟩ := g1.comm.assoc g3
    exact z (v :: us) F2 M4 G2 M2 H2 (s.trans s2) w4 g5.comm g2 ⟨v, us, mm, m2, rfl, t.mono r s2, r2, g4⟩
  · intro cls d F2 M2 H2 s2 w3 g2 x2
    obtain ⟨M4, p4, w4⟩ := OwnOk.unframe w3 pR
    exact (show ExcE X os σ F R W ex o2 from z) cls d F2 M4 H2 (s.trans s2) w4 (g2.less p4.r) x2
theorem keep_setσ {kp : List Nat} : ∀ (is : List Nat) (vs : List V) (σ : L2.St), (is.all fun i => kp.all (· != i)) = true → Keep kp σ (setσ is vs σ)
  | [], _, _, _ => .refl
  | _ :: _, [], _, _ => .refl
  | i :: is, v :: vs, σ, h => by
    rw [List.all_cons, Bool.and_eq_true] at h
    exact (keep_set h.1).trans (keep_setσ is vs _ h.2)
theorem ko (xo : XOk X N sc B k) {j : Nat} {x : Str} {kd : NameKind} (h : sc.names[j]? = some (x, kd)) (hk : kd ≠ .free) : X.env.kindOf x = some kd := xo.lo j x kd h hk
variable {G : FX} {L : LC} {β : Type} {Γn : β → Ctx} {osn : Os} {rest : List Stmt}
theorem sw_env2 {v : List Expr} {k2 kt : Nat} {x y : Str} {px py pt pt2 : Pos} {env env' : Env} (hb : env.blockKind = env'.blockKind) (hx : env.kindOf x = env'.kindOf x) (hy : env.kindOf y = env'.kindOf y) :
    swappedStores [.Tuple [.Name x px, .Name y py] kt pt] (.Tuple v k2 pt2) env = swappedStores [.Tuple [.Name x px, .Name y py] kt pt] (.Tuple v k2 pt2) env' := by
  unfold swappedStores
  simp only [hb, List.filterMap_cons, List.filterMap_nil, hx, hy]
  rfl
def env0 (env : Env) (ns : List (Str × NameKind)) : Env := { env with scope := { kind := .function, names := ns, isGenerator := false, isCoroutine := false, more := [] } }
theorem bk_env (xo : XOk X N sc B k) (ns : List (Str × NameKind)) : X.env.blockKind = (env0 X.env ns).blockKind := by
  unfold Env.blockKind
  rw [xo.bk] <;> rfl
theorem rb_par2 (xo : XOk X N sc B k) (hS : OSub os G.ps) (i j jx jy : Nat) {x y : Str} {px py pt pt2 : Pos} {kt k2 : Nat} {ts : List Ty} {m : SM (OT os) (AT ts)} (pi : PutI [i, j] ts os os') {kk : AT ts → OT os' → OutT G L β osn} (ha : RAM X Γ os [a, b] ts m)
    (hk : ∀ z, RB X G L (pi.ctx z Γ) os' rest Γn osn (kk z))
    (hjx : sc.names[jx]? = some (x, .local) := by rfl) (hjy : sc.names[jy]? = some (y, .local) := by rfl) (hNx : N[i]? = some x := by rfl) (hNy : N[j]? = some y := by rfl) (hij : i ≠ j := by decide) (hok : pi.okB Γ.length = true := by rfl)
    (hkp : ([i, j].all fun i => G.kp.all (· != i)) = true := by rfl) (hlx : ts.length = 2 := by rfl)
    (hw : swappedStores [.Tuple [.Name x px, .Name y py] kt pt] (.Tuple [a, b] k2 pt2) (env0 X.env [(x, .local), (y, .local)]) = pure (some [x, y]) := by rfl)
    (h0 : (env0 X.env [(x, .local), (y, .local)]).kindOf y = some .local := by rfl)
    (hs : swapsWithSole [.Tuple [.Name x px, .Name y py] kt pt] (.Tuple [a, b] k2 pt2) pos.line X.env = pure false := by rfl) :
    RB X G L Γ os (.Assign [.Tuple [.Name x px, .Name y py] kt pt] (.Tuple [a, b] k2 pt2) pos :: rest) Γn osn (fun o => bindX hS (m o) fun z o => kk z (pi.ow z o)) := by
  intro σ F M R H o W D tk c w g q
  have ex : X.env.scope.names.lookup x = some .local := xo.lo jx x _ hjx (by decide)
  have ey : X.env.scope.names.lookup y = some .local := xo.lo jy y _ hjy (by decide)
  have e0 : (env0 X.env [(x, .local), (y, .local)]).kindOf x = some .local := by
    show List.lookup x [(x, NameKind.local), (y, .local)] = _
    rw [List.lookup_cons_self]
  have hw' := (sw_env2 (v := [a, b]) (k2 := k2) (kt := kt) (px := px) (py := py) (pt := pt) (pt2 := pt2) (bk_env xo [(x, .local), (y, .local)]) (ex.trans e0.symm) (ey.trans h0.symm)).trans hw
  refine ⟨_, pss_cons (ps_par (i := i) (j := j) xo.calm xo.nd (by rw [xo.nN]; exact hNx) (by rw [xo.nN]; exact hNy) hij ex ey (pa_best X [a, b]) hw' hs) (pss_best X rest), ?_⟩
  refine ha σ F M R H o W _ tk c w g (q.bindX.imp (fun z o1 y => ?_) fun _ _ z => z)
  intro vs F' M1 mm M' H' s' w' p' g' r'
  have hlen := r'.length
  rw [hlx] at hlen
  match vs, hlen, r' with
  | [v, w2], _, r' =>
    obtain ⟨c2, w3⟩ := pi.ok (Γ := Γ) hok r' (c.mono s') w' p'
    exact ⟨v, w2, rfl, hk z (setσ [i, j] [v, w2] σ) F' M' R H' (pi.ow z o1) W D tk c2 w3 g' (y.mono s' (keep_setσ _ _ _ hkp))⟩
theorem rb_unp2 (xo : XOk X N sc B k) (hS : OSub os G.ps) (i j jx jy : Nat) {x y : Str} {kx ky : NameKind} {px py pt pt2 : Pos} {kt k2 : Nat} {ts : List Ty} {m : SM (OT os) (AT ts)} (pi : PutI [i, j] ts os os') {kk : AT ts → OT os' → OutT G L β osn} (ha : RAM X Γ os [a, b] ts m)
    (hk : ∀ z, RB X G L (pi.ctx z Γ) os' rest Γn osn (kk z))
    (hjx : sc.names[jx]? = some (x, kx) := by rfl) (hjy : sc.names[jy]? = some (y, ky) := by rfl) (hkx : locK kx = true := by rfl) (hky : locK ky = true := by rfl) (hNx : N[i]? = some x := by rfl) (hNy : N[j]? = some y := by rfl) (hok : pi.okB Γ.length = true := by rfl)
    (hkp : ([i, j].all fun i => G.kp.all (· != i)) = true := by rfl) (hlx : ts.length = 2 := by rfl)
    (hw : swappedStores [.Tuple [.Name x px, .Name y py] kt pt] (.Tuple [a, b] k2 pt2) (env0 X.env [(x, kx), (y, ky)]) = pure none := by rfl)
    (h0 : (env0 X.env [(x, kx), (y, ky)]).kindOf y = some ky := by rfl)
    (hs : swapsWithSole [.Tuple [.Name x px, .Name y py] kt pt] (.Tuple [a, b] k2 pt2) pos.line X.env = pure false := by rfl) 
    (h1 : (assignEach [.Tuple [.Name x px, .Name y py] kt pt] X.env).map (·.2) = [assign (.Tuple [.Name x px, .Name y py] kt pt) X.env] := by rfl)
    (hn : (assignEach [.Name x px, .Name y py] X.env).length = 2 := by rfl) (hst : (assignEach [.Name x px, .Name y py] X.env).findIdx? (·.1) = none := by rfl)
    (hg1 : (assignEach [.Name x px, .Name y py] X.env).map (·.2) = assign (.Name x px) X.env :: (assignEach [.Name y py] X.env).map (·.2) := by rfl) (hg2 : (assignEach [.Name y py] X.env).map (·.2) = assign (.Name y py) X.env :: (assignEach [] X.env).map (·.2) := by rfl) :
    RB X G L Γ os (.Assign [.Tuple [.Name x px, .Name y py] kt pt] (.Tuple [a, b] k2 pt2) pos :: rest) Γn osn (fun o => bindX hS (m o) fun z o => kk z (pi.ow z o)) := by
  intro σ F M R H o W D tk c w g q
  have kf : ∀ {kd : NameKind}, locK kd = true → kd ≠ .free := fun h e => by subst e; cases h
  have ex : X.env.scope.names.lookup x = some kx := xo.lo jx x _ hjx (kf hkx)
  have ey : X.env.scope.names.lookup y = some ky := xo.lo jy y _ hjy (kf hky)
  have e0 : (env0 X.env [(x, kx), (y, ky)]).kindOf x = some kx := by
    show List.lookup x [(x, kx), (y, ky)] = _
    rw [List.lookup_cons_self]
  have hw' := (sw_env2 (v := [a, b]) (k2 := k2) (kt := kt) (px := px) (py := py) (pt := pt) (pt2 := pt2) (bk_env xo [(x, kx), (y, ky)]) (ex.trans e0.symm) (ey.trans h0.symm)).trans hw
  obtain ⟨lx1, lx2⟩ := xo.lc jx x kx hjx hkx
  obtain ⟨ly1, ly2⟩ := xo.lc jy y ky hjy hky
  refine ⟨_, pss_cons (ps_asg (pe_tup (pa_best X [a, b])) (pg_tup (n := 2) xo.calm (pgs_cons (pg_name (i := i) xo.nd (by rw [xo.nN]; exact hNx) lx1 lx2) (pgs_cons (pg_name (i := j) xo.nd (by rw [xo.nN]; exact hNy) ly1 ly2) pgs_nil hg2) hg1) hn hst) hs hw' h1) (pss_best X rest), ?_⟩
  refine ha σ F M R H o W _ tk c w g (q.bindX.imp (fun z o1 y => ?_) fun _ _ z => z)
  intro vs F' M1 mm M' H' s' w' p' g' r'
  have hlen := r'.length
  rw [hlx] at hlen
  match vs, hlen, r' with
  | [v, w2], _, r' =>
    refine ⟨by show 2 ≤ sizeLine; decide, fun p hp => ?_⟩
    have hF : F' p = none := g'.fnone hp
    have s2 := sub_upd (o := .tup [v, w2]) hF
    obtain ⟨c2, w3⟩ := pi.ok (Γ := Γ) hok (r'.mono s2) (c.mono (s'.trans s2)) (w'.mono s2) p'
    refine ⟨p, [v, w2], rfl, .inl (.inl upd_same), rfl, v, [w2], rfl, w2, [], rfl, rfl, ?_⟩
    exact hk z (setσ [i, j] [v, w2] σ) (upd F' p (.tup [v, w2])) M' R _ (pi.ow z o1) W D tk c2 w3 (g'.newF hp) (y.mono (s'.trans s2) (keep_setσ _ _ _ hkp))
end
end Mi

namespace Mi
open PySem PySem.Spec PyProof.Rows L2
section
variable {X : Cx} {N : List Str} {sc : Scope} {B : List Str} {k : Nat} {Γ : Ctx} {os os' : Os} {pos p p1 p2 p3 cpos apos : Pos} {e a b : Expr} {es : List Expr} {t u : Ty}
def SM.methO {os : Os} {i : Nat} {t0 : Ty} {A C : Type} (h : OMem os i t0) (g : t0.A → A → Option (C × t0.A)) (y : A) : SM (OT os) C := fun o => match g (h.get o) y with
  | some (z, x) => some (.ok z, h.set x o)
  | none => none
variable {G : FX} {L : LC} {β : Type} {Γn : β → Ctx} {osn : Os} {rest : List Stmt}
end
end Mi

namespace Mi
open PySem PySem.Spec PyProof.Rows L2
section
variable {X : Cx} {N : List Str} {sc : Scope} {B : List Str} {k : Nat} {Γ : Ctx} {os os' : Os} {pos p p1 p2 p3 cpos apos : Pos} {e a b : Expr} {es : List Expr} {t u : Ty}
end
end Mi

namespace Mi
open PySem PySem.Spec PyProof.Rows L2
section
variable {X : Cx} {N : List Str} {sc : Scope} {B : List Str} {k : Nat} {Γ : Ctx} {os os' : Os} {pos p p1 p2 p3 cpos apos : Pos} {e a b : Expr} {es : List Expr} {t u : Ty}
end
end Mi

namespace Mi
open PySem PySem.Spec PyProof.Rows L2
section
variable {X : Cx} {N : List Str} {sc : Scope} {B : List Str} {k : Nat} {Γ : Ctx} {os os' : Os} {pos p p1 p2 p3 cpos apos : Pos} {e a b : Expr} {es : List Expr} {t u : Ty}
variable {G : FX} {L : LC} {β : Type} {Γn : β → Ctx} {osn : Os} {rest : List Stmt}
end
end Mi

namespace Mi
open PySem PySem.Spec PyProof.Rows L2
section
variable {X : Cx} {N : List Str} {sc scope : Scope} {B : List Str} {k : Nat} {Γ : Ctx} {os os' : Os} {pos p p1 p2 p3 cpos apos lpos : Pos} {e a b : Expr} {es : List Expr} {t u : Ty} {elt tg iter : Expr} {ifs : List Expr}
variable {G : FX} {L : LC} {β : Type} {Γn : β → Ctx} {osn : Os} {rest : List Stmt}
theorem sw_envL {y : Str} {py : Pos} {v : Expr} {ln : Nat} {env env' : Env} (hb : env.blockKind = env'.blockKind) (hy : env.kindOf y = env'.kindOf y) : swapsWith v (some (.Name y py)) ln env = swapsWith v (some (.Name y py)) ln env' := by
  unfold swapsWith
  simp only [hb, hy]
theorem sw_at (xo : XOk X N sc B k) {y : Str} {py : Pos} {v : Expr} {ln j : Nat} {kd : NameKind} {r : Sem Bool} (hj : sc.names[j]? = some (y, kd)) (hk : kd ≠ .free) (h : swapsWith v (some (.Name y py)) ln (env0 X.env [(y, kd)]) = r) : swapsWith v (some (.Name y py)) ln X.env = r := by
  refine (sw_envL (bk_env xo [(y, kd)]) ((ko xo hj hk).trans ?_)).trans h
  show _ = List.lookup y [(y, kd)]
  rw [List.lookup_cons_self]
theorem rb_asgLc {Lks : Md → Prop} (lks : Lks X.md) (xo : XOk X N sc B k) (hS : OSub os G.ps) (own : List (Str × Nat)) (kp : List Nat) (i j : Nat) {nm : Str} {mi : SM (OT os) (List t.A)} {Γx : t.A → Ctx} {mt : t.A → SM (OT os) Bool} {me : t.A → SM (OT os) u.A} {kk : List u.A → OT os → OutT G L β osn} (iu : Imm u)
    (hi : RI X Γ os tg iter t mi)
    (hg : ∀ X', XOk X' N scope B k → RG X' kp (wipeC Γ (own.map (·.2))) os tg t Γx)
    (ht : ∀ X', Lks X'.md → XOk X' N scope B k → ∀ x, RTs X' (Γx x) os ifs (mt x))
    (he : ∀ X', Lks X'.md → XOk X' N scope B k → ∀ x, RE X' (Γx x) os elt u (me x))
    (hk : ∀ x, RB X G L (Γ.set i (some ⟨tLst u, x⟩)) os rest Γn osn (kk x))
    (hj : sc.names[j]? = some (nm, .local) := by rfl) (hN : N[i]? = some nm := by rfl) (hf : noSlot i os = true := by rfl) (hkq : G.kp.all (· != i) = true := by rfl)
    (hsw : swapsWith (.ListComp elt [⟨tg, iter, ifs, 0⟩] scope lpos) (some (.Name nm p)) pos.line (env0 X.env [(nm, .local)]) = pure true := by rfl)
    (hb : blkB N sc scope own = true := by decide +kernel) (hkp : (List.range Γ.length).all (fun i => (own.map (·.2)).contains i || kp.contains i) = true := by rfl)
    (ho : (own.all fun p => noSlot p.2 os) = true := by rfl)
    (hs : ∀ x, foldedSetIterable iter X.env x = pure x := by intro _; rfl) :
    RB X G L Γ os (.Assign [.Name nm p] (.ListComp elt [⟨tg, iter, ifs, 0⟩] scope lpos) pos :: rest) Γn osn (fun o => bindX hS ((SM.bind mi fun xs => if xs.length ≤ sizeLine then mapS mt me xs else SM.fail) o) kk) := by
  obtain ⟨wi, g, tt, te, h1, ok, h2, h3, h4, h5⟩ := lc_read lks xo own kp iu hi hg ht he hb hkp ho hs
  intro σ F M R H o W D tk c w gd q
  refine ⟨_, pss_cons (ps_setLc (i := i) xo.calm xo.nd (by rw [xo.nN]; exact hN) (xo.lo j nm _ hj (by decide)) (sw_at xo hj (by decide) hsw) h1 ok h2 h3 h4 hs) (pss_best X rest), ?_⟩
  refine h5 σ F M R H o W (fun v H1 => bestB X rest D (σ.set i (some v)) H1) tk c w gd (q.bindX.imp (fun x o1 z => ?_) fun _ _ z => z)
  intro v F' M1 mm M' H' s' w' p' g' r'
  obtain ⟨g2, s2, _⟩ := g'.freeze p'
  have d : ∀ q, mm q = none ∨ F' q = none := fun q => by
    rcases g'.dis q with z | z
    · exact .inr z
    · exact .inl (p'.none z).1
  exact hk x (σ.set i (some v)) _ M1 R H' o1 W D tk ((c.mono (s'.trans s2)).set (frz_own r' d)) ((w'.mono s2).set hf) g2 (z.mono (s'.trans s2) (keep_set hkq))
end
end Mi

namespace Mi
open PySem PySem.Spec PyProof.Rows L2
def atSnoc {f : Str} {t : Ty} : (fs : Flds) → AT (fs.map (·.2)) → t.A → AT ((fs ++ [(f, t)]).map (·.2))
  | [], _, y => (y, ())
  | _ :: r, x, y => (x.1, atSnoc r x.2 y)
theorem InsR.snoc {f : Str} {t : Ty} {y : t.A} {w : V} {F : Hp} (r : t.rep y w F emp) : ∀ {fs : Flds} {x : AT (fs.map (·.2))} {ws : List (Str × V)}, InsR fs x ws F → InsR (fs ++ [(f, t)]) (atSnoc fs x y) (ws ++ [(f, w)]) F
  | [], _, ws, h => by have h' : ws = [] := h; subst h'; exact ⟨w, [], rfl, r, rfl⟩
  | _ :: _, _, _, ⟨v, l, e, q, k⟩ => by subst e; exact ⟨v, _, rfl, q, k.snoc r⟩
abbrev tOwnI (C : Addr) (fs : Flds) : Ty := ⟨AT (fs.map (·.2)), fun x v F m => ∃ a dx ws, v = .ref a ∧ a ≠ dx ∧ m = uni (sing a (.ins C dx ws)) (sing dx (.own a)) ∧ InsR fs x ws F, fun {x v F F' m} h s => by
  obtain ⟨a, dx, ws, e, n, q, r⟩ := h
  exact ⟨a, dx, ws, e, n, q, InsR.mono (x := x) r s⟩⟩
section
variable {X : Cx} {N : List Str} {sc : Scope} {B : List Str} {k : Nat} {Γ : Ctx} {os os' : Os} {pos p p1 p2 p3 cpos apos : Pos} {e a b : Expr} {es : List Expr} {t u : Ty} {C : Addr} {fs : Flds}
variable {G : FX} {L : LC} {β : Type} {Γn : β → Ctx} {osn : Os} {rest : List Stmt}
end
end Mi

namespace Mi
open PySem PySem.Spec PyProof.Rows L2
section
variable {X : Cx} {N : List Str} {sc : Scope} {B : List Str} {k : Nat} {Γ : Ctx} {os os' : Os} {pos p p1 p2 p3 cpos apos : Pos} {e a b : Expr} {es : List Expr} {t u : Ty} {C : Addr} {fs : Flds}
end
end Mi

namespace Mi
open PySem PySem.Spec PyProof.Rows L2
section
variable {X : Cx} {N : List Str} {sc : Scope} {B : List Str} {k : Nat} {Γ : Ctx} {os os' : Os} {pos p p1 p2 p3 cpos apos : Pos} {e a b : Expr} {es : List Expr} {t u : Ty} {C : Addr} {fs : Flds}
theorem InsR.look {nm : Str} : ∀ {fs : Flds} {x : AT (fs.map (·.2))} {ws : List (Str × V)} {F : Hp}, InsR fs x ws F → nm ∉ fs.map (·.1) → ws.lookup nm = none
  | [], _, ws, _, h, _ => by have h' : ws = [] := h; rw [h'] <;> rfl
  | f :: _, _, _, _, ⟨w, l, e, q, r⟩, hn => by
    subst e
    have hn' : (nm == f.1) = false := by rw [beq_eq_false_iff_ne]; exact fun e => hn (by rw [e]; exact List.mem_cons_self)
    rw [List.lookup_cons, hn']
    exact r.look fun h => hn (List.mem_cons_of_mem _ h)
end
end Mi

namespace Mi
open PySem PySem.Spec PyProof.Rows L2
section
variable {X : Cx} {Γ : Ctx} {os : Os} {N : List Str} {sc scope : Scope} {B : List Str} {k : Nat} {pos : Pos} {t u : Ty} {elt kx tg iter : Expr} {ifs : List Expr}
end
end Mi

namespace Mi
open PySem PySem.Spec PyProof.Rows L2
section
variable {X : Cx} {N : List Str} {sc : Scope} {B : List Str} {k : Nat} {Γ : Ctx} {os os' : Os} {pos p p1 p2 p3 cpos apos : Pos} {e a b c : Expr} {es : List Expr} {t u : Ty}
def SM.chain {O : Type} (f g : Int → Int → Bool) (ma mb mc : SM O Int) : SM O Bool := SM.bind ma fun x => SM.bind mb fun y => if f x y = true then SM.bind mc fun z => SM.ret (g y z) else SM.ret false
variable {G : FX} {L : LC} {β : Type} {Γn : β → Ctx} {osn : Os} {rest : List Stmt}
end
end Mi

namespace Mi
open PySem PySem.Spec PyProof.Rows L2
section
open PySem.W
variable {M : Model} {A : Around} {E : Value → Shared → Prop} {s : Shared} {K : Frag} {x C f : Addr} {ox : Obj} {od : Option Obj} {v : Value}
end
section
variable {X : Cx} {N : List Str} {sc : Scope} {B : List Str} {k : Nat} {Γ : Ctx} {os os' : Os} {pos p p1 p2 p3 cpos apos : Pos} {e a b c : Expr} {es : List Expr} {t u : Ty} {C f : Addr} {fd : FuncData} {ps : List Str} {sp : Sp} {fs : Flds}
end
end Mi

namespace Mi
open PySem PySem.Spec PyProof.Rows L2
section
variable {X : Cx} {N : List Str} {sc : Scope} {B : List Str} {k : Nat} {Γ : Ctx} {os os' : Os} {pos p p1 p2 p3 cpos apos : Pos} {e a b c : Expr} {es : List Expr} {t u : Ty}
end
end Mi

namespace Mi
open PySem PySem.Spec PyProof.Rows L2
def runJ {C : Addr} {fs : Flds} {kp : List Nat} {tr : Ty} {L : LC} {β : Type} {i : Nat} (r : OutT ⟨kp, [], tr⟩ L β [(i, tOwnI C fs)]) : Option (Except Exn (AT (fs.map (·.2)))) := match r with
  | some (.nxt n) => some (.ok n.2.1)
  | some (.exc e _) => some (.error e)
  | _ => none
end Mi

namespace Mi
open PySem PySem.Spec PyProof.Rows L2
section
variable {X : Cx} {N : List Str} {sc : Scope} {B : List Str} {k : Nat} {Γ : Ctx} {os os' : Os} {pos p p1 p2 p3 cpos apos : Pos} {e a b c : Expr} {es : List Expr} {t u : Ty} {C f : Addr} {fd : FuncData} {ps : List Str} {sp : Sp} {fs : Flds}
variable {G : FX} {L : LC} {β : Type} {Γn : β → Ctx} {osn : Os} {rest : List Stmt}
end
end Mi

namespace Mi
open PySem PySem.Spec PyProof.Rows L2
theorem SaysX.base {fa : List He.Fa} {fn : List He.DefD} {pr : List PrD} {cv : List CvD} {K : PySem.W.Frag} (c : SaysX fa fn pr cv K) : He.SaysD fa fn K := congrArg (fun z : AlX => z.1) c
theorem SaysX.cv_ {fa : List He.Fa} {fn : List He.DefD} {pr : List PrD} {cv : List CvD} {K : PySem.W.Frag} (c : SaysX fa fn pr cv K) (i : Nat) {q : CvD} (h : cv[i]? = some q := by rfl) : cvB K q.1 q.2.1 q.2.2 = true := by
  have c2 : ((pr.all fun p => prB K p.C p.f && okA K (gAd K p.C p.f) p.d) && cv.all fun q => cvB K q.1 q.2.1 q.2.2) = true := congrArg (fun z : AlX => z.2.1) c
  exact List.all_eq_true.mp (Bool.and_eq_true_iff.mp c2).2 q (List.mem_of_getElem? h)
theorem SaysX.catch {fa : List He.Fa} {fn : List He.DefD} {pr : List PrD} {cv : List CvD} {K : PySem.W.Frag} (c : SaysX fa fn pr cv K) (i : Nat) {C D : Str} (h : cv[i]? = some (C, D, -78)) (h1 : D ≠ "__class__" := by decide) (h2 : D ≠ "__ne__" := by decide) : PySem.W.exmOne K (.ref (He.ga K C)) (.ref (He.ga K D)) = some true := by
  have z : cvB K C D (-78) = true := c.cv_ i h
  unfold cvB at z
  rw [if_neg h1, if_neg h2, if_neg (by decide), if_pos rfl] at z
  exact of_decide_eq_true z
theorem SaysX.nocatch {fa : List He.Fa} {fn : List He.DefD} {pr : List PrD} {cv : List CvD} {K : PySem.W.Frag} (c : SaysX fa fn pr cv K) (i : Nat) {C D : Str} (h : cv[i]? = some (C, D, -79)) (h1 : D ≠ "__class__" := by decide) (h2 : D ≠ "__ne__" := by decide) : PySem.W.exmOne K (.ref (He.ga K C)) (.ref (He.ga K D)) = some false := by
  have z : cvB K C D (-79) = true := c.cv_ i h
  unfold cvB at z
  rw [if_neg h1, if_neg h2, if_neg (by decide), if_neg (by decide), if_pos rfl] at z
  exact of_decide_eq_true z
end Mi

namespace Mi
open PySem PySem.Spec PyProof.Rows L2
end Mi

namespace Mi
open PySem PySem.Spec PyProof.Rows L2
section
variable {X : Cx} {N : List Str} {sc : Scope} {B : List Str} {k : Nat} {Γ : Ctx} {os os' : Os} {pos p p1 p2 p3 cpos apos : Pos} {e a b : Expr} {es : List Expr} {t u : Ty}
end
end Mi

namespace Mi
open PySem PySem.Spec PyProof.Rows L2
end Mi

namespace Mi
open PySem PySem.Spec PyProof.Rows L2
structure FnG (M : Md) (k : Nat) (f : Addr) (fd : FuncData) (ps : List Str) (sp : Sp) : Prop where
  size : ∀ vs H Q E, sp vs H Q E → vs.length = ps.length
  go : ∀ {A : Around} {outer : List Env} {s : Shared} {H : Hp} {args : Args} {us : List Value} {vs : List V} {Q : VK} {E : XK}, A.guards = some [] → Room k A → Env0 M.P M.w M.K M.mg M.base A outer s H →
    BindsTo s fd args (ps.zip us) → Vals vs us → sp vs H Q E → codeAny (model M.P M.w) A (.call (.ref f) args) (CR (L2.CX M.P M.w) outer M.P M.w H s Q E) s
section
variable {M : Md} {x qual : Str} {params : Arguments} {body : List Stmt} {scope : Scope} {dvs : List V} {kws : List (Str × V)} {f : Addr} {fd : FuncData} {N ps : List Str} {k : Nat} {sp : Sp}
theorem fn_G0 (F : FunD M.K x qual params body scope dvs kws f fd) (S : FnScope N ps scope) (size : ∀ vs H Q E, sp vs H Q E → vs.length = ps.length)
    (walk : ∀ (cdv : Value) (A : Around) (outer : List Env) (s : Shared) (H : Hp) (vs : List V) (Q : VK) (E : XK), A.guards = some [] → Room k (A.deeper (envOfC qual scope s.heap.objs.size f cdv)) → sp vs H Q E →
      ∃ t, PSs (cxOf (L2.CX M.P M.w) M.P M.w M.K M.mg M.base N qual scope f cdv A outer s H E) body t ∧ t { nx := fun _ H' => Q .non H', rt := Q } (L2.start N vs) H) : FnG M (k + 1) f fd ps sp := by
  obtain ⟨oc, od, dV, kV, doc, pm, an, cdv, ct, osl, rfl, found, code, _, _⟩ := F.ex
  refine ⟨size, fun {A outer s H args us vs Q E} gd room e0 binds rel hsp => ?_⟩
  have many := size _ _ _ _ hsp
  have old : ∀ b o, M.base.get? b = some o → s.heap.get? b = some o := fun b o e => (e0.bs b o e).1
  have inK : M.K.In s.heap := e0.mod.kin.keeps old
  have noLim : s.heap.NoLimit := e0.mod.nolimit.keeps old
  refine codeAny_call_function room.depth (inK _ _ found) rfl S.co S.gen rfl (PySem.W.codeRec_of inK code) (binds _ _ _ _ ?_)
  refine wpAny_newFunctionEnv_cells S.kind (fun y hy => ?_) fun env he s1 z => ?_
  · rcases S.par y.1 (List.of_mem_zip (show (y.1, y.2) ∈ ps.zip us from hy)).1 with q | q
    · exact .inl q
    · exact .inr ⟨q, PySem.W.cellsFrom_some _ _ _ (.inl q)⟩
  subst he
  refine ⟨noLim.keeps z.toInCall.keep, codeAny_func ?_⟩
  obtain ⟨t, pt, ht⟩ := walk cdv A outer s H vs Q E gd (room.deeper _) hsp
  have I0 := inv_start (CX := L2.CX M.P M.w) (E := E) S room.hd e0 many rel z
  refine wpAny_mono (pt.run [] s1 (L2.start N vs) H _ I0 ht) (fun way s2 h => ?_) fun _ _ h => h
  cases way with
  | ret u => obtain ⟨v, _, H2, J, r, q⟩ := h; exact ⟨v, H2, J.os, J.bare, J.base, J.hok, r, q⟩
  | next => obtain ⟨_, H2, J, q⟩ := h; exact ⟨.non, H2, J.os, J.bare, J.base, J.hok, rfl, q⟩
  | brk => exact h.choose_spec.choose_spec.2.elim
  | cont => exact h.choose_spec.choose_spec.2.elim
end
theorem pick_H {P : Program} {w : World} {K : PySem.W.Frag} {a : Addr} {vs : List Value} {ns : List Int} {s : Shared} (inK : K.In s.heap) (ho : s.heap.get? a = some { cls := .type "list", data := .seq vs.toArray }) (hi : IntsAre vs ns) (hl : ns.length ≤ sizeLine) :
    ∃ H : Hp, Only H ∧ SqL K H a (ns.map V.int) ∧ HOk P w H s.heap ∧ ∀ b, H b ≠ none → b = a ∧ K.lookup a = none := by
  have rel := vals_ints hi
  cases q : K.lookup a with
  | some o =>
    have e : o = { cls := .type "list", data := .seq vs.toArray } := Option.some.inj ((inK a o q).symm.trans ho)
    subst e
    have hsz : vs.toArray.size ≤ sizeLine := by rw [List.size_toArray, hi.length]; exact hl
    exact ⟨emp, fun _ => .inl rfl, .inr ⟨_, vs.toArray, _, q, rfl, rfl, rfl, hsz, by simpa using rel⟩, fun _ _ z => (nomatch z), fun _ z => absurd rfl z⟩
  | none =>
    let u : HO := .frz { cls := .type "list", data := .seq vs.toArray } (.lst (ns.map V.int))
    have at_ : ∀ b, (sing a u : Hp) b = if b = a then some u else none := fun _ => rfl
    refine ⟨sing a u, fun b => ?_, .inl (.inr ⟨_, sing_same⟩), fun b v z => ?_, fun b z => ?_⟩
    · by_cases hb : b = a
      · subst hb; exact .inr ⟨_, _, sing_same⟩
      · exact .inl (sing_ne hb)
    · by_cases hb : b = a
      · subst hb
        rw [sing_same] at z
        cases z
        exact ⟨ho, by rw [List.length_map]; exact hl, vs, _, rel, ho⟩
      · rw [sing_ne hb] at z; cases z
    · exact ⟨Classical.byContradiction fun hb => z (sing_ne hb), rfl⟩
theorem law_G {P : Program} {w : World} {K : PySem.W.Frag} {mg mb : Str → Option Value} {k : Nat} {fa a : Addr} {fd : FuncData} {x : Str} {sp : Sp} {s : Shared} {vs : List Value} {ns : List Int}
    (inK : K.In s.heap) (glob : s.heap.Ns mainGlobals mg) (blt : s.heap.Ns builtinsNs mb) (boot : ∀ x : Str, x ≠ "__name__" → mb x = bootBuiltins x) (lim : s.heap.NoLimit) (gens : s.gens = #[])
    (ho : s.heap.get? a = some { cls := .type "list", data := .seq vs.toArray }) (hi : IntsAre vs ns) (hl : ns.length ≤ sizeLine) (room : Room k callerA)
    (F : ∀ base : Heap, K.In base → base.Ns mainGlobals mg → FnG ⟨P, w, K, mg, base⟩ k fa fd [x] sp) (binds : ∀ (s : Shared) (u : Value), BindsTo s fd ⟨[u], []⟩ [(x, u)])
    (hsp : ∀ H : Hp, SqL K H a (ns.map V.int) → sp [.ref a] H (fun v _ => v = .bl true) fun _ _ _ => False) :
    codeAny (model P w) callerA (.call (.ref fa) ⟨[.ref a], []⟩) (fun r s' => r = .ok (.ret (.bool true)) ∧ OldK s.heap s'.heap ∧ s'.os = s.os ∧ AllBare s'.gens) s := by
  obtain ⟨H, only, seq, ok, most⟩ := pick_H (P := P) (w := w) inK ho hi hl
  have put : ∀ {b o}, s.heap.get? b = some o → H b = none → (hidT s.heap H).get? b = some o := hidT_get
  have nsOf : ∀ {b : Addr} {m : Str → Option Value}, s.heap.Ns b m → (hidT s.heap H).Ns b m := by
    rintro b m ⟨o, es, ep, e, d, r⟩
    refine ⟨o, es, ep, put e (Classical.byContradiction fun z => ?_), d, r⟩
    rw [(most b z).1, ho] at e
    cases e
    cases d
  have inB : K.In (hidT s.heap H) := fun b o e => put (inK b o e) (Classical.byContradiction fun z => by
    obtain ⟨h1, h2⟩ := most b z
    rw [h1, h2] at e
    cases e)
  obtain ⟨mc, c1, c2⟩ := lim
  have e0 : Env0 P w K mg (hidT s.heap H) callerA [] s H :=
    ⟨rfl, ⟨inB, nsOf glob, ⟨mb, nsOf blt, boot⟩, mc, nsOf c1, c2⟩, fun _ _ e => of_hidT e, Nat.le_of_eq (hidT_size _ _), trivial, fun _ z => (nomatch z), ok, .of_eq gens⟩
  have go := (F _ inB (nsOf glob)).go (M := ⟨P, w, K, mg, hidT s.heap H⟩) (A := callerA) (us := [.ref a]) (vs := [.ref a]) rfl room e0 (binds s (.ref a)) (.cons rfl .nil) (hsp H seq)
  refine codeAny_mono go fun r s2 h => ?_
  cases r with
  | error e =>
    obtain ⟨_, _, _, _, _, _, _, _, _, _, _, _, z⟩ := h
    exact z.elim
  | ok way =>
    cases way with
    | ret u =>
      obtain ⟨v, H2, os, bare, un, ok2, rel, q⟩ := h
      have q : v = .bl true := q
      subst q
      have rel : u = Value.bool true := rel
      subst rel
      refine ⟨rfl, OldK.of_keep fun b o e => ?_, os, bare⟩
      rcases only b with z | ⟨ob, xs, z⟩
      · exact un.keep b o e z (fun y => nomatch y) (fun y => nomatch y)
      · have y1 := (ok b _ z).1
        have y2 := (ok2 b _ (un.frzs b ob _ z)).1
        rw [e] at y1
        cases y1
        exact y2
    | next => exact h.elim
    | brk => exact h.elim
    | cont => exact h.elim
theorem walk_G {l : PySem.W.OpenLaw} {n k : Nat} {q : Program} {loose : List Str} {XP : (Str → Option Value) → Heap → Prop} {YP : World → Heap → Prop} {d : DefRec} {x : Str} (hn : l.most = some n) (hn2 : n ≤ sizeLine) (hdf : d.params.defaults = []) (room : Room k callerA)
    (F : ∀ (w : World) (mg : Str → Option Value) (fa : Addr) (h : Heap), YP w h → h.Ns mainGlobals mg → mg d.name = some (.ref fa) →
      ∃ (K : PySem.W.Frag) (fd : FuncData) (sp : Sp), K.In h ∧ (∀ (s : Shared) (u : Value), BindsTo s fd ⟨[u], []⟩ [(x, u)]) ∧ (∀ (H : Hp) (a : Addr) (ns : List Int), SqL K H a (ns.map V.int) → sp [.ref a] H (fun v _ => v = .bl true) fun _ _ _ => False) ∧
        ∀ base : Heap, K.In base → base.Ns mainGlobals mg → FnG ⟨l.prog, w, K, mg, base⟩ k fa fd [x] sp) :
    PySem.W.WalkO q loose XP YP l.row.toRowW d [] (fun f vs => PySem.call f vs) := by
  refine Att.attach_call hn hdf fun w _ s mg _ fa _ _ _ _ a vs ns G Y _ _ _ hmg ho hi hlen gens => ?_
  obtain ⟨K, fd, sp, inK, binds, hsp, hF⟩ := F w mg fa _ Y G.T.g hmg
  exact law_G inK G.T.g G.T.b G.T.builtins G.T.nolimit gens ho hi (Nat.le_trans hlen hn2) room hF binds fun H seq => hsp H a ns seq
end Mi

namespace Mi
open PySem PySem.Spec PyProof.Rows L2
section
variable {M : Md} {x qual : Str} {params : Arguments} {body : List Stmt} {scope : Scope} {f : Addr} {fd : FuncData} {N ps : List Str} {B : List Str} {k : Nat}
theorem fn_PG (F : FunD M.K x qual params body scope [] [] f fd) {Lks : Md → Prop} (lks : Lks M) {ts : List Ty} {tr : Ty} {β : Type} {Γn : β → Ctx} {osn : Os} {m : AT ts → OT [] → OutT ⟨[], [], tr⟩ LC.none β osn} {z : Option tr.A}
    (hB : ∀ (i : Nat) (x : Str), B[i]? = some x → M.mg x = none) (hsc : fnScB N ps scope = true) (hl : ts.length = ps.length)
    (hb : ∀ X : Cx, X.A.guards = some [] → Lks X.md → XOk X N scope B k → XS X → ∀ x, RB X ⟨[], [], tr⟩ LC.none (argCtx ts x ++ List.replicate (N.length - ts.length) none) [] body Γn osn (m x))
    (hz : ∀ y, z = some y → ∀ F, tr.rep y .non F emp) :
    FnG M (k + 1) f fd ps (spP M.mg ts tr fun x => runZ z (m x ())) := by
  obtain ⟨S, hu, hd⟩ := fnScB_ok hsc
  refine fn_G0 F S (fun vs H Q E h => ?_) fun cdv A outer s H vs Q E gd hr h => ?_
  · obtain ⟨_, _, _, h, _⟩ := h
    rw [h.length, hl]
  · obtain ⟨x, F, R, ha, g, h⟩ := h
    refine ⟨_, pss_best _ body, ?_⟩
    have c := ctx_args (n := N.length - vs.length) ha
    have hlen := ha.length
    rw [hlen] at c
    refine hb (cxOf (L2.CX M.P M.w) M.P M.w M.K M.mg M.base N qual scope f cdv A outer s H E) gd lks (xo_body S hu hd hB hr) xs_body x (L2.start N vs) F R R H () (fun cls d _ H => E cls d H) _ takes_body ?_ rfl g ?_
    · unfold L2.start
      rw [hlen]
      exact c
    · revert h
      show (match runZ z (m x ()) with
        | none => False
        | some (.ok y) => _
        | some (.error ex) => _) → WantS _ _ _ _ _ _ _ _ _ _ (m x ())
      cases q : m x () with
      | none => exact fun h => h.elim
      | some r =>
        cases r with
        | nxt n =>
          cases z with
          | none => exact fun h => h.elim
          | some y =>
            intro h σ' F' M' H' s' k' c' w' g'
            obtain ⟨M0, s0, w0⟩ := (dropAll osn).own w'
            have w0' : M0 = R := w0
            subst w0'
            exact h .non F' emp _ H' s' (sep_emp_l _) (g'.less s0) (hz y rfl F')
        | brk n => exact fun h => h.elim
        | cnt n => exact fun h => h.elim
        | ret y p =>
          intro h v σ' F' M1 mm M' H' s' k' w' p' g' r'
          have e : M1 = R := w'
          subst e
          exact h v F' mm M' H' s' p' g' r'
        | exc e p =>
          intro h cls d σ' F' M' H' s' k' w' g' x'
          have e : M' = R := w'
          subst e
          exact h cls d F' H' s' g' x'
end
section
variable {X : Cx} {N : List Str} {sc : Scope} {B : List Str} {k : Nat} {Γ : Ctx} {os : Os} {pos p : Pos} {e : Expr} {es : List Expr}
end
end Mi

namespace Mi
open PySem PySem.Spec PyProof.Rows L2
mutual
def dOnly : PyData → Bool
  | .list _ | .tuple _ => false
  | .dict ks => dOnlyK ks
  | _ => true
def dOnlyK : List (PyData × PyData) → Bool
  | [] => true
  | (_, x) :: r => dOnly x && dOnlyK r
end
section
variable {P : Program} {w : World} {H : Hp} {h : Heap}
mutual
theorem reads_of (ok : HOk P w H h) : ∀ {d : PyData} {v : V} {u : Value}, DV d v H → RelV v u → ∃ as, Reads h u d as ∧ (dOnly d = true → sysModules ∉ as)
  | .none, _, _, q, r => by
    unfold DV at q; subst q
    have r' : _ = Value.none := r
    subst r'
    exact ⟨_, .none, fun _ z => nomatch z⟩
  | .bool b, _, _, q, r => by
    unfold DV at q; subst q
    have r' : _ = Value.bool b := r
    subst r'
    exact ⟨_, .bool b, fun _ z => nomatch z⟩
  | .int i, _, _, q, r => by
    unfold DV at q; subst q
    obtain ⟨t, r'⟩ := r
    subst r'
    exact ⟨_, .int i t, fun _ z => nomatch z⟩
  | .str x, _, _, q, r => by
    unfold DV at q; subst q
    obtain ⟨t, r'⟩ := r
    subst r'
    exact ⟨_, .str x t, fun _ z => nomatch z⟩
  | .list xs, _, _, q, r => by
    unfold DV at q
    obtain ⟨a, vs, e, ha, q⟩ := q
    subst e
    have r' : _ = Value.ref a := r
    subst r'
    obtain ⟨_, its, n, rv, ho⟩ := ok a _ ha
    obtain ⟨as, rs⟩ := readsAll_of ok q rv
    exact ⟨_, .list ho rfl rfl rs, fun z => nomatch z⟩
  | .tuple xs, _, _, q, r => by
    unfold DV at q
    obtain ⟨a, vs, e, ha, q⟩ := q
    subst e
    have r' : _ = Value.ref a := r
    subst r'
    obtain ⟨_, its, rv, o, ho, hc, n, hd⟩ := ok a _ ha
    obtain ⟨as, rs⟩ := readsAll_of ok q rv
    exact ⟨_, .tuple ho hc hd rs, fun z => nomatch z⟩
  | .dict ks, _, _, q, r => by
    unfold DV at q
    obtain ⟨a, kw, e, ha, q⟩ := q
    subst e
    have r' : _ = Value.ref a := r
    subst r'
    obtain ⟨_, hsys, vs, kv, o, es, ep, ho, hx, hd, _, hp, _⟩ := dk_rd ok ha
    obtain ⟨bs, r1, r2, r3⟩ := readsKv_of ok q kv hp
    refine ⟨_, .dict ho hx.1 hd r1 r2, fun z => ?_⟩
    intro m
    rcases List.mem_cons.mp m with e | m
    · rw [← e] at hsys; simp at hsys
    · exact r3 z (by simpa using m)
theorem readsAll_of (ok : HOk P w H h) : ∀ {ds : List PyData} {vs : List V} {us : List Value}, DVs ds vs H → Vals vs us → ∃ as, ReadsAll h us ds as
  | [], _, _, q, r => by
    unfold DVs at q; subst q
    cases r
    exact ⟨_, .nil⟩
  | x :: xs, _, _, q, r => by
    unfold DVs at q
    obtain ⟨v, l, e, q, k⟩ := q
    subst e
    cases r with
    | cons r1 r2 =>
      obtain ⟨as, h1, _⟩ := reads_of ok q r1
      obtain ⟨bs, h2⟩ := readsAll_of ok k r2
      exact ⟨_, .cons h1 h2⟩
theorem readsKv_of (ok : HOk P w H h) : ∀ {ks : List (PyData × PyData)} {kw : List (Key × V)} {vs : List (Key × Value)} {es : List DictEntry}, DKs ks kw H → KV kw vs → Pairs (mixKind P w) es vs → ∃ bs, ReadsAll h (es.map (·.key)) (ks.map (·.1)) [] ∧ ReadsAll h (es.map (·.val)) (ks.map (·.2)) bs ∧ (dOnlyK ks = true → sysModules ∉ bs)
  | [], _, _, _, q, r, p => by
    unfold DKs at q; subst q
    cases r
    cases p
    exact ⟨_, .nil, .nil, fun _ z => nomatch z⟩
  | (k, x) :: xs, _, _, _, q, r, p => by
    unfold DKs at q
    obtain ⟨s, v, l, e, ek, q, z⟩ := q
    subst e ek
    cases r with
    | cons r1 r2 =>
      cases p with
      | @cons e' _ _ _ p1 p2 p3 =>
        obtain ⟨e1, r1⟩ := r1
        obtain ⟨as, h1, h1'⟩ := reads_of ok q r1
        obtain ⟨bs, h2, h3, h4⟩ := readsKv_of ok z r2 p3
        rw [← e1] at p1
        obtain ⟨t, ey⟩ := Value.isStrOf_shape (x := s) p1
        refine ⟨_, ?_, .cons (show Reads h e'.val x as by rw [p2]; exact h1) h3, fun hb m => ?_⟩
        · have := ReadsAll.cons (h := h) (Reads.str s t) h2
          rw [List.map_cons, ey]
          exact this
        · unfold dOnlyK at hb
          rw [Bool.and_eq_true] at hb
          rcases List.mem_append.mp m with m | m
          · exact h1' hb.1 m
          · exact h4 hb.2 m
end
end
theorem sh_int : Sh tInt PyData.int := fun {x v F} r => by unfold DV; exact r.2
theorem sh_bool : Sh tBool PyData.bool := fun {x v F} r => by unfold DV; exact r.2
theorem sh_str : Sh tStr (fun x => PyData.str (sOf x)) := fun {x v F} r => by unfold DV; exact r.2
theorem sh_none : Sh tNone (fun _ => PyData.none) := fun {x v F} r => by unfold DV; exact r.2
variable {t : Ty} {dat : t.A → PyData}
theorem allR_sh (h : Sh t dat) {F : Hp} : ∀ {xs : List t.A} {vs : List V}, AllR t xs vs F → DVs (xs.map dat) vs F
  | [], vs, r => by
    have r' : vs = [] := r
    rw [List.map_nil]; unfold DVs; exact r'
  | x :: xs, _, ⟨v, l, e, q, k⟩ => by
    rw [List.map_cons]; unfold DVs
    exact ⟨v, l, e, h q, allR_sh h k⟩
theorem sh_lst (h : Sh t dat) : Sh (tLst t) (fun x => PyData.list (x.map dat)) := fun {x v F} r => by
  obtain ⟨_, a, vs, e, q, k⟩ := r
  unfold DV
  exact ⟨a, vs, e, q, allR_sh h k⟩
def kvD (dat : t.A → PyData) (y : List Nat × t.A) : PyData × PyData := (.str (sOf y.1), dat y.2)
theorem kvR_sh (h : Sh t dat) {F : Hp} : ∀ {xs : List (List Nat × t.A)} {kvs : List (Key × V)}, KvR t xs kvs F → DKs (xs.map (kvD dat)) kvs F
  | [], vs, r => by
    have r' : vs = [] := r
    rw [List.map_nil]; unfold DKs; exact r'
  | x :: xs, _, ⟨v, l, e, q, k⟩ => by
    rw [List.map_cons]
    show DKs ((.str (sOf x.1), dat x.2) :: xs.map (kvD dat)) _ F
    unfold DKs
    exact ⟨sOf x.1, v, l, e, rfl, h q, kvR_sh h k⟩
def textL (d : PyData) : List Nat := d.shown.cps.toList
theorem textL_of (d : PyData) : sOf (textL d) = d.shown := by
  unfold textL sOf
  cases h : d.shown with
  | mk a => simp
def ShowOk (d : PyData) : Prop := d.showable = true ∧ d.shown.length ≤ sizeLine ∧ d.depth ≤ 100
instance {d : PyData} : Decidable (ShowOk d) := by unfold ShowOk; exact inferInstance
def isLeaf : PyData → Bool
  | .list _ | .tuple _ | .dict _ => false
  | _ => true
section
variable {X : Cx} {N : List Str} {sc : Scope} {B : List Str} {k : Nat} {Γ : Ctx} {os : Os} {pos p p1 : Pos} {e : Expr} {es : List Expr}
def rRepr (ok : PyData → Prop) (xs : List V) (H : Hp) (Q : VK) : Prop := ∃ v d, xs = [v] ∧ DV d v H ∧ ok d ∧ ShowOk d ∧ Q (.str d.shown) H
theorem call_reprS : CallR X (.builtin "repr") (rRepr fun d => isLeaf d = true) := by
  intro pins s σ H xs us Q I r h
  obtain ⟨v, d, rfl, dv, leaf, ⟨ok1, ok2, _⟩, q⟩ := h
  obtain ⟨u, rfl, ru⟩ := vals1 r
  have fin : ∀ tk, EP X pins σ Q (.str d.shown tk) { s with toks := s.toks + 1 } := fun tk => ⟨.str d.shown, H, I.tok _, ⟨tk, rfl⟩, q⟩
  cases d with
  | none =>
    unfold DV at dv; subst dv
    have ru' : u = Value.none := ru
    subst ru'
    rw [PyData.shown_none] at fin
    exact PySem.P.repr_of_none (fin _)
  | bool b =>
    unfold DV at dv; subst dv
    have ru' : u = Value.bool b := ru
    subst ru'
    rw [PyData.shown_bool] at fin
    refine PySem.P.repr_of_bool ?_
    cases b <;> exact fin _
  | int i =>
    unfold DV at dv; subst dv
    obtain ⟨t, ru'⟩ := ru
    subst ru'
    rw [PyData.shown_int] at fin
    refine PySem.P.repr_of_int ?_ (fin _)
    simpa [PyData.showable] using ok1
  | str x =>
    unfold DV at dv; subst dv
    obtain ⟨t, ru'⟩ := ru
    subst ru'
    rw [PyData.shown_str] at fin ok2
    exact PySem.P.repr_of_str (fin _) ok2
  | list _ => cases leaf
  | tuple _ => cases leaf
  | dict _ => cases leaf
theorem call_reprG (gd : X.A.guards = some []) (hu : X.A.units + 150 < cLine) : CallR X (.builtin "repr") (rRepr fun d => isLeaf d = true ∨ d.hasDict = false ∨ dOnly d = true) := by
  intro pins s σ H xs us Q I r h
  obtain ⟨v, d, rfl, dv, ok, sok, q⟩ := h
  by_cases leaf : isLeaf d = true
  · exact call_reprS pins s σ H [v] us Q I r ⟨v, d, rfl, dv, leaf, sok, q⟩
  · obtain ⟨u, rfl, ru⟩ := vals1 r
    obtain ⟨as, rd, hs⟩ := reads_of I.hok dv ru
    have hsm : d.hasDict = true → sysModules ∉ as := fun hd => by
      rcases ok with z | z | z
      · exact absurd z leaf
      · rw [hd] at z; cases z
      · exact hs z
    have ref : ∃ a, u = .ref a := by
      cases rd with
      | none => exact absurd rfl leaf
      | bool b => exact absurd rfl leaf
      | int i t => exact absurd rfl leaf
      | str x t => exact absurd rfl leaf
      | list _ _ _ _ => exact ⟨_, rfl⟩
      | tuple _ _ _ _ => exact ⟨_, rfl⟩
      | dict _ _ _ _ _ => exact ⟨_, rfl⟩
    obtain ⟨a, rfl⟩ := ref
    obtain ⟨o1, o2, o3⟩ := sok
    exact repr_of_reads' rd o1 hsm gd (by omega) (fun _ _ e => e) (fun h' u tk kp => ⟨.str d.shown, H, I.kept kp, ⟨_, rfl⟩, q⟩) o2
def reprO (ok : PyData → Bool) (d : PyData) : Option (List Nat) := if ok d = true ∧ ShowOk d then some (textL d) else none
theorem v_repr {t : Ty} {dat : t.A → PyData} (sh : Sh t dat) (im : Imm t) {okB : PyData → Bool} {ok : PyData → Prop} (hok : ∀ d, okB d = true → ok d) : VCall (rRepr ok) [t] tStr (fun x => reprO okB (dat x.1)) := by
  intro x z vs F M H Q e h g q
  obtain ⟨v, us, e1, r, e2⟩ := h
  have e2' : us = [] := e2
  subst e2' e1
  have e : (if okB (dat x.1) = true ∧ ShowOk (dat x.1) then some (textL (dat x.1)) else none) = some z := e
  by_cases c : okB (dat x.1) = true ∧ ShowOk (dat x.1)
  · rw [if_pos c] at e
    cases e
    refine ⟨v, dat x.1, rfl, (sh r).up g.fn, hok _ c.1, c.2, ?_⟩
    rw [← textL_of]
    exact fl (gA := fun l => V.str (sOf l)) q g
  · rw [if_neg c] at e; cases e
def okG (d : PyData) : Bool := isLeaf d || !d.hasDict || dOnly d
end
end Mi

namespace Mi
open PySem PySem.Spec PyProof.Rows L2
section
variable {P : Program} {w : World} {H : Hp} {h : Heap}
theorem readsAll_low (ok : HOk P w H h) : ∀ {ds : List PyData} {vs : List V} {us : List Value}, ds.all dOnly = true → DVs ds vs H → Vals vs us → ∃ as, ReadsAll h us ds as ∧ sysModules ∉ as
  | [], _, _, _, q, r => by
    unfold DVs at q; subst q
    cases r
    exact ⟨_, .nil, fun z => nomatch z⟩
  | x :: xs, _, _, hd, q, r => by
    unfold DVs at q
    obtain ⟨v, l, e, q, k⟩ := q
    subst e
    rw [List.all_cons, Bool.and_eq_true] at hd
    cases r with
    | cons r1 r2 =>
      obtain ⟨as, h1, h1'⟩ := reads_of ok q r1
      obtain ⟨bs, h2, h2'⟩ := readsAll_low ok hd.2 k r2
      exact ⟨_, .cons h1 h2, fun m => (List.mem_append.mp m).elim (h1' hd.1) h2'⟩
end
section
variable {X : Cx} {N : List Str} {sc : Scope} {B : List Str} {k : Nat} {Γ : Ctx} {os os' : Os} {pos p p1 p2 p3 cpos apos : Pos} {e a b c : Expr} {es : List Expr} {t u : Ty}
def reprL (ds : List PyData) : Option (List Nat) := if ds.all dOnly = true ∧ ShowOk (.list ds) ∧ ds.length ≤ 1000 then some (textL (.list ds)) else none
end
end Mi

namespace Mi
open PySem PySem.Spec PyProof.Rows L2
section
open PySem.W
variable {prog : Program} {w : World} {A : Around} {E : Value → Shared → Prop} {s : Shared} {K : Frag} {x y C f : Addr} {ox oy : Obj} {od od' : Option Obj} {Q : Value → Shared → Prop}
end
section
variable {X : Cx} {N : List Str} {sc : Scope} {B : List Str} {k : Nat} {Γ : Ctx} {os os' : Os} {pos p p1 p2 p3 cpos apos : Pos} {e a b c : Expr} {es : List Expr} {t u : Ty} {C f : Addr} {fd : FuncData} {ps : List Str} {sp : Sp} {fs : Flds}
structure CmpO (K : PySem.W.Frag) (C : Addr) : Prop where
  ne : PySem.W.findIn K (.ref C) "__ne__" = some (some (.builtin "object.__ne__"))
  ob : PySem.W.mroIn K C (.type "object") = some true
end
end Mi

namespace Mi
open PySem PySem.Spec PyProof.Rows L2
section
variable {X : Cx} {N : List Str} {sc : Scope} {B : List Str} {k : Nat} {Γ : Ctx} {os os' : Os} {pos p p1 p2 p3 cpos apos : Pos} {e a b c : Expr} {es : List Expr} {t u : Ty} {C f : Addr} {fd : FuncData} {fs : Flds}
def rDV (g : Bool → Bool) : R2 := fun x y H Q => ∃ d e, DV d x H ∧ DV e y H ∧ SeqAt.shaped d = true ∧ SeqAt.shaped e = true ∧ Q (.bl (g (PyData.eqv d e))) H
theorem op_eqV (hu : X.A.units + 64 < cLine) : OpR X (compareOp .Eq) (rDV id) := by
  intro pins s σ H x y v u Q I rx ry h
  obtain ⟨d, e, hd, he, sd, se, q⟩ := h
  obtain ⟨as, r1, _⟩ := reads_of I.hok hd rx
  obtain ⟨bs, r2, _⟩ := reads_of I.hok he ry
  exact SeqAt.compareEq_shaped r1 r2 sd se hu ⟨.bl _, H, I, rfl, q⟩
theorem v_eqV {t u : Ty} {dt : t.A → PyData} {du : u.A → PyData} (st : Sh t dt) (su : Sh u du) (it : Imm t) (iu : Imm u) : VOp (rDV id) t u tBool (fun x y => if SeqAt.shaped (dt x) = true ∧ SeqAt.shaped (du y) = true then some (PyData.eqv (dt x) (du y)) else none) := by
  intro x y z v w F M H Q e rx ry g q
  have e' : (if SeqAt.shaped (dt x) = true ∧ SeqAt.shaped (du y) = true then some (PyData.eqv (dt x) (du y)) else none) = some z := e
  by_cases c : SeqAt.shaped (dt x) = true ∧ SeqAt.shaped (du y) = true
  · rw [if_pos c] at e'
    cases e'
    exact ⟨dt x, du y, (st rx).up g.fn, (su ry).up g.fn, c.1, c.2, fl (gA := V.bl) q g⟩
  · rw [if_neg c] at e'; cases e'
end
end Mi

namespace Mi
open PySem PySem.Spec PyProof.Rows L2
section
variable {X : Cx} {N : List Str} {sc : Scope} {B : List Str} {k : Nat} {Γ : Ctx} {os os' : Os} {pos p p1 p2 p3 cpos apos : Pos} {e a b c : Expr} {es : List Expr} {t u : Ty} {G : FX} {L : LC} {β : Type} {Γn : β → Ctx} {osn : Os} {rest : List Stmt}
end
section
variable {X : Cx} {Γ : Ctx} {os : Os} {pos : Pos} {a b : Expr} {t : Ty}
end
section
variable {X : Cx} {N : List Str} {sc : Scope} {B : List Str} {k : Nat} {Γ : Ctx} {os os' : Os} {pos : Pos} {a b : Expr} {t u : Ty} {C f : Addr} {fs : Flds}
end
end Mi

namespace Mi
open PySem PySem.Spec PySem.W PySem.Calls PyProof.Rows L2
section
variable {X : Cx} {pins : List (Addr × Obj)} {σ : L2.St} {H H' : Hp} {s : Shared}
end
end Mi

namespace Mi
open PySem PySem.Spec PySem.Calls PyProof.Rows L2 NdefX
section
variable {X : Cx} {pins : List (Addr × Obj)} {σ : L2.St} {H : Hp} {s : Shared}
end
end Mi

namespace Mi
open PySem PySem.Spec PySem.Calls PyProof.Rows L2 NdefX
section
variable {X : Cx} {N : List Str} {sc : Scope} {B : List Str} {k : Nat} {Γ : Ctx} {os os' : Os} {pos p p1 p2 p3 cpos apos : Pos} {e a b : Expr} {es : List Expr} {t u : Ty} {T : List (Addr × Str)}
end
section
variable {A : Type}
end
end Mi

namespace Mi
open PySem PySem.Spec PySem.Calls PyProof.Rows L2 NdefX
section
variable {X : Cx} {N : List Str} {sc : Scope} {B : List Str} {k : Nat} {Γ : Ctx} {os os' : Os} {pos p p1 p2 p3 cpos apos lpos kpos : Pos} {e a b : Expr} {es : List Expr} {t u : Ty}
end
end Mi

namespace Mi
open PySem PySem.Spec PySem.Calls PyProof.Rows L2 NdefX
section
variable {X : Cx} {N : List Str} {sc : Scope} {B : List Str} {k : Nat} {Γ : Ctx} {os os' : Os} {pos p p1 p2 p3 cpos apos lpos kpos : Pos} {e a b : Expr} {es : List Expr} {t u : Ty}
end
end Mi

namespace Mi
open PySem PySem.Spec PyProof.Rows L2
structure SaysY (fa : List He.Fa) (fn : List He.DefD) (pr : List PrD) (cv : List CvD) (tf : List He.Defn) (h : Heap) (K : PySem.W.Frag) : Prop where
  x : SaysX fa fn pr cv K
  hd : ∀ p ∈ tf, PySem.W.codeHdIn K (He.cT K p).1 (He.cT K p).2 = true
  out : ∀ p ∈ tf, K.lookup (He.cT K p).2 = none
  empty : ∀ p ∈ tf, h.get? (He.cT K p).2 = some { cls := .none, data := .fields #[] }
  nd : (tf.map fun p => (He.cT K p).2).Nodup
section
variable {M : Md} {x qual : Str} {params : Arguments} {body : List Stmt} {scope : Scope} {fd : FuncData} {N ps : List Str} {B : List Str} {k : Nat}
end
theorem lookup_mem' {β : Type} {a : Addr} {o : β} : ∀ {l : List (Addr × β)}, l.lookup a = some o → (a, o) ∈ l
  | [], h => by cases h
  | (b, u) :: r, h => by
    rw [List.lookup] at h
    cases q : (a == b) with
    | true => rw [q] at h; cases h; rw [beq_iff_eq.mp q]; exact List.mem_cons_self ..
    | false => rw [q] at h; exact List.mem_cons_of_mem _ (lookup_mem' h)
theorem emp_sub {H : Hp} : Sub emp H := fun _ _ h => by cases h
theorem tab_start {K : PySem.W.Frag} {H : Hp} {a : Addr} {xs : List V} {T : List (Addr × Str)} (hT : ∀ p ∈ T, H p.1 = some (.tbl #[])) (nd : (T.map (·.1)).Nodup) (hS : SqL K H a xs) : ∃ F, Good F emp H ∧ Knows T F ∧ SqL K F a xs := by
  have look : ∀ {T : List (Addr × Str)}, (T.map (·.1)).Nodup → ∀ p ∈ T, T.lookup p.1 = some p.2 := fun {T} nd => by
    induction T with
    | nil => intro p hp; cases hp
    | cons r T ih =>
      intro p hp
      rw [List.map_cons, List.nodup_cons] at nd
      rcases List.mem_cons.mp hp with rfl | h
      · simp [List.lookup]
      · have hne : (p.1 == r.1) = false := by
          rw [beq_eq_false_iff_ne]
          exact fun z => nd.1 (by rw [← z]; exact List.mem_map.mpr ⟨p, h, rfl⟩)
        rw [List.lookup, hne]
        exact ih nd.2 p h
  have inT : ∀ {b : Addr} {q : Str}, T.lookup b = some q → H b = some (.tbl #[]) := fun {b q} e => hT (b, q) (lookup_mem' e)
  let F : Hp := fun b => match T.lookup b with
    | some q => some (.tbl #[.str q 0])
    | none => match H b with
      | some (.tbl _) => none
      | o => o
  have F1 : ∀ {b q}, T.lookup b = some q → F b = some (.tbl #[.str q 0]) := fun {b q} e => by show (match T.lookup b with | some q => _ | none => _) = _; rw [e]
  have F2 : ∀ {b o}, H b = some o → noTbl o → F b = some o := fun {b o} e n => by
    have e1 : T.lookup b = none := by
      cases z : T.lookup b with
      | none => rfl
      | some q =>
        have := inT z
        rw [e] at this
        exact absurd (Option.some.inj this) (n _)
    show (match T.lookup b with | some q => _ | none => _) = _
    rw [e1]
    show (match H b with | some (.tbl _) => none | o => o) = _
    rw [e]
    cases o with
    | tbl ps => exact absurd rfl (n ps)
    | _ => rfl
  refine ⟨F, ⟨fun b o e => ?_, emp_sub, fun _ => .inr rfl, fun _ _ e => by cases e⟩, fun p hp => F1 (look nd p hp), ?_⟩
  · cases z : T.lookup b with
    | some q =>
      rw [F1 z] at e
      cases e
      exact ⟨q, rfl, #[], inT z, True.intro, fun pos cv hc => by
        have z : codeAmong pos [] = some cv := hc
        simp [codeAmong] at z⟩
    | none =>
      have e' : (match H b with | some (.tbl _) => none | o => o) = some o := by
        have e2 : F b = (match H b with | some (.tbl _) => none | o => o) := by show (match T.lookup b with | some q => _ | none => _) = _; rw [z]
        rw [← e2]; exact e
      cases hb : H b with
      | none => rw [hb] at e'; cases e'
      | some u =>
        rw [hb] at e'
        cases u with
        | tbl ps => cases e'
        | _ => cases e'; exact hb
  · exact hS.imp (fun r => r.imp (fun e => F2 e fun _ z => nomatch z) fun ⟨o, e⟩ => ⟨o, F2 e fun _ z => nomatch z⟩) id
end Mi

namespace Mi
open PySem PySem.Spec PyProof.Rows L2
section
variable {X : Cx} {N : List Str} {sc : Scope} {B : List Str} {k : Nat} {Γ : Ctx} {os os' : Os} {pos p p1 p2 p3 cpos apos : Pos} {e a b : Expr} {es : List Expr} {t u : Ty}
end
end Mi

namespace Mi
open PySem PySem.Spec PyProof.Rows L2
section
variable {X : Cx} {Γ : Ctx} {os : Os} {N : List Str} {sc scope : Scope} {B : List Str} {k : Nat} {pos : Pos} {t u t1 : Ty} {elt tg iter tg1 iter1 : Expr} {ifs ifs1 : List Expr}
end
end Mi

namespace Mi
open PySem PySem.Spec PyProof.Rows L2
section
variable {X : Cx} {Γ : Ctx} {os os' : Os} {N : List Str} {sc scope : Scope} {B : List Str} {k : Nat} {pos p : Pos} {t u t1 : Ty} {elt tg iter tg1 iter1 e a b : Expr} {ifs ifs1 : List Expr}
variable {G : FX} {L : LC} {β : Type} {Γn : β → Ctx} {osn : Os} {rest : List Stmt}
theorem sh_tup {ts : List Ty} {ds : AT ts → List PyData} (h : Shs ts ds) : Sh (tTup ts) (fun x => PyData.tuple (ds x)) := fun {x v F} r => by
  obtain ⟨_, a, vs, e, q, k⟩ := r
  unfold DV
  exact ⟨a, vs, e, q, h.of k⟩
end
end Mi

namespace Mi
open PySem PySem.Spec PyProof.Rows L2
section
variable {X : Cx} {N : List Str} {sc : Scope} {B : List Str} {k : Nat} {Γ : Ctx} {os os' os1 os2 : Os} {pos p p1 p2 p3 : Pos} {e : Expr} {t t1 t2 : Ty}
variable {n1 n2 n3 : List Nat}
variable {G : FX} {L : LC} {β : Type} {Γn : β → Ctx} {osn : Os} {rest : List Stmt} {a : Expr}
end
end Mi

namespace Mi
open PySem PySem.Spec PyProof.Rows L2
section
variable {X : Cx} {N : List Str} {sc : Scope} {B : List Str} {k : Nat} {Γ : Ctx} {os os' : Os} {pos p p1 p2 p3 : Pos} {e a b : Expr} {t u : Ty}
variable {G : FX} {L : LC} {β : Type} {Γn : β → Ctx} {osn : Os} {rest : List Stmt}
end
end Mi

namespace Mi
open PySem PySem.Spec PyProof.Rows L2
section
variable {X : Cx} {N : List Str} {sc : Scope} {B : List Str} {k : Nat} {Γ : Ctx} {os os' : Os} {pos p p1 p2 p3 pt pt2 : Pos} {e a b : Expr} {t u : Ty}
variable {G : FX} {L : LC} {β : Type} {Γn : β → Ctx} {osn : Os} {rest : List Stmt}
end
end Mi

namespace Mi
open PySem PySem.Spec PyProof.Rows L2
end Mi

namespace Mi
open PySem PySem.Spec PyProof.Rows L2
end Mi

namespace Mi
open PySem PySem.Spec PyProof.Rows L2
section
variable {X : Cx} {N : List Str} {sc : Scope} {B : List Str} {k : Nat} {Γ : Ctx} {os os' : Os} {pos p p1 p2 p3 : Pos} {e a b : Expr} {t u : Ty}
theorem op_mulS0 : OpR X (binaryOp .Mult) (fun x y H Q => ∃ (l : List Nat) (n : Nat), x = .str (sOf l) ∧ y = .int (n : Int) ∧ n ≤ 1000 ∧ l.length ≤ 10000 ∧ Q (.str (sOf (List.replicate n l).flatten)) H) := by
  intro pins s σ H x y v u Q I rx ry h
  obtain ⟨l, n, ex, ey, h3, h5, q⟩ := h
  by_cases h2 : 2 ≤ n
  · exact op_mulS pins s σ H x y v u Q I rx ry ⟨l, n, ex, ey, h2, h3, h5, q⟩
  subst ex ey
  obtain ⟨t, rfl⟩ := rx
  obtain ⟨t', rfl⟩ := ry
  rcases (show n = 0 ∨ n = 1 by omega) with rfl | rfl
  · refine P.mul_str_none (by decide) (by decide) ⟨.str (sOf []), H, I.tok _, ⟨_, rfl⟩, ?_⟩
    exact q
  · refine P.mul_str (by rfl) (fun _ z => ?_) (fun _ z => ?_) ?_
    · exact absurd z (by simp)
    · exact absurd z (by simp)
    · rw [if_neg (by decide), if_pos (by simp)]
      refine ⟨.str (sOf l), H, I, ⟨_, rfl⟩, ?_⟩
      have : (List.replicate 1 l).flatten = l := by simp
      rw [this] at q
      exact q
theorem nat_of0 {y : Int} (h1 : 0 ≤ y) (h2 : y ≤ 1000) : y = (y.toNat : Int) ∧ y.toNat ≤ 1000 := by omega
theorem re_mulS0 {m : SM (OT os) (List Nat)} {n : SM (OT os) Int} (ha : RE X Γ os a tStr m) (hb : RE X Γ os b tInt n) :
    RE X Γ os (.BinOp a .Mult b pos) tStr (SM.bind m fun x => SM.bind n fun y => SM.lift (if 0 ≤ y ∧ y ≤ 1000 ∧ x.length ≤ 10000 then some (List.replicate y.toNat x).flatten else none)) := by
  refine re_op (ta := tStr) (tb := tInt) (tc := tStr) (f := fun x y => if 0 ≤ y ∧ y ≤ 1000 ∧ x.length ≤ 10000 then some (List.replicate y.toNat x).flatten else none) op_mulS0 (fun {x y z v u F M H Q} e hx hy g q => ?_) imF imF ha hb
  obtain ⟨_, rx⟩ := hx
  obtain ⟨_, ry⟩ := hy
  have e' : (if 0 ≤ y ∧ y ≤ 1000 ∧ x.length ≤ 10000 then some (List.replicate y.toNat x).flatten else none) = some z := e
  by_cases h : 0 ≤ y ∧ y ≤ 1000 ∧ x.length ≤ 10000
  · rw [if_pos h] at e'
    cases e'
    obtain ⟨h1, h2, h3⟩ := h
    obtain ⟨n1, n2⟩ := nat_of0 h1 h2
    exact ⟨x, y.toNat, rx, by rw [ry]; exact congrArg V.int n1, n2, h3, fl (gA := fun l => V.str (sOf l)) q g⟩
  · rw [if_neg h] at e'; cases e'
end
end Mi

namespace Mi
open PySem PySem.Spec PyProof.Rows L2
section
variable {X : Cx} {N : List Str} {sc : Scope} {B : List Str} {k : Nat} {Γ : Ctx} {os os' : Os} {pos p p1 p2 p3 cpos apos : Pos} {e a b c : Expr} {es : List Expr} {t u : Ty}
end
end Mi

namespace Mi
open PySem PySem.Spec PyProof.Rows L2
section
variable {X : Cx} {N : List Str} {sc : Scope} {B : List Str} {k : Nat} {Γ : Ctx} {os os' : Os} {pos p p1 p2 p3 cpos apos pt : Pos} {e a b c : Expr} {es : List Expr} {t u : Ty}
theorem ArgsOk.M : ∀ {ts : List Ty} {x : AT ts} {vs : List V} {F : Hp}, ArgsOk ts x vs F → ArgsM ts x vs F emp
  | [], _, _, _, h => ⟨h, rfl⟩
  | _ :: _, _, _, _, ⟨v, us, e, r, k⟩ => ⟨v, us, emp, emp, e, r, k.M, sep_emp_l _⟩
variable {G : FX} {L : LC} {β : Type} {Γn : β → Ctx} {osn : Os} {rest : List Stmt}
end
end Mi

namespace Mi
open PySem PySem.Spec PyProof.Rows L2
section
variable {X : Cx} {N : List Str} {sc : Scope} {B : List Str} {k : Nat} {Γ : Ctx} {os : Os} {pos : Pos} {a b : Expr} {t : Ty}
def mrgP {A : Type} (acc xs : List (List Nat × A)) : List (List Nat × A) := xs.foldl (fun acc y => dput y.1 y.2 acc) acc
theorem KvR.merge {t : Ty} {F : Hp} : ∀ {xs : List (List Nat × t.A)} {kvs : List (Key × V)} {acc : List (List Nat × t.A)} {ka : List (Key × V)}, KvR t xs kvs F → KvR t acc ka F → KvR t (mrgP acc xs) (mergeK ka kvs) F
  | [], kvs, acc, ka, h, q => by have h' : kvs = [] := h; subst h'; exact q
  | y :: r, _, acc, ka, ⟨v, l, e, q, k'⟩, q2 => by
    subst e
    exact (KvR.merge k' (q2.put q) : KvR t (mrgP (dput y.1 y.2 acc) r) (mergeK (putK ka (.inr (sOf y.1)) v) l) F)
theorem KvR.len {t : Ty} {F : Hp} : ∀ {xs : List (List Nat × t.A)} {kvs : List (Key × V)}, KvR t xs kvs F → kvs.length = xs.length
  | [], kvs, h => by have h' : kvs = [] := h; subst h'; rfl
  | y :: r, _, ⟨v, l, e, q, k'⟩ => by subst e; rw [List.length_cons, List.length_cons, k'.len]
def NormD (os : Os) (t : Ty) (σ : L2.St) (F R : Hp) (Q : List (V × V) → Hp → Prop) (x : List (List Nat × t.A)) (o : OT os) : Prop :=
  ∀ kvs F' M' H', Sub F F' → OwnOk os o σ F' M' R → Good F' M' H' → KvR t x kvs F' → Q (kvs.map fun kv => (kV kv.1, kv.2)) H'
def RD (X : Cx) (Γ : Ctx) (os : Os) (pos : Pos) (ks : List (Option Expr)) (vs : List Expr) (t : Ty) (m : SM (OT os) (List (List Nat × t.A))) : Prop :=
  ∃ trs, PPs X pos ks vs trs ∧ ∀ (σ : L2.St) (F M R H : Hp) (o : OT os) (W : WX) (Q : List (V × V) → Hp → Prop), Takes X W → CtxOk Γ σ F → OwnOk os o σ F M R → Good F M H →
    Want (m o) (NormD os t σ F R Q) (ExcE X os σ F R W) → tPairs trs σ H Q
theorem rd_nil : RD X Γ os pos [] [] t (SM.ret []) := ⟨[], pps_nil, fun σ F M R H o W Q tk c w g q => q [] F M H (.refl F) w g rfl⟩
theorem rd_cons {ke e : Expr} {ks : List (Option Expr)} {vs : List Expr} {mk : SM (OT os) (List Nat)} {m : SM (OT os) t.A} {mr : SM (OT os) (List (List Nat × t.A))} (it : Imm t) (hk : RE X Γ os ke tStr mk) (h : RE X Γ os e t m) (hr : RD X Γ os pos ks vs t mr) :
    RD X Γ os pos (some ke :: ks) (e :: vs) t (SM.bind mk fun x => SM.bind m fun y => SM.bind mr fun r => SM.ret ((x, y) :: r)) := by
  obtain ⟨trs, pp, hr⟩ := hr
  refine ⟨_, pps_cons (pe_best X ke) (pe_best X e) pp, fun σ F M R H o W Q tk c w g q => ?_⟩
  refine hk σ F M R H o W _ tk c w g (q.bind.imp (fun x o1 z => ?_) fun _ _ z => z)
  intro vk F0 M0 mm0 M0' H0 s0 w0 p0 g0 ⟨ek, ev⟩
  subst ek ev
  have e := p0.emp_l; subst e
  refine h σ F0 _ R H0 o1 W _ tk (c.mono s0) w0 g0 (z.bind.imp (fun y o2 z => ?_) fun _ _ z => z.mono s0)
  intro v F' M1 mm M' H' s w' p' g' r
  have e := it r; subst e
  have e := p'.emp_l; subst e
  refine hr σ F' _ R H' o2 W _ tk (c.mono (s0.trans s)) w' g' (z.bind.imp (fun y o3 z => ?_) fun _ _ z => z.mono (s0.trans s))
  intro kvs F2 M2 H2 s2 w2 g2 r2
  exact (show NormD os t σ F R Q (_ :: y) o3 from z) ((.inr (sOf x), v) :: kvs) F2 M2 H2 ((s0.trans s).trans s2) w2 g2 ⟨v, kvs, rfl, t.mono r s2, r2⟩
theorem re_ddisp {ks : List (Option Expr)} {vs : List Expr} {m : SM (OT os) (List (List Nat × t.A))} (h : RD X Γ os pos ks vs t m) (hall : ks.all (·.isSome) = true := by rfl) (hl : ks.length = vs.length := by rfl) (h0 : ks ≠ [] := by simp)
    (h15b : Nat.ble ks.length 15 = true := by rfl) : RE X Γ os (.Dict ks vs pos) (tOwnD t) (SM.bind m fun xs => if xs.length ≤ 15 then SM.ret (mrgP [] xs) else SM.fail) := by
  obtain ⟨trs, pp, hr⟩ := h
  intro σ F M R H o W Q tk c w g q
  refine ⟨_, pe_disp pp hall hl h0 (Nat.le_of_ble_eq_true h15b), fun p hp => ?_⟩
  obtain ⟨g2, s2⟩ := g.newM (o := .dK []) hp
  obtain ⟨R2, pR, w2⟩ := w.frame s2
  refine hr σ F _ R2 _ o W _ tk c w2 g2 (q.bind.imp (fun x o1 z => ?_) fun ex o1 z => ?_)
  · intro kvs F' M' H' s' w' g' r
    obtain ⟨M4, p4, w4⟩ := OwnOk.unframe w' pR
    by_cases h15 : x.length ≤ 15
    · rw [if_pos h15] at z
      refine ⟨g'.m _ _ (p4.l _ _ sing_same), kvs, rfl, by rw [r.len]; exact h15, ?_⟩
      obtain ⟨M5, p5, g5⟩ := g'.set (o' := .dK (mergeK [] kvs)) p4
      exact (show NormE os (tOwnD t) σ F R Q (mrgP [] x) o1 from z) (.ref p) F' M4 _ M5 _ s' w4 p5 g5 ⟨p, _, rfl, rfl, KvR.merge r (show KvR t [] [] F' from rfl)⟩
    · rw [if_neg h15] at z; exact z.elim
  · intro cls d F2 M2 H2 s2 w3 g2 x2
    obtain ⟨M4, p4, w4⟩ := OwnOk.unframe w3 pR
    exact (show ExcE X os σ F R W ex o1 from z) cls d F2 M4 H2 s2 w4 (g2.less p4.r) x2
end
end Mi

namespace Mi
open PySem PySem.Spec PySem.Calls PyProof.Rows L2 NdefX
section
variable {M : Md} {x qual : Str} {params : Arguments} {body : List Stmt} {scope : Scope} {f : Addr} {fd : FuncData} {N ps : List Str} {B : List Str} {k : Nat} {T : List (Addr × Str)}
end
section
variable {X : Cx} {N : List Str} {sc : Scope} {B : List Str} {k : Nat} {Γ : Ctx} {os : Os} {pos p : Pos} {e : Expr} {es : List Expr}
end
end Mi

namespace Mi
open PySem PySem.Spec PyProof.Rows L2
section
variable {X : Cx} {N : List Str} {sc : Scope} {B : List Str} {k : Nat} {Γ : Ctx} {os : Os} {pos apos cpos : Pos} {a b e : Expr} {t : Ty}
end
section
variable {X : Cx} {N : List Str} {sc : Scope} {B : List Str} {k : Nat} {Γ : Ctx} {os : Os} {pos p : Pos} {e : Expr} {es : List Expr} {C : Addr} {fs : Flds}
end
section
open PySem.W
variable {prog : Program} {w : World} {A : Around} {E : Value → Shared → Prop} {s : Shared} {K : Frag} {x C f : Addr} {ox : Obj} {od : Option Obj}
end
section
variable {X : Cx} {C f : Addr} {fd : FuncData} {ps : List Str} {sp : Sp} {k : Nat}
end
section
variable {X : Cx} {N : List Str} {sc : Scope} {B : List Str} {k : Nat} {Γ : Ctx} {os : Os} {pos p : Pos} {e : Expr} {C : Addr} {fs : Flds}
end
section
variable {X : Cx} {N : List Str} {sc : Scope} {B : List Str} {k : Nat} {Γ : Ctx} {os : Os} {pos p : Pos} {e : Expr} {n1 n2 n3 : List Nat} {t1 t2 : Ty}
end
section
variable {X : Cx} {Γ : Ctx} {os : Os} {pos : Pos} {a b : Expr} {t u : Ty}
end
section
variable {X : Cx} {N : List Str} {sc : Scope} {B : List Str} {k : Nat} {Γ : Ctx} {os : Os} {pos p : Pos} {e : Expr} {ts : List Ty}
end
section
variable {X : Cx} {N : List Str} {sc : Scope} {B : List Str} {k : Nat} {Γ : Ctx} {os : Os} {pos : Pos} {a b c d : Expr}
end
end Mi

namespace Mi
open PySem PySem.Spec PyProof.Rows L2
section
variable {X : Cx} {N : List Str} {sc : Scope} {B : List Str} {k : Nat} {Γ : Ctx} {os : Os} {pos : Pos} {a b : Expr}
end
end Mi

namespace Mi
open PySem PySem.Spec PyProof.Rows L2
section
variable {X : Cx} {N : List Str} {sc : Scope} {B : List Str} {k : Nat} {Γ : Ctx} {os os' : Os} {pos p p1 p2 p3 : Pos} {e a b : Expr} {t u : Ty}
end
end Mi

namespace Mi
open PySem PySem.Spec PyProof.Rows L2
section
variable {M : Md} {x qual : Str} {params : Arguments} {body : List Stmt} {scope : Scope} {f : Addr} {fd : FuncData} {N ps : List Str} {B : List Str} {k : Nat}
end
section
variable {X : Cx} {N : List Str} {sc : Scope} {B : List Str} {k : Nat} {Γ : Ctx} {os : Os} {pos p : Pos} {e : Expr} {es : List Expr}
end
structure PickT (P : Program) (w : World) (K : PySem.W.Frag) (a : Addr) (ns : List Int) (cs : List (Addr × Addr)) (h : Heap) (H : Hp) : Prop where
  tbl : ∀ p ∈ cs, H p.2 = some (.tbl #[])
  seq : SqL K H a (ns.map V.int)
  ok : HOk P w H h
  most : ∀ b, H b ≠ none → (b = a ∧ K.lookup a = none ∧ b ∉ cs.map (·.2) ∧ ∃ ob xs, H b = some (.frz ob (.lst xs))) ∨ b ∈ cs.map (·.2)
end Mi

namespace Mi
open PySem PySem.Spec PyProof.Rows L2
section
variable {X : Cx} {N : List Str} {sc : Scope} {B : List Str} {k : Nat} {Γ : Ctx} {os os' : Os} {pos p p1 p2 p3 apos : Pos} {e a b : Expr} {es : List Expr} {t u : Ty} {C : Addr} {fs : Flds}
variable {G : FX} {L : LC} {β : Type} {Γn : β → Ctx} {osn : Os} {rest : List Stmt}
end
end Mi

namespace Mi
open PySem PySem.Spec PyProof.Rows L2
section
variable {X : Cx} {N : List Str} {sc : Scope} {B : List Str} {k : Nat} {Γ : Ctx} {os os' : Os} {pos p p1 p2 p3 apos : Pos} {e a b : Expr} {es : List Expr} {t u : Ty} {C : Addr} {fs : Flds}
variable {G : FX} {L : LC} {β : Type} {Γn : β → Ctx} {osn : Os} {rest : List Stmt}
end
end Mi

namespace Mi
open PySem PySem.Spec PyProof.Rows L2
section
variable {X : Cx} {N : List Str} {sc : Scope} {B : List Str} {k : Nat} {Γ : Ctx} {os os' : Os} {pos p p1 p2 p3 p4 pt apos : Pos} {e a b o : Expr} {es : List Expr} {t u t1 t2 : Ty} {C : Addr} {fs : Flds} {to : TE}
variable {G : FX} {L : LC} {β : Type} {Γn : β → Ctx} {osn : Os} {rest : List Stmt}
end
end Mi

namespace Mi
open PySem PySem.Spec PyProof.Rows L2
section
variable {X : Cx} {N : List Str} {sc : Scope} {B : List Str} {k : Nat} {Γ : Ctx} {os os' : Os} {pos p p1 p2 p3 apos cpos : Pos} {e a b c : Expr} {es : List Expr} {t u : Ty}
structure Srt (dat : u.A → PyData) : Prop where
  al : ∀ x y, PySem.W.alike (dat x) (dat y) = true
  no : ∀ x, dat x ≠ .none ∧ ∀ xs, dat x ≠ .tuple xs
  dp : ∀ x, (dat x).depth ≤ 60
end
end Mi

namespace Mi
open PySem PySem.Spec PyProof.Rows L2
section
variable {X : Cx} {N : List Str} {sc : Scope} {B : List Str} {k : Nat} {Γ : Ctx} {os os' : Os} {pos p p1 p2 p3 apos cpos : Pos} {e a b c : Expr} {es : List Expr} {t u : Ty}
abbrev tPD : Ty := imTy PyData DV fun h s => DV.up s.n h
theorem im_pd : Imm tPD := fun a => a.1
theorem sh_pd : Sh tPD (fun x => x) := fun {x v F} r => r.2
def Nar (t u : Ty) (f : t.A → Option u.A) : Prop := ∀ {x y v F m}, f x = some y → t.rep x v F m → u.rep y v F m
theorem re_nar {f : t.A → Option u.A} {m : SM (OT os) t.A} (hc : Nar t u f) (h : RE X Γ os e t m) : RE X Γ os e u (SM.bind m fun x => SM.lift (f x)) := fun σ F M R H o W Q tk c w g q =>
  h σ F M R H o W Q tk c w g (q.bind.imp (fun x o1 z v F' M1 mm M' H' s a b c d => by
    unfold SM.lift at z
    cases ef : f x with
    | none => rw [ef] at z; exact z.elim
    | some y =>
      rw [ef] at z
      exact (show NormE os u σ F R Q y o1 from z) v F' M1 mm M' H' s a b c (hc ef d)) fun _ _ z => z)
def pdStr : PyData → Option (List Nat)
  | .str s => some s.cps.toList
  | _ => none
theorem sOf_cps (s : Str) : sOf s.cps.toList = s := by cases s; rfl
theorem nar_str : Nar tPD tStr pdStr := fun {x y v F m} h r => by
  obtain ⟨e, r⟩ := r
  refine ⟨e, ?_⟩
  cases x with
  | str s => cases h; unfold DV at r; show v = V.str (sOf s.cps.toList); rw [sOf_cps]; exact r
  | _ => cases h
def pdTy : PyData → String
  | .none => "NoneType" | .bool _ => "bool" | .int _ => "int" | .str _ => "str" | .list _ => "list" | .tuple _ => "tuple" | .dict _ => "dict"
def pdS : PyData → Bool
  | .str _ => true
  | _ => false
theorem kit_pdS : ∀ x, kitB (pdTy x) "str" = some (pdS x) := by
  intro x
  obtain ⟨k1, k2, k3, k4, k5, k6, k7⟩ := kit_str
  cases x with
  | none => exact k4
  | bool b => exact k3
  | int i => exact k2
  | str s => exact k1
  | list xs => exact k5
  | tuple xs => exact k6
  | dict xs => exact k7
theorem pd_ty {K : PySem.W.Frag} {x : PyData} {v : V} {F M H : Hp} (r : DV x v F) (g : Good F M H) : TyX K H v (.type (pdTy x)) := by
  cases x with
  | none => unfold DV at r; subst r; exact .base .non
  | bool b => unfold DV at r; subst r; exact .base (.bl b)
  | int i => unfold DV at r; subst r; exact .base (.int i)
  | str s => unfold DV at r; subst r; exact .base (.str _)
  | list xs => unfold DV at r; obtain ⟨a, vs, e, q, _⟩ := r; subst e; exact .base (.lst (g.f _ _ q))
  | tuple xs => unfold DV at r; obtain ⟨a, vs, e, q, _⟩ := r; subst e; exact .base (.tup (g.f _ _ q))
  | dict ks =>
    unfold DV at r
    obtain ⟨a, kw, e, q, _⟩ := r
    subst e
    rcases q with q | ⟨o, q⟩
    · exact .base (.dK (g.f _ _ q))
    · exact .fDict (g.f _ _ q)
theorem re_isiP (xo : XOk X N sc B k) (ga ma g2 m2 : Nat) {nm : Str} {T : String} {r : PyData → Bool} (hk : ∀ x, kitB (pdTy x) T = some (r x)) (hbt : bootBuiltins nm = some (.type T)) (hn : nm ≠ "__name__") (hd : (nm == ("__debug__" : Str)) = false) {m : SM (OT os) PyData} (h : RE X Γ os e tPD m) (hg : sc.names[ga]? = some (gI "isinstance") := by rfl) (hm : B[ma]? = some "isinstance" := by rfl) (hg2 : sc.names[g2]? = some (gI nm) := by rfl) (hm2 : B[m2]? = some nm := by rfl)
    (he : starEach [e, .Name nm p2] X.env = (false, eval e X.env) :: starEach [.Name nm p2] X.env := by rfl) (he2 : starEach [.Name nm p2] X.env = (false, eval (.Name nm p2) X.env) :: starEach [] X.env := by rfl) (hpl : (backTo pos (starEach [.Name nm p2] X.env)).any (·.1) = false := by rfl) :
    RE X Γ os (.Call (.Name "isinstance" p) [e, .Name nm p2] [] pos) tBool (SM.bind m fun x => SM.ret (r x)) := by
  intro σ F M R H o W Q tk c w g q
  refine ⟨_, pe_callB call_isi (xo.gl ga _ hg) (xo.fr ma _ hm) boot_isi (pa_cons (pe_best X e) (pa_cons (pe_bltn (v := .ty T) (xo.gl g2 _ hg2) (xo.fr m2 _ hm2) hbt rfl hn hd) pa_nil he2) he) (by decide) (by decide) he hpl, ?_⟩
  refine one_end (ta := tPD) im_pd h tk c w g q fun x o2 v F2 M2 H2 h2 s2 w2 g2 r2 => ?_
  exact ⟨v, .ty T, .type (pdTy x), .type T, r x, rfl, .ty T, pd_ty r2.2 g2, kit_ty (hk x), end_flat (g := V.bl) (show NormE os tBool σ F R Q (r x) o2 from h2) s2 w2 g2⟩
end
end Mi

namespace Mi
open PySem PySem.Spec PyProof.Rows L2
section
variable {prog : Program} {w : World} {A : Around} {E : Value → Shared → Prop} {s : Shared}
end
section
variable {X : Cx} {N : List Str} {sc : Scope} {B : List Str} {k : Nat} {Γ : Ctx} {os os' : Os} {pos p p1 p2 p3 apos cpos : Pos} {e a b c : Expr} {es : List Expr} {t u : Ty}
end
section
variable {X : Cx} {C f : Addr} {fd : FuncData} {ps : List Str} {sp : Sp} {k : Nat}
end
section
variable {X : Cx} {N : List Str} {sc : Scope} {B : List Str} {k : Nat} {Γ : Ctx} {os : Os} {pos p : Pos} {e : Expr} {C : Addr} {fs : Flds}
end
section
variable {X : Cx} {Γ : Ctx} {os : Os} {pos p apos : Pos} {e ob : Expr}
end
section
variable {X : Cx} {Γ : Ctx} {os : Os} {pos : Pos} {a b c : Expr}
end
end Mi

namespace Mi
open PySem PySem.Spec PyProof.Rows L2
section
open PySem.SeqAt AutoSeq1
variable {A : Around} {s : Shared}
end
section
open PySem.SeqAt
variable {X : Cx}
end
section
variable {X : Cx} {N : List Str} {sc : Scope} {B : List Str} {k : Nat} {Γ : Ctx} {os : Os} {pos : Pos} {a b : Expr} {t u : Ty}
end
end Mi

namespace Mi
open PySem PySem.Spec PyProof.Rows L2
structure OeB (K : PySem.W.Frag) (C : Addr) (Bs newId initId : String) (bmB : List Value) : Prop where
  F : PySem.ExcBaseFacts Bs newId initId bmB
  ob : bmB.contains (.type "object") = true
  cls : ∃ nm q N bs bm sn sub ab col dd k0 k1 k2 k3 k5, K.lookup C = some (excClassObj nm q C N bs bm true sn sub ab col dd k0 k1 k2 k3 k5 newId) ∧ (∀ Y : String, bm.contains (.type Y) = bmB.contains (.type Y)) ∧ ∀ self, refuseLoop self "__setattr__" bm = pure ()
  sa : PySem.W.findIn K (.ref C) "__setattr__" = some (some (.builtin "object.__setattr__"))
  exC : PySem.W.subIn K (.ref C) (.type "BaseException") = some true
  tyC : PySem.W.typeIn K (.ref C) = some (.type "type")
  kC : PySem.W.keepIn K (.ref C) = true
section
open PySem.W PySem.Calls PySem.HandSPX Builtin Builtin.ObjectAttr
variable {prog : Program} {w : World} {A : Around} {R : Result → Shared → Prop} {hp : Heap} {g : Array GenState} {d : Drawn} {t : Nat} {os : OsState}
theorem isin_ob {K : Frag} {x C : Addr} {ox : Obj} {od : Option Obj} {cd : ClassData} (X : K.In hp) (I : InstAt hp x ox C od) (hcd : clsIn K C = some cd) (ne : cd.mro.isEmpty = false) (hob : cd.mro.contains (.type "object") = true) :
    Looks (model prog w) hp (isInstance (.ref x) (.type "object")) true := I.type.andThen (looks_mroIn X (by unfold mroIn; rw [hcd, Option.bind_some, if_neg (by rw [ne]; decide), hob]))
theorem osa_newB {K : Frag} {name : Str} {tk : Tok} {v : Value} {x C : Addr} {fv : Array Value} {cd : ClassData} (X : K.In hp) (hx : hp.get? x = some { cls := .ref C, data := .fields fv }) (hcd : clsIn K C = some cd)
    (ne : cd.mro.isEmpty = false) (hob : cd.mro.contains (.type "object") = true) (hpass : ∀ self, refuseLoop self "__setattr__" cd.mro = pure ()) (hh : cd.hasDict = true) (ha : findIn K (.ref C) name = some none)
    (hq : ∀ h' tk' dx, (∀ b o, b ≠ x → hp.get? b = some o → h'.get? b = some o) → hp.objs.size ≤ dx → dx ≠ x → h'.get? x = some { cls := .ref C, dict := some dx, data := .fields fv } →
      h'.Ns1 dx (fun y => if y = name then some v else none) → R (.ok (.ret .none)) ⟨h', g, d, tk', os⟩) :
    codeAny (model prog w) A (.call (.builtin "object.__setattr__") ⟨[.ref x, .str name tk, v], []⟩) R ⟨hp, g, d, t, os⟩ := by
  have I : InstAt hp x { cls := .ref C, data := .fields fv } C none := ⟨hx, rfl, rfl, trivial⟩
  have SF := PySem.F.store_object
  have hxs : x ≠ hp.objs.size := Nat.ne_of_lt (Heap.lt_size hx)
  refine codeAny_call_builtin SF.slot.plain SF.entry (@check_slot (model prog w) _ _ ⟨hp, g, d, t, os⟩ "object.__setattr__" "object" "__setattr__" (.ref x) [.str name tk, v] [] _ SF.kind SF.split (isin_ob X I hcd ne hob) (SF.args (.ref x) (.str name tk) v) ?_)
  have hmr : Looks (model prog w) hp (mroOf (.ref C)) cd.mro := (looks_clsIn X hcd).andThen .now
  have hcls : Looks (model prog w) hp (classData C) cd := looks_clsIn X hcd
  rw [osa_eq, refuse_eq]
  refine wpAny_bind (wpAny_bind (I.type.at (wpAny_bind (hmr.at ?_))))
  rw [hpass]
  refine wpAny_pure (wpAny_bind (I.type.at (wpAny_bind ((looks_findIn X ha).at (wpAny_bind ((Looks.now : Looks (model prog w) hp (storeTaker? none) none).at ?_))))))
  show wpAny _ _ (storeInOwnDict (.ref x) (.ref C) (.str name tk) name v false) _ _ _
  obtain ⟨nm, bs, mro, ns, qn, hd, sn, sb, ab, col, del⟩ := cd
  dsimp only at hh
  subst hh
  unfold storeInOwnDict ownDictForStores
  repeat (first | with_reducible refine store_in_new ?_ ?_ | with_reducible refine wpAny_loadPart_at hx ?_ | with_reducible refine hcls.at ?_ | wp_step)
  · exact ⟨_, #[], _, (Heap.get?_update_ne _ _ _ _ hxs.symm).trans (Heap.get?_push_at rfl rfl), rfl, fun e he => absurd he (by simp), fun _ => rfl⟩
  · intro h' tk' hn' hs
    have hx₁ : (hp.push { cls := .type "dict", data := .dict #[] }).get? x = some { cls := .ref C, data := .fields fv } := Heap.get?_push_of_some _ hx
    refine hq h' tk' hp.objs.size (fun b o hb ho => ?_) (Nat.le_refl _) hxs.symm ?_ hn'
    · exact (hs.2 b (Nat.ne_of_lt (Heap.lt_size ho))).trans ((Heap.get?_update_ne _ _ _ _ hb).trans (Heap.get?_push_of_some _ ho))
    · exact (hs.2 x hxs).trans (Heap.get?_update_self _ hx₁ rfl)
theorem osa_oldB {K : Frag} {name : Str} {tk : Tok} {v : Value} {x C dx : Addr} {fv : Array Value} {cd : ClassData} {m0 : Str → Option Value} {nl : List Str} (X : K.In hp) (hx : hp.get? x = some { cls := .ref C, dict := some dx, data := .fields fv }) (hns : hp.Ns1 dx m0) (hw : Within m0 nl) (hz : nl.length ≤ 1000) (hcd : clsIn K C = some cd)
    (ne : cd.mro.isEmpty = false) (hob : cd.mro.contains (.type "object") = true) (hpass : ∀ self, refuseLoop self "__setattr__" cd.mro = pure ()) (hh : cd.hasDict = true) (ha : findIn K (.ref C) name = some none)
    (hq : ∀ h' tk', (∀ b o, b ≠ dx → hp.get? b = some o → h'.get? b = some o) → h'.Ns1 dx (fun y => if y = name then some v else m0 y) → R (.ok (.ret .none)) ⟨h', g, d, tk', os⟩) :
    codeAny (model prog w) A (.call (.builtin "object.__setattr__") ⟨[.ref x, .str name tk, v], []⟩) R ⟨hp, g, d, t, os⟩ := by
  obtain ⟨oD, esD, epD, hoD, hdD, _⟩ := hns.count hw
  have I : InstAt hp x { cls := .ref C, dict := some dx, data := .fields fv } C (some oD) := ⟨hx, rfl, rfl, hoD⟩
  have SF := PySem.F.store_object
  refine codeAny_call_builtin SF.slot.plain SF.entry (@check_slot (model prog w) _ _ ⟨hp, g, d, t, os⟩ "object.__setattr__" "object" "__setattr__" (.ref x) [.str name tk, v] [] _ SF.kind SF.split (isin_ob X I hcd ne hob) (SF.args (.ref x) (.str name tk) v) ?_)
  have hmr : Looks (model prog w) hp (mroOf (.ref C)) cd.mro := (looks_clsIn X hcd).andThen .now
  have hcls : Looks (model prog w) hp (classData C) cd := looks_clsIn X hcd
  rw [osa_eq, refuse_eq]
  refine wpAny_bind (wpAny_bind (I.type.at (wpAny_bind (hmr.at ?_))))
  rw [hpass]
  refine wpAny_pure (wpAny_bind (I.type.at (wpAny_bind ((looks_findIn X ha).at (wpAny_bind ((Looks.now : Looks (model prog w) hp (storeTaker? none) none).at ?_))))))
  show wpAny _ _ (storeInOwnDict (.ref x) (.ref C) (.str name tk) name v false) _ _ _
  obtain ⟨nm, bs, mro, ns, qn, hd, sn, sb, ab, col, del⟩ := cd
  dsimp only at hh
  subst hh
  unfold storeInOwnDict ownDictForStores
  repeat (first | with_reducible refine PySem.OEX.store_in_old hns hw hz ?_ | with_reducible refine wpAny_loadPart_at hx ?_ | with_reducible refine hcls.at ?_ | wp_step)
  intro h' tk' hn' hs
  exact hq h' tk' (fun b o hb ho => (hs.2 b hb).trans ho) hn'
end
section
open PySem.HandSPX
variable {X : Cx} {pins : List (Addr × Obj)} {σ : L2.St} {H : Hp} {s : Shared} {a C dx : Addr} {f : Str} {y : V} {u : Value} {fs : List (Str × V)} {E : Value → Shared → Prop} {A : Around} {Bs newId initId : String} {bmB : List Value}
theorem a_ne (e : H a = some (exo a C none)) {b : Addr} (n : H b = none) : b ≠ a := fun z => by rw [z, e] at n; cases n
theorem ost_newB {Q : Unit → Shared → Prop} (T : OeB X.K C Bs newId initId bmB) (I : Inv X pins σ H s) (e : H a = some (exo a C none)) (hno : PySem.W.findIn X.K (.ref C) f = some none) (ry : RelV y u)
    (h : ∀ dx s', H dx = none → dx ≠ a → Inv X pins σ (upd (upd H dx (exd dx [(f, y)])) a (exo a C (some dx))) s' → Q () s') : wpAny (model X.prog X.w) A (setAttr (.ref a) f u) Q E s := by
  obtain ⟨nm, q, N, bs, bm, sn, sub, ab, col, dd, k0, k1, k2, k3, k5, hC, hct, hps⟩ := T.cls
  have hcl : PySem.W.clsIn X.K C = some { name := nm, bases := bs, mro := .ref C :: bm, ns := N, qualname := q, hasDict := true, slotNames := sn, subclasses := sub, abstract := ab, collection := col, hasDel := false } := by unfold PySem.W.clsIn; rw [hC] <;> rfl
  obtain ⟨t1, ho⟩ := exo_at I.hok e
  obtain ⟨hp, g, d, t, os⟩ := s
  refine PySem.W.set_plain I.kIn (ox := { cls := .ref C, dict := none, data := .fields #[.ref t1, .none, .none, .none, .bool false, .none] }) (od := none) ⟨ho, rfl, rfl, trivial⟩ T.sa ?_
  refine osa_newB I.kIn ho hcl rfl (by show (Value.ref C :: bm).contains (.type "object") = true; rw [List.contains_cons, hct "object", T.ob, Bool.or_true]) (fun self => by show refuseLoop self "__setattr__" (.ref C :: bm) = _; rw [refuseLoop_ref]; exact hps self) rfl hno (fun h' tk' dx k dn dne hx hn => ?_)
  have hnd : H dx = none := I.hok.fresh dn
  have nd : ∀ {b : Addr} {o : Obj}, hp.get? b = some o → b ≠ dx := fun {b o} q => Nat.ne_of_lt (Nat.lt_of_lt_of_le (Heap.lt_size q) dn)
  have Un1 : Un X.fs [] H (upd (upd H dx (exd dx [(f, y)])) a (exo a C (some dx))) hp h' := {
    keep := fun b o q n _ _ => k b o (a_ne e n) q
    slot := fun b o q n _ _ => ⟨o.slots, k b o (a_ne e n) q⟩
    free := fun b o q n _ => by rw [upd_ne (a_ne e n), upd_ne (nd q)]; exact n
    there := fun b o q _ => by
      by_cases hb : b = a
      · subst hb; exact ⟨_, hx⟩
      · exact ⟨o, k b o hb q⟩
    tups := fun b xs q => by rw [upd_ne (at_ne e q exo_tup), upd_ne (ne_of_none q hnd)]; exact q
    frzs := fun b o v q => by rw [upd_ne (at_ne e q exo_frz), upd_ne (ne_of_none q hnd)]; exact q
    tbls := fun b ps q => ⟨#[], by rw [upd_ne (at_ne e q exo_tbl), upd_ne (ne_of_none q hnd), q]; simp⟩ }
  refine h dx _ hnd dne (I.un (t' := tk') Un1 fun b o q => ?_)
  by_cases hb : b = a
  · subst hb
    rw [upd_same] at q
    cases q
    exact exo_ok hx
  · rw [upd_ne hb] at q
    by_cases hd : b = dx
    · subst hd
      rw [upd_same] at q
      cases q
      exact exd_ok hn (relO_put (fs := []) ry fun g => True.intro)
    · rw [upd_ne hd] at q
      exact (I.hok b o q).stay (fun c v hc z => k c v (hc.elim (fun hc => by rw [hc]; exact hb) fun hc => at_ne e hc exo_own) z)
        (fun c hc => by rw [upd_ne (at_ne e hc exo_own), upd_ne (ne_of_none hc hnd)]; exact hc) (fun c xs hc => by rw [upd_ne (at_ne e hc exo_tup), upd_ne (ne_of_none hc hnd)]; exact hc)
theorem ost_oldB {Q : Unit → Shared → Prop} (T : OeB X.K C Bs newId initId bmB) (I : Inv X pins σ H s) (e : H a = some (exo a C (some dx))) (ed : H dx = some (exd dx fs)) (hl : fs.length ≤ 900) (hno : PySem.W.findIn X.K (.ref C) f = some none) (ry : RelV y u)
    (h : ∀ s', Inv X pins σ (upd H dx (exd dx ((f, y) :: fs))) s' → Q () s') : wpAny (model X.prog X.w) A (setAttr (.ref a) f u) Q E s := by
  obtain ⟨nm, q, N, bs, bm, sn, sub, ab, col, dd, k0, k1, k2, k3, k5, hC, hct, hps⟩ := T.cls
  have hcl : PySem.W.clsIn X.K C = some { name := nm, bases := bs, mro := .ref C :: bm, ns := N, qualname := q, hasDict := true, slotNames := sn, subclasses := sub, abstract := ab, collection := col, hasDel := false } := by unfold PySem.W.clsIn; rw [hC] <;> rfl
  obtain ⟨t1, ho⟩ := exo_at I.hok e
  obtain ⟨mA, hns, rel⟩ := exd_at I.hok ed
  have hw := within_of rel
  obtain ⟨hp, g, d, t, os⟩ := s
  obtain ⟨oD, _, _, hoD, _, _⟩ := hns.count hw
  refine PySem.W.set_plain I.kIn (ox := { cls := .ref C, dict := some dx, data := .fields #[.ref t1, .none, .none, .none, .bool false, .none] }) (od := some oD) ⟨ho, rfl, rfl, hoD⟩ T.sa ?_
  refine osa_oldB I.kIn ho hns hw (by rw [List.length_map]; omega) hcl rfl (by show (Value.ref C :: bm).contains (.type "object") = true; rw [List.contains_cons, hct "object", T.ob, Bool.or_true]) (fun self => by show refuseLoop self "__setattr__" (.ref C :: bm) = _; rw [refuseLoop_ref]; exact hps self) rfl hno (fun h' tk' k hn => ?_)
  have hd : ∃ o, h'.get? dx = some o := let ⟨o, _, _, e', _⟩ := hn; ⟨o, e'⟩
  exact h _ (I.write (t' := tk') (x := dx) (e := dx) (o := exd dx ((f, y) :: fs)) (by rw [ed]; exact True.intro) (.inl rfl) k hd (exd_ok hn (relO_put ry rel)))
theorem oinit_B {us : List Value} {Q : Value → Shared → Prop} (T : OeB X.K C Bs newId initId bmB) (I : Inv X pins σ H s) (e : H a = some (exo a C none)) (hl : us.length ≤ sizeLine) (h : ∀ s', Inv X pins σ H s' → Q .none s') :
    wpAny (model X.prog X.w) A (call (.builtin initId) (.ref a :: us)) Q E s := by
  obtain ⟨nm, q, N, bs, bm, sn, sub, ab, col, dd, k0, k1, k2, k3, k5, hC, hct, hps⟩ := T.cls
  obtain ⟨t1, ho⟩ := exo_at I.hok e
  obtain ⟨hp, g, d, t, os⟩ := s
  refine wpAny_call (init_base T.F hct (I.kIn _ _ hC) ho hl fun h' t2 k hx => ?_)
  have J := I.write (t' := t) (x := a) (e := a) (o := exo a C none) (by rw [e]; exact True.intro) (.inl rfl) k ⟨_, hx⟩ (exo_ok hx)
  have eu : upd H a (exo a C none) = H := by
    funext b
    by_cases hb : b = a
    · rw [hb, upd_same, e]
    · rw [upd_ne hb]
  rw [eu] at J
  exact h _ J
end
end Mi

namespace Mi
open PySem PySem.Spec PyProof.Rows L2
section
open PySem.HandSPX
variable {X : Cx} {o e : Expr} {es : List Expr} {to te : TE} {ta : TA} {f : Str} {p p' p1 p2 pos : Pos} {Bs newId initId : String} {bmB : List Value}
def tBI (K : PySem.W.Frag) (Bs newId initId : String) (bmB : List Value) (ta : TA) : TE := fun σ H Q => ta σ H fun vs H1 => ∃ (a C : Addr) (ws : List V), vs = .ref a :: ws ∧ ws.length ≤ 1000 ∧ OeB K C Bs newId initId bmB ∧ H1 a = some (exo a C none) ∧ Q .non H1
theorem pe_binit {pl : Sem Bool} {nm : Str} {D : Addr} {mc : Value} (hg : Gl X nm) (hm : X.mg nm = some (.ref D)) (r : ClX.CRead X.K D mc) (hat : PySem.W.findCls X.K (.ref D) mc "__init__" = some (.val (.builtin initId))) (hh : PySem.W.handedIn (.builtin initId) = true) (ha : PA X (e :: es) ta) (hdb : (nm == ("__debug__" : Str)) = false := by decide)
    (hc : eval (.Call (.Attribute (.Name nm p1) "__init__" p2) (e :: es) [] pos) X.env = (do
      let ov ← eval (.Name nm p1) X.env
      standAt p2.atName
      let (f, first) ← holding [ov] (getMethod ov "__init__" pl)
      callWith pos f first (backTo pos (starEach (e :: es) X.env)) (backToKw pos (keywordEach [] X.env))) := by rfl)
    (he : starEach (e :: es) X.env = (false, eval e X.env) :: starEach es X.env := by rfl) (hpl : (backTo pos (starEach es X.env)).any (·.1) = false := by rfl) :
    PE X (.Call (.Attribute (.Name nm p1) "__init__" p2) (e :: es) [] pos) (tBI X.K Bs newId initId bmB ta) := by
  refine ⟨fun pins s σ H Q I h => ?_⟩
  refine PySem.W.methodCall_KW (ld_glob I hg hm ?_ hdb) hc
  refine PySem.W.method_cls I.kIn r.ga (PySem.W.cls_value I.kIn r.rd hat hh ?_)
  show wpAny _ _ (callWith pos (Value.builtin initId) [] (backTo pos (starEach (e :: es) X.env)) []) _ _ _
  refine PyProof.Rows.callWith_method1 (thn (ha.run pos pins _ σ H _ (I.tok _) h) fun us s1 ⟨vs, H1, I1, r1, a, C, ws, ev, hl, T, ea, q⟩ => ?_) he hpl
  subst ev
  cases r1 with
  | @cons _ u0 _ ur ra rw' =>
    obtain rfl : u0 = Value.ref a := ra
    have hlen : ur.length ≤ sizeLine := by
      rw [← Paired.length rw', sizeLine_eq]
      omega
    exact oinit_B T I1 ea hlen fun s' J => ⟨.non, H1, J, rfl, q⟩
def tOsB (K : PySem.W.Frag) (Bs newId initId : String) (bmB : List Value) (f : Str) (to te : TE) : TS := fun D σ H => te σ H fun y H1 => to σ H1 fun x H2 => ∃ a C : Addr, x = .ref a ∧ OeB K C Bs newId initId bmB ∧ PySem.W.findIn K (.ref C) f = some none ∧
  ((H2 a = some (exo a C none) ∧ ∀ dx, H2 dx = none → dx ≠ a → D.nx σ (upd (upd H2 dx (exd dx [(f, y)])) a (exo a C (some dx)))) ∨
    ∃ (dx : Addr) (fs : List (Str × V)), H2 a = some (exo a C (some dx)) ∧ H2 dx = some (exd dx fs) ∧ fs.length ≤ 900 ∧ D.nx σ (upd H2 dx (exd dx ((f, y) :: fs))))
theorem ps_osB (ho : PE X o to) (he : PE X e te) (hs : swapsWith e (some (.Attribute o f p')) pos.line X.env = pure false := by rfl) : PS X (.Assign [.Attribute o f p'] e pos) (tOsB X.K Bs newId initId bmB f to te) := by
  refine ⟨fun pins s σ H D I h => ?_⟩
  refine plainObj_wpAny_Assign_Attribute (thn (he.run pins s σ H _ I h) fun v s1 ⟨y, H1, I1, r1, q1⟩ => thn (ho.run pins s1 σ H1 _ I1 q1) fun u s2 ⟨x, H2, I2, r2, a, C, ex, T, hno, q⟩ => ?_) hs
  subst ex
  obtain rfl : u = Value.ref a := r2
  rcases q with ⟨ea, q⟩ | ⟨dx, fs, ea, ed, hl, q⟩
  · exact ost_newB T I2 ea hno r1 fun dx s' n ne J => ⟨σ, _, J, q dx n ne⟩
  · exact ost_oldB T I2 ea ed hl hno r1 fun s' J => ⟨σ, _, J, q⟩
theorem pmk_B {CX : CXT} {x : Str} {C fI : Addr} {k : Nat} {fd : FuncData} {ps : List Str} {sp : Sp} {ds : List Value} {dvs : List V} (T : OeB X.K C Bs newId initId bmB) (iC : PySem.W.findIn X.K (.ref C) "__init__" = some (some (.ref fI))) (tI : PySem.W.typeIn X.K (.ref fI) = some (.type "function"))
    (F1 : FnOk X.prog X.w X.K X.mg X.base CX k fI fd ps sp) (hr : Room (k + 1) X.A) (hb : Binds X.K fd ps ds) (hd : Vals dvs ds) (hx : Passes CX X (fun _ _ _ => False)) (hg : Gl X x) (hm : X.mg x = some (.ref C)) (ha : PA X (e :: es) ta)
    (hdb : (x == ("__debug__" : Str)) = false := by decide) (he : starEach (e :: es) X.env = (false, eval e X.env) :: starEach es X.env := by rfl) (hpl : (backTo pos (starEach es X.env)).any (·.1) = false := by rfl) :
    PMk X (.Call (.Name x p) (e :: es) [] pos) (tMkO C sp dvs ta) := by
  intro pins s σ H Q I h
  obtain ⟨nm, q, N, bs, bm, sn, sub, ab, col, dd, k0, k1, k2, k3, k5, hC, hct, hps⟩ := T.cls
  refine wpAny_Call_Name_kw (ld_glob I hg hm ?_ hdb)
  refine PySem.W.callWith_K (h₀ := X.base) I.ok.mod.kin T.kC (thn (ha.run pos pins s σ H _ I h) fun us s1 ⟨vs, H1, I1, r1, hz, q1⟩ => ⟨I1.kIn, ?_⟩) he hpl
  show wpAny _ _ (call (.ref C) us) _ _ _
  obtain ⟨hp, g, dr, tk, os⟩ := s1
  have hsz : hp.objs.size ≤ hp.objs.size + 1 := Nat.le_succ _
  have hn : H1 (hp.objs.size + 1) = none := I1.hok.fresh hsz
  have hq := q1 (hp.objs.size + 1) hn
  have kk : ∀ b o, hp.get? b = some o → ((hp.push (PySem.W.kdv_tup us)).push (excO C hp.objs.size)).get? b = some o := fun b o e => Heap.get?_push_of_some _ (Heap.get?_push_of_some _ e)
  have hget : ((hp.push (PySem.W.kdv_tup us)).push (excO C hp.objs.size)).get? (hp.objs.size + 1) = some (excO C hp.objs.size) := by heap_get
  have I2 : Inv X pins σ (upd H1 (hp.objs.size + 1) (exo (hp.objs.size + 1) C none)) ⟨(hp.push (PySem.W.kdv_tup us)).push (excO C hp.objs.size), g, dr, tk, os⟩ :=
    I1.laid (t' := tk) (a := hp.objs.size + 1) (o := exo (hp.objs.size + 1) C none) (h' := (hp.push (PySem.W.kdv_tup us)).push (excO C hp.objs.size)) kk hsz (exo_ok hget)
  have r2 : Vals (V.ref (hp.objs.size + 1) :: (vs ++ dvs)) (Value.ref (hp.objs.size + 1) :: (us ++ ds)) := .cons rfl (r1.append hd)
  have hl : (Value.ref (hp.objs.size + 1) :: us ++ ds).length = ps.length := by
    have e := r2.length
    rw [F1.len _ _ _ _ hq] at e
    exact e.symm
  have hus : us.length ≤ sizeLine := by
    rw [← Paired.length r1, sizeLine_eq]
    omega
  refine wpAny_call (call_own T.F hct (I1.kIn _ _ hC) (PySem.W.looks_findIn I1.kIn iC) (fun self => PySem.W.bind_fn I1.kIn self tI) hus
    (codeAny_mono (F1.run _ X.stack _ _ ⟨Value.ref (hp.objs.size + 1) :: us, []⟩ (Value.ref (hp.objs.size + 1) :: (us ++ ds)) _ _ (fun _ _ _ => False) (hr.make C us []) (I2.env0.make C us []) (hb _ (Value.ref (hp.objs.size + 1) :: us) I2.kIn hl) r2 hq) fun r s' hq' => ?_))
  cases r with
  | error er => exact hx pins σ _ _ er s' I2 hq'
  | ok fl =>
    cases fl with
    | ret u =>
      obtain ⟨v, H2, os2, bare2, un2, hok2, rv, ev, d, fs, ea, ed, hd1, q2⟩ := hq'
      subst ev
      obtain ⟨h2, g2, d2, t2, os'⟩ := s'
      exact ⟨rv, mk_end (raises_own T.exC T.tyC) I1 hsz kk un2 hok2 os2 bare2 ea ed hd1 q2⟩
    | next => exact False.elim hq'
    | brk => exact False.elim hq'
    | cont => exact False.elim hq'
end
end Mi

namespace Mi
open PySem PySem.Spec PyProof.Rows L2
def spE (C : Addr) (gs : List Str) : Sp := fun vs H Q _ => ∃ (a : Addr) (ws : List V), vs = .ref a :: ws ∧ ws.length = gs.length ∧ H a = some (exo a C none) ∧
  ∀ d, H d = none → d ≠ a → Q .non (upd (upd H d (exd d (gs.zip ws).reverse)) a (exo a C (some d)))
section
variable {M : Md} {qual : Str} {params : Arguments} {scope : Scope} {f : Addr} {fd : FuncData} {k : Nat} {Bs newId initId : String} {bmB : List Value} {C D : Addr} {mc : Value} {nm g1 g2 n1 n2 msg : Str} {j : Nat} {p1 p2 p3 p4 p5 p6 p7 p8 p9 p10 p11 p12 p13 p14 : Pos}
theorem fn_X1 {j0 j1 jg : Nat} (F : FunD M.K "__init__" qual params [.Expr (.Call (.Attribute (.Name nm p1) "__init__" p2) [.Name "self" p3, .Constant (.str msg) j p4] [] p5) p6, .Assign [.Attribute (.Name "self" p7) g1 p8] (.Name n1 p9) p10] scope [] [] f fd)
    (hsc : fnScB ["self", n1] ["self", n1] scope = true) {k0 k1 : NameKind} (h0 : scope.names[j0]? = some (("self" : Str), k0)) (h1 : scope.names[j1]? = some (n1, k1)) (v0 : visK k0 = true) (v1 : visK k1 = true) (hg : scope.names[jg]? = some (nm, .globalImplicit))
    (hm : M.mg nm = some (.ref D)) (r : ClX.CRead M.K D mc) (hat : PySem.W.findCls M.K (.ref D) mc "__init__" = some (.val (.builtin initId))) (hh : PySem.W.handedIn (.builtin initId) = true) (T : OeB M.K C Bs newId initId bmB)
    (no1 : PySem.W.findIn M.K (.ref C) g1 = some none) (hnd : (nm == ("__debug__" : Str)) = false) {pl : Env → Sem Bool}
    (hc : ∀ env : Env, eval (.Call (.Attribute (.Name nm p1) "__init__" p2) [.Name "self" p3, .Constant (.str msg) j p4] [] p5) env = (do
      let ov ← eval (.Name nm p1) env
      standAt p2.atName
      let (f, first) ← holding [ov] (getMethod ov "__init__" (pl env))
      callWith p5 f first (backTo p5 (starEach [.Name "self" p3, .Constant (.str msg) j p4] env)) (backToKw p5 (keywordEach [] env)))) :
    FnOk M.P M.w M.K M.mg M.base (L2.CX M.P M.w) (k + 1) f fd ["self", n1] (spE C [g1]) := by
  obtain ⟨S, hu, hd⟩ := fnScB_ok hsc
  refine F.ok S (fun vs H Q E h => ?_) fun cdv A outer s H vs Q E hr h => ?_
  · obtain ⟨a, ws, e, hl, _⟩ := h
    rw [e, List.length_cons, hl]; rfl
  · obtain ⟨a, ws, rfl, hl, ea, q⟩ := h
    match ws, hl, q with
    | [w1], _, q =>
      have xo := xo_body (M := M) (B := []) S hu hd (fun i x h => by cases h) hr (cdv := cdv) (outer := outer) (s := s) (H := H) (E := E) (f := f) (qual := qual) (A := A) (k := k)
      have pv0 : ∀ {pos : Pos}, PE _ (.Name "self" pos) (tVar 0) := fun {pos} => pe_var (by rw [xo.nN]; rfl) (xo.vs j0 _ _ h0 v0) (xo.db j0 _ _ h0).1 (xo.db j0 _ _ h0).2.1
      have pv1 : ∀ {pos : Pos}, PE _ (.Name n1 pos) (tVar 1) := fun {pos} => pe_var (by rw [xo.nN]; rfl) (xo.vs j1 _ _ h1 v1) (xo.db j1 _ _ h1).1 (xo.db j1 _ _ h1).2.1
      refine ⟨_, pss_cons (ps_expr (pe_binit (Bs := Bs) (newId := newId) (initId := initId) (bmB := bmB) (xo.gl jg _ hg) hm r hat hh (pa_cons pv0 (pa_cons pe_str pa_nil)) hnd (hc _))) (pss_one (ps_osB (Bs := Bs) (newId := newId) (initId := initId) (bmB := bmB) pv0 pv1)), ?_⟩
      refine ⟨.ref a, rfl, a, C, [.str msg], rfl, by simp, T, ea, ?_⟩
      exact ⟨w1, rfl, .ref a, rfl, a, C, rfl, T, no1, .inl ⟨ea, fun d hd0 dne => q d hd0 dne⟩⟩
end
end Mi

namespace Mi
open PySem PySem.Spec PyProof.Rows L2
def LkX (M : Md) (nm : Str) (C : Addr) (gs : List Str) (j : Nat) : Prop := ∃ (fI : Addr) (fd : FuncData) (ps : List Str) (Bs newId initId : String) (bmB : List Value), M.mg nm = some (.ref C) ∧ OeB M.K C Bs newId initId bmB ∧
  PySem.W.findIn M.K (.ref C) "__init__" = some (some (.ref fI)) ∧ PySem.W.typeIn M.K (.ref fI) = some (.type "function") ∧ FnOk M.P M.w M.K M.mg M.base (L2.CX M.P M.w) j fI fd ps (spE C gs) ∧ Binds M.K fd ps []
def FlX (ts : List Ty) (gs : List Str) (fs : AT ts → List (Str × Dat)) : Prop := ∀ {x : AT ts} {vs : List V} {F : Hp}, ArgsOk ts x vs F → vs.length = gs.length ∧ FldsOk (fs x) (gs.zip vs).reverse F
theorem exx_eq {H : Hp} {a d : Addr} {C : Addr} {u : HO} {fs : List (Str × V)} (ha : H a = none) (dne : d ≠ a) : upd (del (upd (upd (upd H a (exo a C none)) d (exd d fs)) a (exo a C (some d))) a) d u = upd H d u := by
  funext b
  by_cases h1 : b = d
  · subst h1
    rw [upd_same, upd_same]
  · rw [upd_ne h1, upd_ne h1]
    by_cases h2 : b = a
    · subst h2
      rw [del_same, ha]
    · rw [del_ne h2, upd_ne h2, upd_ne h1, upd_ne h2]
section
variable {X : Cx} {G : FX} {L : LC} {β : Type} {N : List Str} {sc : Scope} {B : List Str} {k : Nat} {Γ : Ctx} {Γn : β → Ctx} {os osn : Os} {pos p pos' : Pos} {e : Expr} {es : List Expr}
theorem rs_raise (xo : XOk X N sc B k) (hS : OSub os G.ps) {nm : Str} {C : Addr} {gs : List Str} {j : Nat} {ts : List Ty} {fs : AT ts → List (Str × Dat)} {m : SM (OT os) (AT ts)} (l : LkX X.md nm C gs j) (g : Nat) (fl : FlX ts gs fs) (ha : RA X Γ os (e :: es) ts m) (hgl : gs.length ≤ 1000 := by decide)
    (hg : sc.names[g]? = some (nm, .globalImplicit) := by rfl) (hj : Nat.ble (j + 1) k = true := by rfl) (he : starEach (e :: es) X.env = (false, eval e X.env) :: starEach es X.env := by rfl) (hpl : (backTo pos (starEach es X.env)).any (·.1) = false := by rfl) :
    RS X G L Γ os (.Raise (some (.Call (.Name nm p) (e :: es) [] pos)) none pos') Γn osn (fun o => bindX hS (m o) fun x o => some (.exc ⟨nm, fs x⟩ (hS.map o))) := by
  obtain ⟨fI, fd, ps, Bs, newId, initId, bmB, hm, T, iC, tI, F1, hb⟩ := l
  intro σ F M R H o W D tk c w gd q
  have hx : Passes (L2.CX X.prog X.w) X (fun _ _ _ => False) := fun _ _ _ _ _ _ _ ⟨_, _, _, _, _, _, _, _, _, _, _, _, z⟩ => z.elim
  refine ⟨_, ps_raise xo.calm tk (pmk_B T iC tI F1 (xo.room.mono (Nat.le_of_ble_eq_true hj)) hb .nil hx (xo.gl g nm hg) hm (pa_best X (e :: es)) (xo.db g nm _ hg).1 he hpl), ?_⟩
  refine ha σ F M R H o W _ tk c w gd (q.bindX.imp (fun x o1 z => ?_) fun _ _ z => z)
  intro vs F' M' H' s' w' g' r'
  obtain ⟨hlen, hfl⟩ := fl r'
  refine ⟨by rw [hlen]; exact hgl, fun a na => ?_⟩
  refine ⟨a, vs, by rw [List.append_nil], hlen, upd_same, fun d hd dne => ?_⟩
  rw [upd_ne dne] at hd
  refine ⟨rfl, d, (gs.zip vs).reverse, upd_same, by rw [upd_ne dne, upd_same], hd, ?_⟩
  rw [exx_eq na dne]
  obtain ⟨M0, s0, w0⟩ := hS.own w'
  have hF : F' d = none := g'.fnone hd
  have s4 := sub_upd (o := .xd (gs.zip vs).reverse) hF
  refine z (.ref C) (some d) σ (upd F' d (.xd (gs.zip vs).reverse)) M0 _ (s'.trans s4) .refl (w0.mono s4) ((g'.less s0).newF hd) ⟨hm, .inr ⟨d, _, rfl, upd_same, ?_⟩⟩
  intro f x hf
  obtain ⟨v, e1, e2⟩ := hfl f x hf
  exact ⟨v, e1, e2.mono s4⟩
end
theorem flx_1 {t : Ty} {ft : t.A → Dat} {g1 : Str} (h1 : Cv t tDat ft) : FlX [t] [g1] (fun x => [(g1, ft x.1)]) := by
  intro x vs F h
  obtain ⟨v1, l1, e1, q1, e3⟩ := h
  have e3' : l1 = [] := e3
  subst e3' e1
  refine ⟨rfl, fun f y hf => ?_⟩
  have hr : ([g1].zip [v1]).reverse = [(g1, v1)] := rfl
  rw [hr]
  by_cases z1 : f = g1
  · subst z1
    have hf' : some (ft x.1) = some y := by
      rw [← hf]
      simp [List.lookup_cons]
    cases hf'
    exact ⟨v1, by simp [List.lookup_cons], (h1 q1).2⟩
  · exfalso
    have z3 : (f == g1) = false := by simpa using z1
    simp [List.lookup_cons, z3] at hf
end Mi

namespace Mi
open PySem PySem.Spec PyProof.Rows L2
theorem ExB.facts : ∀ b : ExB, PySem.ExcBaseFacts b.name b.newId b.initId b.bm
  | .arith => PySem.F.excBase_ArithmeticError
  | .lookup => PySem.F.excBase_LookupError
  | .value => PySem.F.excBase_ValueError
theorem ExB.pass (self : Value) : ∀ b : ExB, refuseLoop self "__setattr__" b.bm = pure ()
  | .arith => PySem.F.store_ArithmeticError.passes self
  | .lookup => PySem.F.store_LookupError.passes self
  | .value => PySem.F.store_ValueError.passes self
theorem ExB.ob : ∀ b : ExB, b.bm.contains (.type "object") = true
  | .arith => rfl
  | .lookup => rfl
  | .value => rfl
theorem oeB0_ok {K : PySem.W.Frag} {C : Addr} {b : ExB} (q : oeB0 K C b = true) : ∃ nm q N bs bm sn sub ab col dd k0 k1 k2 k3 k5, K.lookup C = some (excClassObj nm q C N bs bm true sn sub ab col dd k0 k1 k2 k3 k5 b.newId) ∧ (∀ Y : String, bm.contains (.type Y) = b.bm.contains (.type Y)) ∧ ∀ self, refuseLoop self "__setattr__" bm = pure () := by
  unfold oeB0 at q
  split at q
  · rename_i dd cd sl ho
    split at q
    · rename_i C' bm k0 k1 k2 k3 n k5 hm hs
      simp only [Bool.and_eq_true, beq_iff_eq, Bool.not_eq_true'] at q
      obtain ⟨⟨⟨⟨rfl, rfl⟩, hdel⟩, ht⟩, hh⟩ := q
      obtain ⟨nm, bs, mro, ns, qn, hd, sn, sub, ab, col, del⟩ := cd
      dsimp only at hm hdel hh
      subst hm hdel hh
      have hsl : sl = #[k0, k1, k2, k3, some (.builtin b.newId), k5] := by
        obtain ⟨l⟩ := sl
        simp only at hs
        rw [hs]
      subst hsl
      exact ⟨nm, qn, ns, bs, bm, sn, sub, ab, col, dd, k0, k1, k2, k3, k5, ho, fun T => PySem.W.excTail_contains T _ ht, fun self => PySem.W.excTail_pass self (b.pass self) _ ht⟩
    · cases q
  · cases q
theorem oeB_ok {K : PySem.W.Frag} {C : Addr} {b : ExB} (h : oeB K C b = true) : OeB K C b.name b.newId b.initId b.bm := by
  unfold oeB at h
  simp only [Bool.and_eq_true] at h
  obtain ⟨h1, h2, h3, h4, h5⟩ := h
  exact ⟨b.facts, b.ob, oeB0_ok h1, He.eqO_ok h2, of_decide_eq_true h3, of_decide_eq_true h4, h5⟩
structure CrF (K : PySem.W.Frag) (D : Addr) (b : ExB) : Prop where
  cr : ClX.CRead K D (.type "type")
  at_ : PySem.W.findCls K (.ref D) (.type "type") "__init__" = some (.val (.builtin b.initId))
theorem crB_ok {K : PySem.W.Frag} {D : Addr} {b : ExB} (h : crB K D b = true) : CrF K D b := by
  unfold crB at h
  simp only [Bool.and_eq_true] at h
  obtain ⟨h1, h2, h3⟩ := h
  split at h3
  · rename_i i e
    rw [of_decide_eq_true h3] at e
    exact ⟨⟨h1, He.eqO_ok h2⟩, e⟩
  · cases h3
structure ExF (K : PySem.W.Frag) (C : Addr) (b : ExB) : Prop where
  oe : OeB K C b.name b.newId b.initId b.bm
  ini : PySem.W.findIn K (.ref C) "__init__" = some (some (.ref (He.ma K C "__init__")))
  ty : PySem.W.typeIn K (.ref (He.ma K C "__init__")) = some (.type "function")
  xf : XfC K C
  exm : PySem.W.exmOne K (.ref C) (.ref C) = some true
theorem exF_ok {K : PySem.W.Frag} {C : Addr} {b : ExB} (h : (oeB K C b && niB K C) = true) : ExF K C b := by
  obtain ⟨h1, h2⟩ := Bool.and_eq_true_iff.mp h
  unfold niB at h2
  obtain ⟨h3, h4⟩ := Bool.and_eq_true_iff.mp h2
  obtain ⟨h4, h5⟩ := Bool.and_eq_true_iff.mp h4
  obtain ⟨h5, h6⟩ := Bool.and_eq_true_iff.mp h5
  exact ⟨oeB_ok h1, He.eqO_ok h3, of_decide_eq_true h4, xfB_ok h5, of_decide_eq_true h6⟩
def ExB.n : ExB → Int
  | .arith => 1
  | .lookup => 2
  | .value => 6
section
variable {fa : List He.Fa} {fn : List He.DefD} {pr : List PrD} {cv : List CvD} {K : PySem.W.Frag}
theorem SaysX.exc (c : SaysX fa fn pr cv K) (i : Nat) {C : Str} (b : ExB) (h : cv[i]? = some (C, ("__class__" : Str), b.n)) : ExF K (He.ga K C) b := by
  have z : cvB K C "__class__" b.n = true := c.cv_ i h
  unfold cvB at z
  rw [if_pos rfl] at z
  unfold spB at z
  cases b with
  | arith => exact exF_ok (by rw [if_pos (by decide)] at z; exact z)
  | lookup => exact exF_ok (by rw [if_neg (by decide), if_pos (by decide)] at z; exact z)
  | value => exact exF_ok (by rw [if_neg (by decide), if_neg (by decide), if_neg (by decide), if_neg (by decide), if_neg (by decide), if_pos (by decide)] at z; exact z)
theorem SaysX.exb (c : SaysX fa fn pr cv K) (i : Nat) {D : Str} (b : ExB) (h : cv[i]? = some (D, ("__class__" : Str), b.n + 2)) : CrF K (He.ga K D) b := by
  have z : cvB K D "__class__" (b.n + 2) = true := c.cv_ i h
  unfold cvB at z
  rw [if_pos rfl] at z
  unfold spB at z
  cases b with
  | arith => exact crB_ok (by rw [if_neg (by decide), if_neg (by decide), if_pos (by decide)] at z; exact z)
  | lookup => exact crB_ok (by rw [if_neg (by decide), if_neg (by decide), if_neg (by decide), if_pos (by decide)] at z; exact z)
  | value => exact crB_ok (by rw [if_neg (by decide), if_neg (by decide), if_neg (by decide), if_neg (by decide), if_neg (by decide), if_neg (by decide), if_pos (by decide)] at z; exact z)
end
end Mi

namespace Mi
open PySem PySem.Spec PyProof.Rows L2
structure XOj (X : Cx) (N : List Str) (sc : Scope) : Prop where
  nN : X.N = N
  db : ∀ (j : Nat) (x : Str) (kd : NameKind), sc.names[j]? = some (x, kd) → (x == ("__debug__" : Str)) = false ∧ (x == ("__classdict__" : Str)) = false ∧ x ≠ "__name__"
  vs : ∀ (j : Nat) (x : Str) (kd : NameKind), sc.names[j]? = some (x, kd) → visK kd = true → Vis X.env.scope x
theorem XOk.tr {X : Cx} {N : List Str} {sc : Scope} {B : List Str} {k : Nat} (xo : XOk X N sc B k) (pn : List (Addr × Obj)) (xe : Value → Shared → Prop) : XOk (X.tr pn xe) N sc B k :=
  ⟨xo.nN, xo.db, xo.vs, xo.gl, xo.lc, xo.ce, xo.lo, xo.bk, xo.nd, xo.fr, xo.room, xo.calm⟩
theorem XOk.suite {X : Cx} {N : List Str} {sc : Scope} {B : List Str} {k : Nat} (xo : XOk X N sc B k) (a : Addr) (pn : List (Addr × Obj)) : XOj (X.suite a pn) N sc := ⟨xo.nN, xo.db, xo.vs⟩
theorem XS.tr {X : Cx} (xs : XS X) (pn : List (Addr × Obj)) {xe : Value → Shared → Prop} (h : PassesOwn (model X.prog X.w) X.A X.env xe) : XS (X.tr pn xe) := ⟨h, xs.hs, xs.hf⟩
def cutF (kp : List Nat) : Nat → Ctx → Ctx
  | _, [] => []
  | n, x :: r => (if kp.contains n = true then x else none) :: cutF kp (n + 1) r
theorem cutF_len {kp : List Nat} : ∀ {n : Nat} {Γ : Ctx}, (cutF kp n Γ).length = Γ.length
  | _, [] => rfl
  | n, x :: r => by
    show (cutF kp (n + 1) r).length + 1 = r.length + 1
    rw [cutF_len]
theorem cutF_at {kp : List Nat} : ∀ {n i : Nat} {Γ : Ctx} {z : (t : Ty) × t.A}, (cutF kp n Γ)[i]? = some (some z) → Γ[i]? = some (some z) ∧ n + i ∈ kp
  | _, _, [], _, h => by simp [cutF] at h
  | n, 0, x :: r, z, h => by
    have h' : some (if kp.contains n = true then x else none) = some (some z) := h
    by_cases q : kp.contains n = true
    · rw [if_pos q] at h'
      refine ⟨h', ?_⟩
      simpa using q
    · rw [if_neg q] at h'
      cases h'
  | n, i + 1, x :: r, z, h => by
    have h' : (cutF kp (n + 1) r)[i]? = some (some z) := h
    obtain ⟨e, m⟩ := cutF_at h'
    exact ⟨e, by rw [show n + (i + 1) = n + 1 + i by omega]; exact m⟩
def cutC (kp : List Nat) (Γ : Ctx) : Ctx := cutF kp 0 Γ
theorem CtxOk.cut {Γ : Ctx} {σ σ' : L2.St} {F F' : Hp} {kp : List Nat} (c : CtxOk Γ σ F) (s : Sub F F') (k : Keep kp σ σ') : CtxOk (cutC kp Γ) σ' F' := by
  refine ⟨(cutF_len).trans (c.1.trans k.1.symm), fun i t x e => ?_⟩
  obtain ⟨e1, e2⟩ := cutF_at e
  obtain ⟨v, q, r⟩ := c.2 i t x e1
  rw [Nat.zero_add] at e2
  exact ⟨v, (k.2 i e2).trans q, t.mono r s⟩
def tXc (a : Addr) (d : Option Addr) : Ty := imTy (List (Str × Dat)) (fun fs v F => v = .ref a ∧ (fs = [] ∨ ∃ dd vs, d = some dd ∧ F dd = some (.xd vs) ∧ FldsOk fs vs F)) (fun {fs v F F'} h s => ⟨h.1, h.2.imp id (by
  rintro ⟨dd, vs, e, q, k⟩
  refine ⟨dd, vs, e, s _ _ q, fun f x l => ?_⟩
  obtain ⟨v, e1, e2⟩ := k f x l
  exact ⟨v, e1, e2.mono s⟩)⟩)
theorem ctx_unset {Γ : Ctx} {σ : L2.St} {F : Hp} {i : Nat} (c : CtxOk Γ σ F) (h : ∀ z, Γ[i]? ≠ some (some z)) : CtxOk Γ (σ.set i none) F := by
  refine ⟨by rw [List.length_set]; exact c.1, fun j t x e => ?_⟩
  have ne : i ≠ j := fun z => h _ (z ▸ e)
  obtain ⟨v, q, r⟩ := c.2 j t x e
  exact ⟨v, by rw [List.getElem?_set_ne ne]; exact q, r⟩
section
variable {X : Cx} {G : FX} {L : LC} {β : Type} {N : List Str} {sc : Scope} {B : List Str} {k : Nat} {Γ : Ctx} {Γn : β → Ctx} {os osn : Os} {pos pos' np : Pos} {body suite : List Stmt} {b₀ : Stmt}
def noExc {G : FX} (r : OutT G L β osn) : OutT G L β osn := match r with
  | some (.exc _ _) => none
  | r => r
def tryM {kp' : List Nat} (hS : OSub os G.ps) (cn : Str) (m : OT os → OutT ⟨kp', os, G.tr⟩ L β osn) (ms : List (Str × Dat) → OT os → OutT G L β osn) : OT os → OutT G L β osn := fun o => match m o with
  | none => none
  | some (.nxt n) => some (.nxt n)
  | some (.brk l) => some (.brk l)
  | some (.cnt l) => some (.cnt l)
  | some (.ret x p) => some (.ret x (hS.map p))
  | some (.exc e p) => if e.cls = cn then noExc (G := G) (ms e.fs p) else none
theorem keep_sub {kp kp' : List Nat} {σ σ' : L2.St} (h : ∀ i ∈ kp, i ∈ kp') (k : Keep kp' σ σ') : Keep kp σ σ' := ⟨k.1, fun i hi => k.2 i (h i hi)⟩
theorem keep_unset {kp : List Nat} {σ σ' : L2.St} {i : Nat} {v : Option V} (h : kp.all (· != i) = true) (k : Keep kp σ σ') : Keep kp σ (σ'.set i v) := by
  refine ⟨by rw [List.length_set]; exact k.1, fun j hj => ?_⟩
  have ne : i ≠ j := fun z => by
    have := List.all_eq_true.mp h j hj
    subst z
    simp at this
  rw [List.getElem?_set_ne ne]
  exact k.2 j hj
theorem takes_none' {X : Cx} {a : Addr} {pn : List (Addr × Obj)} : Takes (X.suite a pn) (fun _ _ _ _ => False) := fun _ _ ⟨_, _, _, _, _, _, _, _, _, _, _, _, _, _, _, _, z⟩ => z.elim
theorem rs_tryAs (xo : XOk X N sc B k) (xs : XS X) (hS : OSub os G.ps) (kp' : List Nat) (i j g : Nat) {nm cn : Str} {C : Addr} {m : OT os → OutT ⟨kp', os, G.tr⟩ L β osn} {ms : List (Str × Dat) → OT os → OutT G L β osn}
    (hm : X.mg cn = some (.ref C)) (hx : PySem.W.exmOne X.K (.ref C) (.ref C) = some true)
    (hb : ∀ (pn : List (Addr × Obj)) (xe : Value → Shared → Prop), XOk (X.tr pn xe) N sc B k → XS (X.tr pn xe) → RB (X.tr pn xe) ⟨kp', os, G.tr⟩ L Γ os body Γn osn m)
    (hsu : ∀ (a : Addr) (oe : Obj) (d : Option Addr) (pn : List (Addr × Obj)) (fs : List (Str × Dat)), Zc (.ref C) d oe → (∃ vs, oe.data = .fields vs) → XOj (X.suite a ((a, oe) :: pn)) N sc →
      RB (X.suite a ((a, oe) :: pn)) G L ((cutC kp' Γ).set i (some ⟨tXc a d, fs⟩)) os (b₀ :: suite) Γn osn (ms fs))
    (hn : ∀ (b : β) z, (Γn b)[i]? ≠ some (some z)) (hL : ∀ b z, (L.G b)[i]? ≠ some (some z))
    (hj : sc.names[j]? = some (nm, .local) := by rfl) (hN : N[i]? = some nm := by rfl) (hg : sc.names[g]? = some (cn, .globalImplicit) := by rfl)
    (hf : noSlot i os = true := by rfl) (hf2 : noSlot i osn = true := by rfl) (hf3 : noSlot i L.os = true := by rfl) (hkp : G.kp.all (· != i) = true := by rfl) (hkk : ∀ i ∈ G.kp, i ∈ kp' := by decide) :
    RS X G L Γ os (.Try body [.ExceptHandler (some (.Name cn np)) (some nm) (b₀ :: suite) pos'] [] [] pos) Γn osn (tryM hS cn m ms) := by
  intro σ F M R H o W D tk c w gd q
  have hc : Names X cn (.ref C) := ⟨xo.gl g _ hg, (xo.db g _ _ hg).1, .inl hm⟩
  refine ⟨_, ps_try_as (i := i) (ts := fun a cls d D σ H => ∀ oe pn, Zc cls d oe → (∃ vs, oe.data = .fields vs) → bestB (X.suite a ((a, oe) :: pn)) (b₀ :: suite) D σ H) (tb := fun W D σ H => ∀ pn xe, Takes (X.tr pn xe) W → PassesOwn (model X.prog X.w) X.A X.env xe → bestB (X.tr pn xe) body D σ H) xs.hs xs.hf xo.nd (by rw [xo.nN]; exact hN) (xo.lo j nm _ hj (by decide)) hc tk (fun W pn xe tk' own => ?_) (fun a oe cls d pn hz hd => ?_), ?_⟩
  · exact ⟨fun pins s σ H D I h => (pss_best _ body).run pins s σ H D I (h pn xe tk' own)⟩
  · exact ⟨fun pins s σ H D I h => (pss_best _ (b₀ :: suite)).run pins s σ H D I (h oe pn hz hd)⟩
  · intro pn xe tk' own
    refine hb pn xe (xo.tr pn xe) (xs.tr pn own) σ F M R H o _ D tk' c w gd ?_
    unfold tryM at q
    cases e : m o with
    | none => rw [e] at q; exact q.elim
    | some r =>
      rw [e] at q
      cases r with
      | nxt n => exact fun σ' F' M' H' s k => q σ' F' M' H' s (keep_sub hkk k)
      | brk n => exact fun σ' F' M' H' s k => q σ' F' M' H' s (keep_sub hkk k)
      | cnt n => exact fun σ' F' M' H' s k => q σ' F' M' H' s (keep_sub hkk k)
      | ret x p =>
        intro v σ' F' M1 mm M' H' s k w' p' g' r'
        obtain ⟨M0, s0, w0⟩ := hS.own w'
        refine (show RetS G σ F R D.rt x (hS.map p) from q) v σ' F' M0 mm (uni mm M0) H' s (keep_sub hkk k) w0 (sep_mk fun a => (p'.dis a).imp id fun y => s0.none y) (g'.less fun a u hh => ?_) r'
        cases y : mm a with
        | some u' => rw [uni_l y] at hh; exact p'.l a u (by rw [y]; exact hh)
        | none => rw [uni_r y] at hh; exact p'.r a u (s0 a u hh)
      | exc ex p =>
        by_cases hcl : ex.cls = cn
        · have q : WantS X G L Γn osn σ F R W D (noExc (G := G) (ms ex.fs p)) := by
            have q' : WantS X G L Γn osn σ F R W D (if ex.cls = cn then noExc (G := G) (ms ex.fs p) else none) := q
            rw [if_pos hcl] at q'
            exact q'
          intro cls d σ' F' M' H' s' k' w' g' x'
          have hcls : X.mg ex.cls = some cls := x'.1
          rw [hcl, hm] at hcls
          cases hcls
          refine ⟨true, hx, fun _ a na oe pn2 hz hd => ?_, fun z => by cases z⟩
          have kk : ∀ {σ2 : L2.St}, Keep G.kp (σ'.set i (some (.ref a))) σ2 → Keep G.kp σ σ2 := fun k2 => (keep_sub hkk k').trans ((keep_unset hkp .refl).trans k2)
          refine hsu a oe d pn2 ex.fs hz hd (xo.suite a _) (σ'.set i (some (.ref a))) F' M' R H' p (fun _ _ _ _ => False) _ takes_none' ((c.cut s' k').set (t := tXc a d) (x := ex.fs) (v := .ref a) ⟨rfl, rfl, x'.2⟩) (OwnOk.set w' hf) g' ?_
          cases e2 : ms ex.fs p with
          | none => rw [e2] at q; exact q.elim
          | some r =>
            rw [e2] at q
            cases r with
            | nxt n => exact fun σ2 F2 M2 H2 s2 k2 c2 w2 g2 => q (σ2.set i none) F2 M2 H2 (s'.trans s2) (keep_unset hkp (kk k2)) (ctx_unset c2 (hn n.1)) (OwnOk.set w2 hf2) g2
            | brk n => exact fun σ2 F2 M2 H2 s2 k2 c2 w2 g2 => q (σ2.set i none) F2 M2 H2 (s'.trans s2) (keep_unset hkp (kk k2)) (ctx_unset c2 (hL n.1)) (OwnOk.set w2 hf3) g2
            | cnt n => exact fun σ2 F2 M2 H2 s2 k2 c2 w2 g2 => q (σ2.set i none) F2 M2 H2 (s'.trans s2) (keep_unset hkp (kk k2)) (ctx_unset c2 (hL n.1)) (OwnOk.set w2 hf3) g2
            | ret x pp => exact fun v σ2 F2 M1 mm M2 H2 s2 k2 w2 p2 g2 r2 => q v σ2 F2 M1 mm M2 H2 (s'.trans s2) (kk k2) w2 p2 g2 r2
            | exc _ _ => exact (show False from q).elim
        · have q' : WantS X G L Γn osn σ F R W D (if ex.cls = cn then noExc (G := G) (ms ex.fs p) else none) := q
          rw [if_neg hcl] at q'
          exact q'.elim
end
end Mi

namespace Mi
open PySem PySem.Spec PyProof.Rows L2
section
variable {X : Cx} {N : List Str} {sc : Scope} {Γ : Ctx} {os os' : Os} {pos p p1 p2 p3 cpos apos : Pos} {e a b : Expr} {es : List Expr} {t u : Ty}
theorem rj_var (xo : XOj X N sc) (i j : Nat) {nm : Str} {kd : NameKind} {t : Ty} {x : t.A} (hj : sc.names[j]? = some (nm, kd) := by rfl) (hk : visK kd = true := by rfl) (hN : N[i]? = some nm := by rfl) (hΓ : Γ[i]? = some (some ⟨t, x⟩) := by rfl) :
    RE X Γ os (.Name nm pos) t (SM.ret x) := by
  intro σ F M R H o W Q tk c w g h
  obtain ⟨v, e, r⟩ := c.2 i t x hΓ
  obtain ⟨d1, d2, _⟩ := xo.db j nm kd hj
  exact ⟨_, pe_var (by rw [xo.nN]; exact hN) (xo.vs j nm kd hj hk) d1 d2, v, e, h v F M emp M H (.refl F) w (sep_emp_l M) g r⟩
theorem rj_xf {ad C : Addr} {oe : Obj} {d : Option Addr} {pn : List (Addr × Obj)} {f : Str} {fs : List (Str × Dat)} (T : XfC X.K C) (hno : PySem.W.findIn X.K (.ref C) f = some none) (hz : Zc (.ref C) d oe) (hf : ∃ vs, oe.data = .fields vs)
    {m : SM (OT os) (List (Str × Dat))} (he : RE (X.suite ad ((ad, oe) :: pn)) Γ os e (tXc ad d) m) (hb : attributeBase e f X.env (eval e X.env) = eval e X.env := by rfl) :
    RE (X.suite ad ((ad, oe) :: pn)) Γ os (.Attribute e f pos) tDat (SM.bind m fun fs => SM.lift (fs.lookup f)) := by
  intro σ F M R H o W Q tk c w g h
  refine ⟨_, pe_xf T hno hz hf (pe_best _ e) hb, ?_⟩
  refine he σ F M R H o W _ tk c w g (h.bind.imp (fun x o1 h1 => ?_) fun _ _ z => z)
  intro v F1 M1 m1 M1' H1 s1 w1 p1 g1 r1
  obtain ⟨em, ev, r1⟩ := r1
  subst em ev
  have em := p1.emp_l
  subst em
  refine ⟨rfl, rfl, ?_⟩
  unfold SM.lift at h1
  cases q : x.lookup f with
  | none => rw [q] at h1; exact h1.elim
  | some y =>
    rw [q] at h1
    rcases r1 with r1 | ⟨dd, vs, ed, ef, fl⟩
    · subst r1; simp at q
    · obtain ⟨v, e1, e2⟩ := fl f y q
      exact ⟨dd, vs, v, ed, g1.fn _ _ (fun _ z => nomatch z) ef, e1, h1 v F1 _ emp _ H1 s1 w1 (sep_emp_l _) g1 ⟨rfl, e2⟩⟩
end
end Mi

namespace Mi
open PySem PySem.Spec PyProof.Rows L2
def LkXC (M : Md) (C : Str) (gs : List Str) : Prop := M.mg C = some (.ref (He.ga M.K C)) ∧ PySem.W.exmOne M.K (.ref (He.ga M.K C)) (.ref (He.ga M.K C)) = some true ∧ XfC M.K (He.ga M.K C) ∧ ∀ g ∈ gs, PySem.W.findIn M.K (.ref (He.ga M.K C)) g = some none
section
variable {X : Cx} {Γ : Ctx} {os : Os} {pos : Pos} {e : Expr}
theorem rj_xfd {N : List Str} {sc : Scope} {ad C : Addr} {oe : Obj} {d : Option Addr} {pn : List (Addr × Obj)} (xo : XOj (X.suite ad ((ad, oe) :: pn)) N sc) (i j : Nat) {nm f : Str} {kd : NameKind} {fs : List (Str × Dat)} {p : Pos} (T : XfC X.K C) (hno : PySem.W.findIn X.K (.ref C) f = some none) (hz : Zc (.ref C) d oe) (hf : ∃ vs, oe.data = .fields vs)
    (hj : sc.names[j]? = some (nm, kd) := by rfl) (hk : visK kd = true := by rfl) (hN : N[i]? = some nm := by rfl) (hΓ : Γ[i]? = some (some ⟨tXc ad d, fs⟩) := by rfl) (hb : attributeBase (.Name nm p) f X.env (eval (.Name nm p) X.env) = eval (.Name nm p) X.env := by rfl) :
    RE (X.suite ad ((ad, oe) :: pn)) Γ os (.Attribute (.Name nm p) f pos) tDat (SM.lift (fs.lookup f)) :=
  rj_xf (fs := fs) (m := SM.ret fs) T hno hz hf (rj_var xo i j hj hk hN hΓ) hb
end
end Mi

namespace Mi
open PySem PySem.Spec PyProof.Rows L2
section
variable {X : Cx} {N : List Str} {sc : Scope} {B : List Str} {k : Nat} {Γ : Ctx} {os os' : Os} {pos p p1 p2 p3 apos cpos : Pos} {e a b c : Expr} {es : List Expr} {t u : Ty}
end
end Mi

namespace Mi
open PySem PySem.Spec PyProof.Rows L2
structure Oth (K : PySem.W.Frag) (C : Addr) (t : Value) : Prop where
  kit : PySem.W.kitOne K t (.ref C) = some false
  nf : PySem.W.notFirst K C t = true
structure OthP (K : PySem.W.Frag) (C : Addr) : Prop where
  all : ∀ T ∈ pdTys, Oth K C (.type T)
section
variable {fa : List He.Fa} {fn : List He.DefD} {pr : List PrD} {cv : List CvD} {K : PySem.W.Frag}
end
section
variable {X : Cx} {N : List Str} {sc : Scope} {B : List Str} {k : Nat} {Γ : Ctx} {os os' : Os} {pos p p1 p2 p3 apos cpos : Pos} {e a b c : Expr} {es : List Expr} {t u : Ty} {C : Addr} {fs : Flds}
def e0 {A : Type} (x y : List A) (b : Bool) : Option Bool := if x.isEmpty && y.isEmpty then some b else none
end
end Mi

namespace Mi
open PySem PySem.Spec PyProof.Rows L2
def ddel {A : Type} (k : List Nat) (xs : List (List Nat × A)) : List (List Nat × A) := xs.filter fun y => decide (y.1 ≠ k)
theorem KvR.del {t : Ty} {k : List Nat} {F : Hp} : ∀ {xs : List (List Nat × t.A)} {kvs : List (Key × V)}, KvR t xs kvs F → KvR t (ddel k xs) (dropK kvs (.inr (sOf k))) F
  | [], kvs, h => by have h' : kvs = [] := h; subst h'; exact rfl
  | y :: xs, _, ⟨v, l, e, q, r⟩ => by
    subst e
    have ih := KvR.del (k := k) r
    unfold ddel dropK at ih ⊢
    by_cases c : y.1 = k
    · have c2 : ¬ (((Sum.inr (sOf y.1) : Key), v).1 ≠ Sum.inr (sOf k)) := not_not_intro (key_eq.mpr c)
      rw [List.filter_cons, List.filter_cons, decide_eq_false (not_not_intro c), decide_eq_false c2]
      exact ih
    · have c2 : ((Sum.inr (sOf y.1) : Key), v).1 ≠ Sum.inr (sOf k) := fun z => c (key_eq.mp z)
      rw [List.filter_cons, List.filter_cons, decide_eq_true c, decide_eq_true c2]
      exact ⟨v, _, rfl, q, ih⟩
section
variable {X : Cx} {N : List Str} {sc : Scope} {B : List Str} {k : Nat} {Γ : Ctx} {os os' : Os} {pos p p1 p2 p3 apos cpos : Pos} {e a b c : Expr} {es : List Expr} {t u : Ty}
end
end Mi

namespace Mi
open PySem PySem.Spec PyProof.Rows L2
section
variable {X : Cx} {N : List Str} {sc : Scope} {B : List Str} {k : Nat} {Γ : Ctx} {os os' : Os} {pos p p1 p2 p3 apos cpos : Pos} {e a b c : Expr} {es : List Expr} {t u : Ty} {G : FX} {L : LC} {st : Stmt}
end
end Mi

namespace Mi
open PySem PySem.Spec PyProof.Rows L2
section
variable {X : Cx} {G : FX} {L : LC} {β : Type} {N : List Str} {sc : Scope} {B : List Str} {k : Nat} {Γ : Ctx} {Γn : β → Ctx} {os osn : Os} {pos pos' np : Pos} {body suite : List Stmt} {b₀ : Stmt}
end
def IFld.set : {fs : Flds} → {n : Str} → {t : Ty} → IFld fs n t → t.A → AT (fs.map (·.2)) → AT (fs.map (·.2))
  | _, _, _, .here, y, x => (y, x.2)
  | _, _, _, .there p, y, x => (x.1, p.set y x.2)
theorem IFld.put : ∀ {fs : Flds} {n : Str} {t : Ty} (p : IFld fs n t) {x : AT (fs.map (·.2))} {ws : List (Str × V)} {F : Hp} {y : t.A} {v : V}, p.okB = true → InsR fs x ws F → t.rep y v F emp → InsR fs (p.set y x) (putF n v ws) F
  | _, n, _, .here, _, _, _, y, v, _, ⟨w, l, e, q, k⟩, r => by
    subst e
    refine ⟨v, l, ?_, r, k⟩
    show (if n = n then (n, v) :: l else (n, w) :: putF n v l) = _
    rw [if_pos rfl]
  | _, n, _, .there (f := f) p, _, _, _, y, v, hb, ⟨w, l, e, q, k⟩, r => by
    subst e
    have hb' : (decide (f.1 ≠ n) && p.okB) = true := hb
    rw [Bool.and_eq_true, decide_eq_true_eq] at hb'
    refine ⟨w, putF n v l, ?_, q, p.put hb'.2 k r⟩
    show (if f.1 = n then (f.1, v) :: l else (f.1, w) :: putF n v l) = _
    rw [if_neg hb'.1]
section
variable {X : Cx} {N : List Str} {sc : Scope} {B : List Str} {k : Nat} {Γ : Ctx} {os os' : Os} {pos p p1 p2 p3 : Pos} {e a b : Expr} {t : Ty} {C : Addr} {fs : Flds}
variable {G : FX} {L : LC} {β : Type} {Γn : β → Ctx} {osn : Os} {rest : List Stmt}
end
abbrev tLstN (t : Ty) : Ty := imTy (List t.A) (fun x v F => ∃ a vs, v = .ref a ∧ F a = some (.lst vs) ∧ AllR t x vs F ∧ a ≠ sysModules) fun {x v F F'} ⟨a, vs, e, q, r, n⟩ s => ⟨a, vs, e, s _ _ q, r.mono s, n⟩
theorem im_lstN {t : Ty} : Imm (tLstN t) := fun a => a.1
section
variable {X : Cx} {N : List Str} {sc : Scope} {B : List Str} {k : Nat} {Γ : Ctx} {os : Os} {pos p p1 : Pos} {e : Expr} {es : List Expr} {t : Ty}
theorem pe_lstN {tr : List (Option V) → Hp → (List V → Hp → Prop) → Prop} (h : PA X es tr) : PE X (.List es pos) (fun σ H Q => tr σ H fun xs H1 => xs.length ≤ sizeLine ∧ ∀ p, H1 p = none → p ≠ sysModules → Q (.ref p) (upd H1 p (.lst xs))) := by
  refine ⟨fun pins s σ H Q I hq => ?_⟩
  refine wpAny_List_spliced (thn (h.run pos pins s σ H _ I hq) fun us s1 ⟨xs, H1, I1, r, z, q⟩ => ⟨by rw [← r.length]; exact z, ?_⟩)
  have hf : H1 s1.heap.objs.size = none := I1.hok.fresh (Nat.le_refl _)
  refine ⟨.ref s1.heap.objs.size, upd H1 s1.heap.objs.size (.lst xs), I1.laid (t' := s1.toks) (fun b u e => Heap.get?_push_of_some _ e) (Nat.le_refl _) ?_, rfl, q _ hf (Nat.ne_of_gt I1.big)⟩
  exact ⟨z, us, 0, r, Heap.get?_push_size _ rfl⟩
def rReprN (xs : List V) (H : Hp) (Q : VK) : Prop := ∃ a vs ds, xs = [.ref a] ∧ H a = some (.lst vs) ∧ DVs ds vs H ∧ a ≠ sysModules ∧ ds.all dOnly = true ∧ ShowOk (.list ds) ∧ Q (.str (PyData.list ds).shown) H
theorem call_reprN (gd : X.A.guards = some []) (hu : X.A.units + 150 < cLine) : CallR X (.builtin "repr") rReprN := by
  intro pins s σ H xs us Q I r h
  obtain ⟨a, vs, ds, rfl, ha, dv, hn, low, ⟨o1, o2, o3⟩, q⟩ := h
  obtain ⟨u, rfl, ru⟩ := vals1 r
  have r' : u = Value.ref a := ru
  subst r'
  obtain ⟨_, its, n, rv, ho⟩ := I.hok a _ ha
  obtain ⟨as, rs, lo⟩ := readsAll_low I.hok low dv rv
  refine repr_of_reads' (.list ho rfl rfl rs) o1 (fun _ m => ?_) gd (by omega) (fun _ _ e => e) (fun h' u tk kp => ⟨.str (PyData.list ds).shown, H, I.kept kp, ⟨_, rfl⟩, q⟩) o2
  rcases List.mem_cons.mp m with z | z
  · exact hn z.symm
  · exact lo z
theorem v_reprN {t : Ty} {dat : t.A → PyData} (sh : Sh t dat) : VCall rReprN [tLstN t] tStr (fun x => reprL (x.1.map dat)) := by
  intro x z vs F M H Q e h g q
  obtain ⟨v, us, e1, r, e2⟩ := h
  have e2' : us = [] := e2
  subst e2' e1
  have e : (if (x.1.map dat).all dOnly = true ∧ ShowOk (.list (x.1.map dat)) ∧ (x.1.map dat).length ≤ 1000 then some (textL (.list (x.1.map dat))) else none) = some z := e
  by_cases c : (x.1.map dat).all dOnly = true ∧ ShowOk (.list (x.1.map dat)) ∧ (x.1.map dat).length ≤ 1000
  · rw [if_pos c] at e
    cases e
    obtain ⟨_, a, ws, ev, fa, ra, hn⟩ := r
    refine ⟨a, ws, x.1.map dat, by rw [ev], g.fn _ _ (fun _ e => nomatch e) fa, DVs.up g.fn (allR_sh sh ra), hn, c.1, c.2.1, ?_⟩
    rw [← textL_of]
    exact fl (gA := fun l => V.str (sOf l)) q g
  · rw [if_neg c] at e; cases e
end
section
variable {X : Cx} {N : List Str} {sc : Scope} {B : List Str} {k : Nat} {Γ : Ctx} {os : Os} {pos p p1 : Pos} {a b : Expr} {t : Ty}
end
section
variable {X : Cx} {Γ : Ctx} {os : Os} {pos p : Pos} {e : Expr}
end
section
variable {X : Cx} {N : List Str} {sc : Scope} {B : List Str} {k : Nat} {Γ : Ctx} {os : Os} {pos p apos : Pos} {e : Expr} {t : Ty}
end
theorem lkX_1 {M : Md} {C D : Str} {b : ExB} {g1 n1 msg : Str} {j k : Nat} {qual : Str} {params : Arguments} {scope : Scope} {fd : FuncData} {p1 p2 p3 p4 p5 p6 p7 p8 p9 p10 : Pos} (E : ExF M.K (He.ga M.K C) b) (B : CrF M.K (He.ga M.K D) b)
    (hC : M.mg C = some (.ref (He.ga M.K C))) (hD : M.mg D = some (.ref (He.ga M.K D))) {f : Addr} (hf : f = He.ma M.K (He.ga M.K C) "__init__")
    (F : FunD M.K "__init__" qual params [.Expr (.Call (.Attribute (.Name D p1) "__init__" p2) [.Name "self" p3, .Constant (.str msg) j p4] [] p5) p6, .Assign [.Attribute (.Name "self" p7) g1 p8] (.Name n1 p9) p10] scope [] [] f fd)
    (no1 : PySem.W.findIn M.K (.ref (He.ga M.K C)) g1 = some none) (j0 j1 jg : Nat)
    (hb : Binds M.K fd ["self", n1] [])
    (hsc : fnScB ["self", n1] ["self", n1] scope = true) {k0 k1 : NameKind} (h0 : scope.names[j0]? = some (("self" : Str), k0)) (h1 : scope.names[j1]? = some (n1, k1)) (v0 : visK k0 = true) (v1 : visK k1 = true) (hg : scope.names[jg]? = some (D, .globalImplicit))
    (hnd : (D == ("__debug__" : Str)) = false) (hh : PySem.W.handedIn (.builtin b.initId) = true) {pl : Env → Sem Bool}
    (hc : ∀ env : Env, eval (.Call (.Attribute (.Name D p1) "__init__" p2) [.Name "self" p3, .Constant (.str msg) j p4] [] p5) env = (do
      let ov ← eval (.Name D p1) env
      standAt p2.atName
      let (f, first) ← holding [ov] (getMethod ov "__init__" (pl env))
      callWith p5 f first (backTo p5 (starEach [.Name "self" p3, .Constant (.str msg) j p4] env)) (backToKw p5 (keywordEach [] env)))) :
    LkX M C (He.ga M.K C) [g1] (k + 1) := by
  subst hf
  exact ⟨_, fd, _, b.name, b.newId, b.initId, b.bm, hC, E.oe, E.ini, E.ty, fn_X1 (Bs := b.name) (newId := b.newId) (initId := b.initId) (bmB := b.bm) F hsc h0 h1 v0 v1 hg hD B.cr B.at_ hh E.oe no1 hnd hc, hb⟩
end Mi

namespace Mi
open PySem PySem.Spec PyProof.Rows L2
end Mi

namespace Mi
open PySem PySem.Spec PyProof.Rows L2
def InsM : (fs : Flds) → AT (fs.map (·.2)) → List (Str × V) → Hp → Hp → Prop
  | [], _, ws, _, m => ws = [] ∧ m = emp
  | f :: r, x, ws, F, m => ∃ w l m1 m2, ws = (f.1, w) :: l ∧ f.2.rep x.1 w F m1 ∧ InsM r x.2 l F m2 ∧ Sep m1 m2 m
theorem InsM.mono : ∀ {fs : Flds} {x : AT (fs.map (·.2))} {ws : List (Str × V)} {F F' m : Hp}, InsM fs x ws F m → Sub F F' → InsM fs x ws F' m
  | [], _, _, _, _, _, h, _ => h
  | f :: _, x, _, _, _, _, ⟨w, l, m1, m2, e, q, k, s⟩, h => ⟨w, l, m1, m2, e, f.2.mono q h, InsM.mono (x := x.2) k h, s⟩
theorem InsM.keys : ∀ {fs : Flds} {x : AT (fs.map (·.2))} {ws : List (Str × V)} {F m : Hp}, InsM fs x ws F m → ws.map (·.1) = fs.map (·.1)
  | [], _, ws, _, _, h => by rw [h.1] <;> rfl
  | _ :: _, x, _, _, _, ⟨w, l, _, _, e, _, k, _⟩ => by rw [e, List.map_cons, List.map_cons, InsM.keys (x := x.2) k]
section
variable {X : Cx} {N : List Str} {sc : Scope} {B : List Str} {k : Nat} {Γ : Ctx} {os os' : Os} {pos p p1 p2 p3 apos : Pos} {e a b : Expr} {es : List Expr} {t u : Ty} {C : Addr} {fs : Flds}
variable {G : FX} {L : LC} {β : Type} {Γn : β → Ctx} {osn : Os} {rest : List Stmt}
end
end Mi

namespace Mi
open PySem PySem.Spec PyProof.Rows L2
theorem InsM.look {nm : Str} : ∀ {fs : Flds} {x : AT (fs.map (·.2))} {ws : List (Str × V)} {F m : Hp}, InsM fs x ws F m → nm ∉ fs.map (·.1) → ws.lookup nm = none
  | [], _, ws, _, _, h, _ => by rw [h.1] <;> rfl
  | f :: _, x, _, _, _, ⟨w, l, _, _, e, q, r, _⟩, hn => by
    subst e
    have hn' : (nm == f.1) = false := by rw [beq_eq_false_iff_ne]; exact fun e => hn (by rw [e]; exact List.mem_cons_self)
    rw [List.lookup_cons, hn']
    exact InsM.look (x := x.2) r fun h => hn (List.mem_cons_of_mem _ h)
section
variable {X : Cx} {N : List Str} {sc : Scope} {B : List Str} {k : Nat} {Γ : Ctx} {os os' : Os} {pos p p1 p2 p3 apos : Pos} {e a b : Expr} {es : List Expr} {t u : Ty} {C : Addr} {fs : Flds}
end
end Mi

namespace Mi
open PySem PySem.Spec PyProof.Rows L2
section
variable {X : Cx} {N : List Str} {sc : Scope} {B : List Str} {k : Nat} {Γ : Ctx} {os os' : Os} {pos p p1 p2 p3 apos : Pos} {e a b : Expr} {es : List Expr} {t u : Ty} {C : Addr} {fs : Flds}
variable {G : FX} {L : LC} {β : Type} {Γn : β → Ctx} {osn : Os} {rest : List Stmt}
end
end Mi

namespace Mi
open PySem PySem.Spec PyProof.Rows L2
inductive FrzF : (fs fs' : Flds) → (AT (fs.map (·.2)) → AT (fs'.map (·.2))) → Prop
  | nil : FrzF [] [] fun _ => ()
  | cons {f : Str} {t u : Ty} {r r' : Flds} {g : t.A → u.A} {gs : AT (r.map (·.2)) → AT (r'.map (·.2))} : Frz t u g → FrzF r r' gs → FrzF ((f, t) :: r) ((f, u) :: r') fun x => (g x.1, gs x.2)
theorem sub_part {m1 m F : Hp} (s : Sub m1 m) (d : ∀ p, m p = none ∨ F p = none) : Sub (uni m1 F) (uni m F) := fun p o e => by
  cases q : m1 p with
  | some o' =>
    rw [uni_l q] at e
    cases e
    exact uni_l (s p _ q)
  | none =>
    rw [uni_r q] at e
    rcases d p with z | z
    · rw [uni_r z]; exact e
    · rw [z] at e; cases e
theorem FrzF.ins : ∀ {fs fs' : Flds} {g : AT (fs.map (·.2)) → AT (fs'.map (·.2))}, FrzF fs fs' g → ∀ {x : AT (fs.map (·.2))} {ws : List (Str × V)} {F m1 m : Hp}, InsM fs x ws F m1 → Sub m1 m → (∀ p, m p = none ∨ F p = none) → InsR fs' (g x) ws (uni m F)
  | _, _, _, .nil, _, ws, _, _, _, h, _, _ => h.1
  | _, _, _, .cons (u := u) z k, x, _, F, m1, m, ⟨w, l, a, b, e, q, r, s⟩, sm, d => by
    subst e
    have sa : Sub a m := fun p o e => sm p o (s.l p o e)
    have sb : Sub b m := fun p o e => sm p o (s.r p o e)
    refine ⟨w, l, rfl, ?_, FrzF.ins k (x := x.2) r sb d⟩
    have da : ∀ p, a p = none ∨ F p = none := fun p => by
      rcases d p with z | z
      · cases q : a p with
        | none => exact .inl rfl
        | some o => rw [sa p o q] at z; cases z
      · exact .inr z
    exact u.mono (z q da) (sub_part sa d)
end Mi

namespace Mi
open PySem PySem.Spec PyProof.Rows L2
section
variable {X : Cx} {N : List Str} {sc : Scope} {B : List Str} {k : Nat} {Γ : Ctx} {os os' : Os} {pos p p1 p2 p3 apos : Pos} {e a b : Expr} {es : List Expr} {t u : Ty} {C : Addr} {fs : Flds}
end
end Mi

namespace Mi
open PySem PySem.Spec PyProof.Rows L2
section
variable {X : Cx} {N : List Str} {sc : Scope} {B : List Str} {k : Nat} {Γ : Ctx} {os os' : Os} {pos p p1 p2 p3 apos : Pos} {e a b : Expr} {es : List Expr} {t u : Ty} {C : Addr} {fs : Flds}
end
end Mi

namespace Mi
open PySem PySem.Spec PyProof.Rows L2
theorem InsM.snoc {f : Str} {t : Ty} {y : t.A} {w : V} {F mm : Hp} (r : t.rep y w F mm) : ∀ {fs : Flds} {x : AT (fs.map (·.2))} {ws : List (Str × V)} {m mt : Hp}, InsM fs x ws F m → Sep mm m mt → InsM (fs ++ [(f, t)]) (atSnoc fs x y) (ws ++ [(f, w)]) F mt
  | [], _, ws, m, mt, h, s => by
    obtain ⟨h1, h2⟩ := h
    subst h1 h2
    exact ⟨w, [], mm, emp, rfl, r, ⟨rfl, rfl⟩, s⟩
  | _ :: _, x, _, _, _, ⟨v, l, m1, m2, e, q, k, s1⟩, s => by
    subst e
    obtain ⟨G, g1, g2⟩ := s1.assoc s
    exact ⟨v, _, m1, G, rfl, q, InsM.snoc r (x := x.2) k g1, g2⟩
section
variable {X : Cx} {N : List Str} {sc : Scope} {B : List Str} {k : Nat} {Γ : Ctx} {os os' : Os} {pos p p1 p2 p3 apos : Pos} {e a b : Expr} {es : List Expr} {t u : Ty} {C : Addr} {fs : Flds}
variable {G : FX} {L : LC} {β : Type} {Γn : β → Ctx} {osn : Os} {rest : List Stmt}
end
end Mi

namespace Mi
open PySem PySem.Spec PyProof.Rows L2
section
variable {X : Cx} {N : List Str} {sc : Scope} {B : List Str} {k : Nat} {Γ : Ctx} {os : Os} {pos p : Pos} {e : Expr} {es : List Expr} {C : Addr} {fs : Flds}
end
end Mi

namespace Mi
open PySem PySem.Spec PyProof.Rows L2
section
variable {X : Cx} {N : List Str} {sc : Scope} {B : List Str} {k : Nat} {Γ : Ctx} {os os' : Os} {pos p p1 p2 p3 cpos apos : Pos} {e a b : Expr} {es : List Expr} {t u : Ty} {C : Addr} {fs : Flds}
end
end Mi

namespace Mi
open PySem PySem.Spec PyProof.Rows L2
section
variable {X : Cx} {N : List Str} {sc : Scope} {B : List Str} {k : Nat} {Γ : Ctx} {os os' : Os} {pos p p1 p2 p3 apos : Pos} {e a b : Expr} {es : List Expr} {t u : Ty} {C : Addr} {fs : Flds}
variable {G : FX} {L : LC} {β : Type} {Γn : β → Ctx} {osn : Os} {rest : List Stmt}
end
end Mi

namespace Mi
open PySem PySem.Spec PyProof.Rows L2
section
variable {X : Cx} {N : List Str} {sc : Scope} {B : List Str} {k : Nat} {Γ : Ctx} {os os' : Os} {pos p p1 p2 p3 cpos apos : Pos} {e e2 a b : Expr} {es : List Expr} {t u : Ty} {C : Addr} {fs : Flds}
end
end Mi

namespace Mi
open PySem PySem.Spec PyProof.Rows L2
structure Clz where
  hit : Value → Bool → Prop
  go : (Addr → Value → Option Addr → Ends → L2.St → Hp → Prop)
def goN (ts : Addr → Value → Option Addr → TS) : Addr → Value → Option Addr → Ends → L2.St → Hp → Prop := fun a cls d D σ H => ts a cls d D σ H
def goA (i : Nat) (ts : Addr → Value → Option Addr → TS) : Addr → Value → Option Addr → Ends → L2.St → Hp → Prop := fun a cls d D σ H =>
  ts a cls d { nx := fun σ' H' => D.nx (σ'.set i none) H', rt := D.rt, bk := fun σ' H' => D.bk (σ'.set i none) H', ct := fun σ' H' => D.ct (σ'.set i none) H' } (σ.set i (some (.ref a))) H
abbrev SuOk (X : Cx) (b₀ : Stmt) (suite : List Stmt) (ts : Addr → Value → Option Addr → TS) : Prop :=
  ∀ (a : Addr) (oe : Obj) (cls : Value) (d : Option Addr) (pn : List (Addr × Obj)), Zc cls d oe → (∃ vs, oe.data = .fields vs) → PSs (X.suite a ((a, oe) :: pn)) (b₀ :: suite) (ts a cls d)
inductive ClzOk (X : Cx) : List ExceptHandler → List Clz → Prop
  | nil : ClzOk X [] []
  | one {x : Str} {c : Value} {ts : Addr → Value → Option Addr → TS} {b₀ : Stmt} {suite : List Stmt} {np pos' : Pos} {hds : List ExceptHandler} {l : List Clz} (hc : Names X x c)
      (hsu : SuOk X b₀ suite ts) (r : ClzOk X hds l) : ClzOk X (.ExceptHandler (some (.Name x np)) none (b₀ :: suite) pos' :: hds) (⟨fun cls b => PySem.W.exmOne X.K cls c = some b, goN ts⟩ :: l)
  | as {x n : Str} {c : Value} {i : Nat} {ts : Addr → Value → Option Addr → TS} {b₀ : Stmt} {suite : List Stmt} {np pos' : Pos} {hds : List ExceptHandler} {l : List Clz} (hc : Names X x c) (hi : X.N[i]? = some n) (hln : X.env.kindOf n = some .local)
      (hsu : SuOk X b₀ suite ts) (r : ClzOk X hds l) : ClzOk X (.ExceptHandler (some (.Name x np)) (some n) (b₀ :: suite) pos' :: hds) (⟨fun cls b => PySem.W.exmOne X.K cls c = some b, goA i ts⟩ :: l)
  | two {x1 x2 : Str} {c1 c2 : Value} {ts : Addr → Value → Option Addr → TS} {b₀ : Stmt} {suite : List Stmt} {p1 p2 tp pos' : Pos} {kk : Nat} {hds : List ExceptHandler} {l : List Clz} (h1 : Names X x1 c1) (h2 : Names X x2 c2)
      (hsu : SuOk X b₀ suite ts) (r : ClzOk X hds l) : ClzOk X (.ExceptHandler (some (.Tuple [.Name x1 p1, .Name x2 p2] kk tp)) none (b₀ :: suite) pos' :: hds) (⟨fun cls b => PySem.W.exmAny X.K cls [c1, c2] = some b, goN ts⟩ :: l)
  | three {x1 x2 x3 : Str} {c1 c2 c3 : Value} {ts : Addr → Value → Option Addr → TS} {b₀ : Stmt} {suite : List Stmt} {p1 p2 p3 tp pos' : Pos} {kk : Nat} {hds : List ExceptHandler} {l : List Clz} (h1 : Names X x1 c1) (h2 : Names X x2 c2) (h3 : Names X x3 c3)
      (hsu : SuOk X b₀ suite ts) (r : ClzOk X hds l) : ClzOk X (.ExceptHandler (some (.Tuple [.Name x1 p1, .Name x2 p2, .Name x3 p3] kk tp)) none (b₀ :: suite) pos' :: hds) (⟨fun cls b => PySem.W.exmAny X.K cls [c1, c2, c3] = some b, goN ts⟩ :: l)
section
variable {X : Cx} {body : List Stmt} {h₀ : ExceptHandler} {hds : List ExceptHandler} {l : List Clz} {pos : Pos} {tb : WX → TS} {Wout : WX}
end
end Mi

namespace Mi
open PySem PySem.Spec PyProof.Rows L2
structure ClM (G : FX) (L : LC) (β : Type) (os osn : Os) where
  ns : List Str
  ms : Exn → OT os → OutT G L β osn
abbrev Ct : Type := List (Str × Str × Bool)
section
variable {X : Cx} {G : FX} {L : LC} {β : Type} {N : List Str} {sc : Scope} {B : List Str} {k : Nat} {Γ : Ctx} {Γn : β → Ctx} {os osn : Os} {pos pos' np : Pos} {body suite : List Stmt} {b₀ : Stmt} {h₀ : ExceptHandler} {hds : List ExceptHandler} {kp' : List Nat} {ct : Ct}
abbrev SuR (X : Cx) (G : FX) (L : LC) (Γ : Ctx) (os : Os) (N : List Str) (sc : Scope) (kp' : List Nat) (sts : List Stmt) (Γn : β → Ctx) (osn : Os) (ms : OT os → OutT G L β osn) : Prop :=
  ∀ (a : Addr) (oe : Obj) (cls : Value) (d : Option Addr) (pn : List (Addr × Obj)), Zc cls d oe → (∃ vs, oe.data = .fields vs) → XOj (X.suite a ((a, oe) :: pn)) N sc →
      RB (X.suite a ((a, oe) :: pn)) G L (cutC kp' Γ) os sts Γn osn ms
inductive ClR (X : Cx) (G : FX) (L : LC) (Γ : Ctx) (os : Os) (N : List Str) (sc : Scope) (kp' : List Nat) (Γn : β → Ctx) (osn : Os) : List ExceptHandler → List (ClM G L β os osn) → Prop
  | nil : ClR X G L Γ os N sc kp' Γn osn [] []
  | one {cn : Str} {C : Addr} {b₀ : Stmt} {suite : List Stmt} {np pos' : Pos} {hds : List ExceptHandler} {l : List (ClM G L β os osn)} {ms : OT os → OutT G L β osn} (g : Nat) (hm : X.mg cn = some (.ref C))
      (hsu : SuR X G L Γ os N sc kp' (b₀ :: suite) Γn osn ms) (r : ClR X G L Γ os N sc kp' Γn osn hds l) (hg : sc.names[g]? = some (cn, .globalImplicit) := by rfl) :
      ClR X G L Γ os N sc kp' Γn osn (.ExceptHandler (some (.Name cn np)) none (b₀ :: suite) pos' :: hds) (⟨[cn], fun _ => ms⟩ :: l)
  | as {cn nm : Str} {C : Addr} {b₀ : Stmt} {suite : List Stmt} {np pos' : Pos} {hds : List ExceptHandler} {l : List (ClM G L β os osn)} {ms : List (Str × Dat) → OT os → OutT G L β osn} (i j g : Nat) (hm : X.mg cn = some (.ref C))
      (hsu : ∀ (a : Addr) (oe : Obj) (d : Option Addr) (pn : List (Addr × Obj)) (fs : List (Str × Dat)), Zc (.ref C) d oe → (∃ vs, oe.data = .fields vs) → XOj (X.suite a ((a, oe) :: pn)) N sc →
        RB (X.suite a ((a, oe) :: pn)) G L ((cutC kp' Γ).set i (some ⟨tXc a d, fs⟩)) os (b₀ :: suite) Γn osn (ms fs))
      (hn : ∀ (b : β) z, (Γn b)[i]? ≠ some (some z)) (hL : ∀ b z, (L.G b)[i]? ≠ some (some z)) (r : ClR X G L Γ os N sc kp' Γn osn hds l)
      (hj : sc.names[j]? = some (nm, .local) := by rfl) (hN : N[i]? = some nm := by rfl) (hg : sc.names[g]? = some (cn, .globalImplicit) := by rfl)
      (hf : noSlot i os = true := by rfl) (hf2 : noSlot i osn = true := by rfl) (hf3 : noSlot i L.os = true := by rfl) (hkp : G.kp.all (· != i) = true := by rfl) :
      ClR X G L Γ os N sc kp' Γn osn (.ExceptHandler (some (.Name cn np)) (some nm) (b₀ :: suite) pos' :: hds) (⟨[cn], fun e p => if e.cls = cn then ms e.fs p else none⟩ :: l)
  | two {cn1 cn2 : Str} {C1 C2 : Addr} {b₀ : Stmt} {suite : List Stmt} {p1 p2 tp pos' : Pos} {kk : Nat} {hds : List ExceptHandler} {l : List (ClM G L β os osn)} {ms : OT os → OutT G L β osn} (g1 g2 : Nat) (hm1 : X.mg cn1 = some (.ref C1)) (hm2 : X.mg cn2 = some (.ref C2))
      (hsu : SuR X G L Γ os N sc kp' (b₀ :: suite) Γn osn ms) (r : ClR X G L Γ os N sc kp' Γn osn hds l) (hg1 : sc.names[g1]? = some (cn1, .globalImplicit) := by rfl) (hg2 : sc.names[g2]? = some (cn2, .globalImplicit) := by rfl) :
      ClR X G L Γ os N sc kp' Γn osn (.ExceptHandler (some (.Tuple [.Name cn1 p1, .Name cn2 p2] kk tp)) none (b₀ :: suite) pos' :: hds) (⟨[cn1, cn2], fun _ => ms⟩ :: l)
  | three {cn1 cn2 cn3 : Str} {C1 C2 C3 : Addr} {b₀ : Stmt} {suite : List Stmt} {p1 p2 p3 tp pos' : Pos} {kk : Nat} {hds : List ExceptHandler} {l : List (ClM G L β os osn)} {ms : OT os → OutT G L β osn} (g1 g2 g3 : Nat) (hm1 : X.mg cn1 = some (.ref C1)) (hm2 : X.mg cn2 = some (.ref C2)) (hm3 : X.mg cn3 = some (.ref C3))
      (hsu : SuR X G L Γ os N sc kp' (b₀ :: suite) Γn osn ms) (r : ClR X G L Γ os N sc kp' Γn osn hds l) (hg1 : sc.names[g1]? = some (cn1, .globalImplicit) := by rfl) (hg2 : sc.names[g2]? = some (cn2, .globalImplicit) := by rfl) (hg3 : sc.names[g3]? = some (cn3, .globalImplicit) := by rfl) :
      ClR X G L Γ os N sc kp' Γn osn (.ExceptHandler (some (.Tuple [.Name cn1 p1, .Name cn2 p2, .Name cn3 p3] kk tp)) none (b₀ :: suite) pos' :: hds) (⟨[cn1, cn2, cn3], fun _ => ms⟩ :: l)
end
end Mi

namespace Mi
open PySem PySem.Spec PyProof.Rows L2
section
open PySem.HandSPX
variable {X : Cx} {p pos : Pos} {Bs newId initId : String} {bmB : List Value}
end
section
variable {M : Md} {qual : Str} {params : Arguments} {scope : Scope} {f : Addr} {fd : FuncData} {k : Nat} {Bs newId initId : String} {bmB : List Value} {C D : Addr} {mc : Value} {nm msg : Str} {j : Nat} {p1 p2 p3 p4 p5 p6 : Pos}
end
section
variable {X : Cx} {G : FX} {L : LC} {β : Type} {N : List Str} {sc : Scope} {B : List Str} {k : Nat} {Γ : Ctx} {Γn : β → Ctx} {os osn : Os} {pos p pos' : Pos}
end
end Mi

namespace Mi
open PySem PySem.Spec PyProof.Rows L2
section
variable {M : Md} {x qual : Str} {params : Arguments} {body : List Stmt} {scope : Scope} {f : Addr} {fd : FuncData} {N ps : List Str} {B : List Str} {k : Nat}
end
section
variable {X : Cx} {N : List Str} {sc : Scope} {B : List Str} {k : Nat} {Γ : Ctx} {os os' : Os} {pos p : Pos} {e ea : Expr} {es : List Expr}
end
section
variable {M : Md} {x qual : Str} {params : Arguments} {body : List Stmt} {scope : Scope} {f : Addr} {fd : FuncData} {N ps : List Str} {B : List Str} {k : Nat}
end
end Mi

namespace Mi
open PySem PySem.Spec PyProof.Rows L2
section
variable {X : Cx} {N : List Str} {sc : Scope} {B : List Str} {k : Nat} {Γ : Ctx} {os os' : Os} {pos p p1 p2 p3 pt : Pos} {e a b : Expr} {t u : Ty}
variable {G : FX} {L : LC} {β : Type} {Γn : β → Ctx} {osn : Os} {rest : List Stmt}
end
end Mi
namespace Mi
open PySem PySem.Spec PyProof.Rows L2
end Mi

namespace Mi
open PySem PySem.Spec PyProof.Rows L2
abbrev tV : Ty := flat V id
theorem cv_Vstr : Cv tStr tV (fun x => V.str (sOf x)) := fun h => h
theorem cv_Vchr : Cv tChr tV (fun x => V.str (sOf [x])) := fun h => h
def datV : Dat → Option V
  | .non => some .non
  | .bl b => some (.bl b)
  | .int i => some (.int i)
  | .str s => some (.str (sOf s))
  | .raw v => some v
  | _ => none
theorem nar_datV : Nar tDat tV datV := fun {x y v F m} h r => by
  refine ⟨r.1, ?_⟩
  have r2 : DRep x v F := r.2
  show v = y
  cases x <;> first | (cases h; done) | (unfold DRep at r2; cases h; first | exact r2 | exact r2.1)
def datOf (w : V) : PyData → Dat
  | .none => .non
  | .bool b => .bl b
  | .int i => .int i
  | .str s => .str s.cps.toList
  | _ => .raw w
theorem sOf_toList (s : Str) : sOf s.cps.toList = s := by cases s; simp [sOf]
theorem datOf_rep {w : V} {d : PyData} {F : Hp} (h : DV d w F) : DRep (datOf w d) w F := by
  cases d with
  | none => unfold DV at h; unfold datOf DRep; exact h
  | bool b => unfold DV at h; unfold datOf DRep; exact h
  | int i => unfold DV at h; unfold datOf DRep; exact h
  | str s => unfold DV at h; unfold datOf DRep; rw [sOf_toList]; exact h
  | list xs => unfold DV at h; unfold datOf DRep; obtain ⟨a, vs, e, q, _⟩ := h; exact ⟨rfl, a, e, .inl ⟨vs, q⟩⟩
  | tuple xs => unfold DV at h; unfold datOf DRep; obtain ⟨a, vs, e, q, _⟩ := h; exact ⟨rfl, a, e, .inr (.inl ⟨vs, q⟩)⟩
  | dict ks => unfold DV at h; unfold datOf DRep; obtain ⟨a, kw, e, q, _⟩ := h; exact ⟨rfl, a, e, .inr (.inr (q.imp (fun z => ⟨kw, z⟩) fun ⟨o, z⟩ => ⟨o, kw, z⟩))⟩
abbrev tRaw : Ty := imTy (V × PyData) (fun x v F => v = x.1 ∧ DV x.2 v F) fun h s => ⟨h.1, DV.up s.n h.2⟩
theorem im_raw : Imm tRaw := fun a => a.1
theorem cv_rawPD : Cv tRaw tPD (fun x => x.2) := fun h => ⟨h.1, h.2.2⟩
theorem cv_rawV : Cv tRaw tV (fun x => x.1) := fun h => ⟨h.1, h.2.1⟩
theorem cv_rawD : Cv tRaw tDat (fun x => datOf x.1 x.2) := fun {x v F m} h => ⟨h.1, by have e : v = x.1 := h.2.1; subst e; exact datOf_rep h.2.2⟩
def AnyR (x : PyData × Bool) (v : V) (F m : Hp) : Prop := match x.2 with
  | false => ∀ H, SubN F H → Sub m H → DV x.1 v H
  | true => ∃ a o m1, v = .ref a ∧ Sep (sing a o) m1 m ∧ ((∃ xs vs, x.1 = .list xs ∧ o = .lst vs ∧ ∀ H, SubN F H → Sub m1 H → DVs xs vs H) ∨ ∃ ks kw, x.1 = .dict ks ∧ o = .dK kw ∧ ∀ H, SubN F H → Sub m1 H → DKs ks kw H)
theorem AnyR.dv {x : PyData × Bool} {v : V} {F m H : Hp} (h : AnyR x v F m) (s : SubN F H) (t : Sub m H) : DV x.1 v H := by
  obtain ⟨d, b⟩ := x
  cases b with
  | false => exact h H s t
  | true =>
    obtain ⟨a, o, m1, e, p, h⟩ := h
    have ha : H a = some o := t a o (p.l a o sing_same)
    have t1 : Sub m1 H := fun b u z => t b u (p.r b u z)
    rcases h with ⟨xs, vs, ed, eo, r⟩ | ⟨ks, kw, ed, eo, r⟩
    · have ed : d = .list xs := ed
      subst ed eo
      show DV (.list xs) v H
      unfold DV
      exact ⟨a, vs, e, ha, r H s t1⟩
    · have ed : d = .dict ks := ed
      subst ed eo
      show DV (.dict ks) v H
      unfold DV
      exact ⟨a, kw, e, .inl ha, r H s t1⟩
theorem AnyR.mono {x : PyData × Bool} {v : V} {F F' m : Hp} (h : AnyR x v F m) (s : Sub F F') : AnyR x v F' m := by
  obtain ⟨d, b⟩ := x
  cases b with
  | false => exact fun H f => h H fun a o n e => f a o n (s a o e)
  | true =>
    obtain ⟨a, o, m1, e, p, h⟩ := h
    exact ⟨a, o, m1, e, p, h.imp (fun ⟨xs, vs, e1, e2, r⟩ => ⟨xs, vs, e1, e2, fun H f => r H fun a o n e => f a o n (s a o e)⟩) fun ⟨xs, vs, e1, e2, r⟩ => ⟨xs, vs, e1, e2, fun H f => r H fun a o n e => f a o n (s a o e)⟩⟩
abbrev tAnyO : Ty := ⟨PyData × Bool, AnyR, AnyR.mono⟩
abbrev tAt (w : V) (t : Ty) : Ty := ⟨t.A, fun x v F m => v = w ∧ t.rep x v F m, fun h s => ⟨h.1, t.mono h.2 s⟩⟩
theorem frz_atR {w : V} : Frz (tAt w tAnyO) tRaw (fun x : PyData × Bool => (w, x.1)) := fun {x v F m} r d => by
  obtain ⟨e, r⟩ := r
  refine ⟨rfl, e, AnyR.dv (show AnyR x v F m from r) (sub_uni d).n fun a o h => uni_l h⟩
theorem cv_any {t : Ty} {dat : t.A → PyData} (sh : Sh t dat) (it : Imm t) : Cv t tAnyO (fun x => (dat x, false)) := fun {x v F m} h => by
  have e := it h
  subst e
  exact fun H s _ => DV.up s (sh h)
theorem cv_anyL {t : Ty} {dat : t.A → PyData} (sh : Sh t dat) : Cv (tOwn t) tAnyO (fun x => (.list (x.map dat), true)) := fun {x v F m} h => by
  obtain ⟨a, vs, e, q, r⟩ := h
  exact ⟨a, .lst vs, emp, e, by rw [q]; exact (sep_emp_l _).comm, .inl ⟨_, vs, rfl, rfl, fun H s _ => DVs.up s (allR_sh sh r)⟩⟩
section
variable {X : Cx} {G : FX} {L : LC} {β : Type} {Γn : β → Ctx} {osn : Os} {Γ : Ctx} {os : Os} {sts : List Stmt}
end
end Mi

namespace Mi
open PySem PySem.Spec PyProof.Rows L2
theorem DVs.length : ∀ {xs : List PyData} {vs : List V} {H : Hp}, DVs xs vs H → vs.length = xs.length
  | [], vs, _, h => by unfold DVs at h; rw [h]; rfl
  | x :: xs, _, _, h => by
    unfold DVs at h
    obtain ⟨v, r, e, _, k⟩ := h
    rw [e, List.length_cons, List.length_cons, k.length]
theorem DVs.snoc : ∀ {xs : List PyData} {vs : List V} {H : Hp} {y : PyData} {u : V}, DVs xs vs H → DV y u H → DVs (xs ++ [y]) (vs ++ [u]) H
  | [], vs, H, y, u, h, k => by
    unfold DVs at h
    subst h
    show DVs [y] [u] H
    unfold DVs
    exact ⟨u, [], rfl, k, by unfold DVs; rfl⟩
  | x :: xs, _, H, y, u, h, k => by
    unfold DVs at h
    obtain ⟨v, r, e, q, z⟩ := h
    subst e
    show DVs (x :: (xs ++ [y])) (v :: (r ++ [u])) H
    unfold DVs
    exact ⟨v, _, rfl, q, z.snoc k⟩
section
variable {X : Cx} {N : List Str} {sc : Scope} {B : List Str} {k : Nat} {Γ : Ctx} {os os' : Os} {pos p p1 p2 p3 cpos apos : Pos} {e a b : Expr} {es : List Expr} {t u : Ty}
def SM.onlyO {os : Os} {i : Nat} {t0 : Ty} {A : Type} (h : OMem os i t0) (p : t0.A → Bool) (m : SM (OT os) A) : SM (OT os) A := fun o => if p (h.get o) = true then m o else none
theorem re_bmOC (xo : XOk X N sc B k) {name nm : Str} {T id : String} {r : V → List V → Hp → VK → Prop} {t0 tc : Ty} {ts : List Ty} {g : t0.A → AT ts → Option (tc.A × t0.A)} {i : Nat} {m : SM (OT os) (AT ts)} {kd : NameKind} {okT : t0.A → Bool}
    (pa : PlainAttrs T) (slot : Slot T name id) (hty : typeOf (.builtin id) = pure (.type "method_descriptor")) (hm : MtR X id r)
    (ht : ∀ {x v F M0 M1 M H}, okT x = true → t0.rep x v F M0 → Sep M0 M1 M → Good F M H → tyV X.K T v H)
    (hv : ∀ {x y z x' v vs F m M1 M H} {Q : VK}, g x y = some (z, x') → t0.rep x v F m → ArgsOk ts y vs F → Sep m M1 M → Good F M H →
      (∀ v' F' m' mm M2 M3 H', Sub F F' → t0.rep x' v F' m' → Sep m' M1 M2 → Sep mm M2 M3 → Good F' M3 H' → tc.rep z v' F' mm → Q v' H') → r v vs H Q)
    (h : OMem os i t0) (jn : Nat) (ha : RA X Γ os (e :: es) ts m)
    (hjb : sc.names[jn]? = some (nm, kd) := by rfl) (hkb : visK kd = true := by rfl) (hN : N[i]? = some nm := by rfl)
    (hbase : attributeBase (.Name nm p) name X.env (eval (.Name nm p) X.env) = eval (.Name nm p) X.env := by rfl) (hline : (apos.endLine == pos.line) = true := by rfl)
    (he : starEach (e :: es) X.env = (false, eval e X.env) :: starEach es X.env := by rfl) (hpl : (backTo pos (starEach es X.env)).any (·.1) = false := by rfl)
    (hfew : ((backTo pos (starEach (e :: es) X.env)).all (fun x => !x.1) && (backToKw pos (keywordEach [] X.env)).all (fun x => x.1.isSome)
      && decide ((e :: es).length + ([] : List Keyword).length + (if ([] : List Keyword).isEmpty then 0 else 1) < 30)) = true := by rfl) :
    RE X Γ os (.Call (.Attribute (.Name nm p) name apos) (e :: es) [] pos) tc (SM.onlyO h okT (SM.bind m fun y => SM.methO h g y)) := by
  intro σ F M R H o W Q tk c w gd q
  refine ⟨_, pe_bm pa slot hty hm (pe_var (by rw [xo.nN]; exact hN) (xo.vs jn nm kd hjb hkb) (xo.db jn nm kd hjb).1 (xo.db jn nm kd hjb).2.1) (pa_best X (e :: es)) hbase hfew hline he hpl, ?_⟩
  obtain ⟨v0, m0, M0, e0, r0, s0, _⟩ := h.at w
  unfold SM.onlyO at q
  by_cases hk : okT (h.get o) = true
  · rw [if_pos hk] at q
    refine ⟨v0, e0, ht hk r0 s0 gd, ?_⟩
    refine args_end ha tk c w gd q fun y o2 vs F2 M2 H2 h2 s2 w2 g2 r2 => ?_
    obtain ⟨v1, m1, M1, e1, r1, s1, up⟩ := h.at w2
    rw [e0] at e1
    cases e1
    unfold SM.methO at h2
    cases hg : g (h.get o2) y with
    | none => rw [hg] at h2; exact h2.elim
    | some z =>
      obtain ⟨z, x'⟩ := z
      rw [hg] at h2
      refine hv hg r1 r2 s1 g2 fun v' F' m' mm M2' M3 H' s' r' q' p' g' rz => ?_
      exact (show NormE os tc σ F R Q z (h.set x' o2) from h2) v' F' M2' mm M3 H' (s2.trans s') (up x' m' M2' F' s' r' q') p' g' rz
  · rw [if_neg hk] at q; exact q.elim
def isGL : PyData × Bool → Bool
  | (.list _, true) => true
  | _ => false
def appAny (x : PyData × Bool) (y : PyData) : Option (Unit × (PyData × Bool)) := match x with
  | (.list xs, true) => if xs.length < sizeLine then some ((), (.list (xs ++ [y]), true)) else none
  | _ => none
theorem anyL_of {x : PyData × Bool} {v : V} {F m : Hp} (h : isGL x = true) (r : AnyR x v F m) : ∃ a xs vs m1, v = .ref a ∧ x = (.list xs, true) ∧ Sep (sing a (.lst vs)) m1 m ∧ ∀ H, SubN F H → Sub m1 H → DVs xs vs H := by
  obtain ⟨d, b⟩ := x
  cases b with
  | false => cases d <;> cases h
  | true =>
    obtain ⟨a, o, m1, e, p, q⟩ := r
    rcases q with ⟨xs, vs, ed, eo, rr⟩ | ⟨ks, kw, ed, eo, rr⟩
    · have ed : d = .list xs := ed
      subst ed eo
      exact ⟨a, xs, vs, m1, e, rfl, p, rr⟩
    · have ed : d = .dict ks := ed
      subst ed
      cases h
theorem re_appendAny (xo : XOk X N sc B k) {nm : Str} {i : Nat} {kd : NameKind} {w : V} {dat : t.A → PyData} (sh : Sh t dat) {m : SM (OT os) (AT [t])} (h : OMem os i (tAt w tAnyO)) (jn : Nat) (ha : RA X Γ os [e] [t] m)
    (hjb : sc.names[jn]? = some (nm, kd) := by rfl) (hkb : visK kd = true := by rfl) (hN : N[i]? = some nm := by rfl)
    (hbase : attributeBase (.Name nm p) "append" X.env (eval (.Name nm p) X.env) = eval (.Name nm p) X.env := by rfl) (hline : (apos.endLine == pos.line) = true := by rfl)
    (he : starEach [e] X.env = (false, eval e X.env) :: starEach [] X.env := by rfl) (hpl : (backTo pos (starEach [] X.env)).any (·.1) = false := by rfl)
    (hfew : ((backTo pos (starEach [e] X.env)).all (fun x => !x.1) && (backToKw pos (keywordEach [] X.env)).all (fun x => x.1.isSome)
      && decide ([e].length + ([] : List Keyword).length + (if ([] : List Keyword).isEmpty then 0 else 1) < 30)) = true := by rfl) :
    RE X Γ os (.Call (.Attribute (.Name nm p) "append" apos) [e] [] pos) tNone (SM.onlyO h isGL (SM.bind m fun y => SM.methO h (fun (x : PyData × Bool) (y : AT [t]) => appAny x (dat y.1)) y)) := by
  refine re_bmOC (t0 := tAt w tAnyO) (ts := [t]) (tc := tNone) (okT := isGL) xo F.plainAttrs_list F.slot_list_append F.type_list_append mt_append (fun {x v F M0 M1 M H} hk r s g => ?_) (fun {x y z x' v vs F m M1 M H Q} e r hy s g q => ?_) h jn ha hjb hkb hN hbase hline he hpl hfew
  · obtain ⟨a, xs, ws, m1, ev, ex, p, rr⟩ := anyL_of hk r.2
    subst ev
    exact .inl ⟨rfl, ws, .inl (.inl (g.m _ _ (s.l _ _ (p.l _ _ sing_same))))⟩
  · have hk : isGL x = true := by
      have e : appAny x (dat y.1) = some (z, x') := e
      obtain ⟨d, b⟩ := x
      cases d <;> cases b <;> first | rfl | cases e
    obtain ⟨a, xs, ws, m1, ev, ex, p, rr⟩ := anyL_of hk r.2
    have ew : v = w := r.1
    obtain ⟨v1, us, e1, r1, e2⟩ := hy
    have e2' : us = [] := e2
    subst e2' e1 ex
    have e' : appAny (.list xs, true) (dat y.1) = some (z, x') := e
    unfold appAny at e'
    have hm1 : Sub m1 H := fun b u z => g.m b u (s.l b u (p.r b u z))
    have dl := (rr H g.fn hm1).length
    by_cases hl : xs.length < sizeLine
    · have e' : some ((), (PyData.list (xs ++ [dat y.1]), true)) = some (z, x') := by rw [← e']; exact (if_pos hl).symm
      cases e'
      subst ev
      refine ⟨a, ws, v1, rfl, rfl, g.m _ _ (s.l _ _ (p.l _ _ sing_same)), by rw [dl]; exact hl, ?_⟩
      obtain ⟨G, g1, g2⟩ := p.comm.assoc s.comm
      obtain ⟨G1, q1, q2⟩ := p.assoc s.comm
      obtain ⟨M2, s2, gg⟩ := g.set (o' := .lst (ws ++ [v1])) q2
      obtain ⟨G2, q3, q4⟩ := q1.assoc s2
      exact q .non F G2 emp M2 M2 _ (.refl F) ⟨ew, a, .lst (ws ++ [v1]), m1, rfl, q3, .inl ⟨_, _, rfl, rfl, fun H2 f2 t2 => (rr H2 f2 t2).snoc (DV.up f2 (sh r1))⟩⟩ q4.comm (sep_emp_l M2) gg ⟨rfl, rfl⟩
    · have e' : (none : Option (Unit × (PyData × Bool))) = some (z, x') := by rw [← e']; exact (if_neg hl).symm
      cases e'
end
end Mi

namespace Mi
open PySem PySem.Spec PyProof.Rows L2
def AnyMs : List (PyData × Bool) → List V → Hp → Hp → Prop
  | [], vs, _, m => vs = [] ∧ m = emp
  | x :: xs, vs, F, m => ∃ v us m1 m2, vs = v :: us ∧ AnyR x v F m1 ∧ AnyMs xs us F m2 ∧ Sep m1 m2 m
theorem AnyMs.mono : ∀ {xs : List (PyData × Bool)} {vs : List V} {F F' m : Hp}, AnyMs xs vs F m → Sub F F' → AnyMs xs vs F' m
  | [], _, _, _, _, h, _ => h
  | _ :: _, _, _, _, _, ⟨v, us, m1, m2, e, r, k, s⟩, h => ⟨v, us, m1, m2, e, r.mono h, k.mono h, s⟩
theorem AnyMs.length : ∀ {xs : List (PyData × Bool)} {vs : List V} {F m : Hp}, AnyMs xs vs F m → vs.length = xs.length
  | [], _, _, _, h => by rw [h.1]; rfl
  | _ :: _, _, _, _, ⟨v, us, m1, m2, e, r, k, s⟩ => by rw [e, List.length_cons, List.length_cons, k.length]
theorem AnyMs.get : ∀ {xs : List (PyData × Bool)} {vs : List V} {F m : Hp} {j : Nat} {x : PyData × Bool}, AnyMs xs vs F m → xs[j]? = some x → ∃ v m1, vs[j]? = some v ∧ AnyR x v F m1 ∧ Sub m1 m
  | [], _, _, _, _, _, _, e => by simp at e
  | y :: xs, _, _, _, 0, x, ⟨v, us, m1, m2, e, r, k, s⟩, q => by
    have q : y = x := by simpa using q
    subst q e
    exact ⟨v, m1, rfl, r, s.l⟩
  | y :: xs, _, _, _, j + 1, x, ⟨v, us, m1, m2, e, r, k, s⟩, q => by
    have q : xs[j]? = some x := by simpa using q
    obtain ⟨u, m3, e1, r1, s1⟩ := k.get q
    subst e
    exact ⟨u, m3, by simpa using e1, r1, s1.trans s.r⟩
theorem AnyMs.at {xs : List (PyData × Bool)} {vs : List V} {F m : Hp} {i : Int} {x : PyData × Bool} (h : AnyMs xs vs F m) (e : atI xs i = some x) : ∃ v m1, atI vs i = some v ∧ AnyR x v F m1 ∧ Sub m1 m := by
  unfold atI at e ⊢
  rw [h.length]
  cases q : ixN xs.length i with
  | none => rw [q] at e; cases e
  | some j =>
    rw [q] at e
    exact h.get e
def tAnyL : Ty := ⟨List (PyData × Bool), fun xs v F m => ∃ a vs m1, v = .ref a ∧ Sep (sing a (.lst vs)) m1 m ∧ AnyMs xs vs F m1, fun ⟨a, vs, m1, e, p, r⟩ s => ⟨a, vs, m1, e, p, r.mono s⟩⟩
section
variable {X : Cx} {L : LC} {N : List Str} {sc : Scope} {B : List Str} {k : Nat} {Γ : Ctx} {os os' osn : Os} {β : Type} {Γn : β → Ctx} {pos p p1 p2 p3 cpos apos : Pos} {e a b : Expr} {es : List Expr} {t u : Ty}
def NormN (os : Os) (es : List Expr) (σ : L2.St) (F R : Hp) (Q : List V → Hp → Prop) (x : List (PyData × Bool)) (o : OT os) : Prop :=
  ∀ vs F' M1 m M' H', Sub F F' → OwnOk os o σ F' M1 R → Sep m M1 M' → Good F' M' H' → AnyMs x vs F' m → vs.length = es.length → Q vs H'
def RAN (X : Cx) (Γ : Ctx) (os : Os) (es : List Expr) (m : SM (OT os) (List (PyData × Bool))) : Prop :=
  ∀ (σ : L2.St) (F M R H : Hp) (o : OT os) (W : WX) (Q : List V → Hp → Prop), Takes X W → CtxOk Γ σ F → OwnOk os o σ F M R → Good F M H →
    Want (m o) (NormN os es σ F R Q) (ExcE X os σ F R W) → bestA X es σ H Q
theorem ran_nil : RAN X Γ os [] (SM.ret []) := fun σ F M R H o W Q tk c w g q => ⟨_, pa_nil, q [] F M emp M H (.refl F) w (sep_emp_l M) g ⟨rfl, rfl⟩ rfl⟩
theorem ran_cons {m : SM (OT os) (PyData × Bool)} {n : SM (OT os) (List (PyData × Bool))} (h : RE X Γ os e tAnyO m) (hr : RAN X Γ os es n)
    (he : starEach (e :: es) X.env = (false, eval e X.env) :: starEach es X.env := by rfl) : RAN X Γ os (e :: es) (SM.bind m fun x => SM.bind n fun y => SM.ret (x :: y)) := by
  intro σ F M R H o W Q tk c w g q
  refine ⟨_, pa_cons (pe_best X e) (pa_best X es) he, h σ F M R H o W _ tk c w g (q.bind.imp (fun x o1 z => ?_) fun _ _ z => z)⟩
  intro v F' M1 mm M' H' s w' p' g' r
  obtain ⟨R2, pR, w2⟩ := w'.frame p'
  refine hr σ F' M' R2 H' o1 W _ tk (c.mono s) w2 g' (z.bind.imp (fun y o2 z => ?_) fun ex o2 z => ?_)
  · intro us F2 M3 m2 M2 H2 s2 w3 p2 g2 r2 l2
    obtain ⟨M4, p4, w4⟩ := OwnOk.unframe w3 pR
    obtain ⟨G, g1, g3⟩ := p4.assoc p2
    obtain ⟨G2, g4, g5⟩ := g1.comm.assoc g3
    exact z (v :: us) F2 M4 G2 M2 H2 (s.trans s2) w4 g5.comm g2 ⟨v, us, mm, m2, rfl, (show AnyR x v F' mm from r).mono s2, r2, g4⟩ (by rw [List.length_cons, List.length_cons, l2])
  · intro cls d F2 M2 H2 s2 w3 g2 x2
    obtain ⟨M4, p4, w4⟩ := OwnOk.unframe w3 pR
    exact (show ExcE X os σ F R W ex o2 from z) cls d F2 M4 H2 (s.trans s2) w4 (g2.less p4.r) x2
theorem re_listAny {m : SM (OT os) (List (PyData × Bool))} (h : RAN X Γ os es m) (hl : es.length ≤ 1000 := by exact by decide) : RE X Γ os (.List es pos) tAnyL m := by
  intro σ F M R H o W Q tk c w g q
  refine ⟨_, pe_lst (pa_best X es), h σ F M R H o W _ tk c w g (q.imp (fun xs o1 z => ?_) fun _ _ z => z)⟩
  intro vs F' M1 m M' H' s w' p' g' r l
  refine ⟨Nat.le_of_lt (small1000 (by omega)), fun p hp => ?_⟩
  obtain ⟨g2, s2⟩ := g'.newM (o := .lst vs) hp
  obtain ⟨G, q1, q2⟩ := p'.comm.assoc s2
  exact z (.ref p) F' M1 G _ _ s w' q2.comm g2 ⟨p, vs, m, rfl, q1, r⟩
def retIx {G : FX} (h : OSel os i tAnyL os') (hS : OSub os' G.ps) (n : SM (OT os) Int) (f : (PyData × Bool) → G.tr.A) : OT os → OutT G L β osn := fun o => match n o with
  | none => none
  | some (.ok k, o1) => match atI (h.get o1) k with
    | some x => some (.ret (f x) (hS.map (h.rest o1)))
    | none => none
  | some (.error ex, o1) => some (.exc ex (hS.map (h.rest o1)))
theorem rs_retIx (xo : XOk X N sc B k) {kp : List Nat} {ps : Os} {i j : Nat} {nm : Str} {kd : NameKind} {n : SM (OT os) Int} (h : OSel os i tAnyL os') (hS : OSub os' ps) (hb : RE X Γ os e tInt n)
    (hj : sc.names[j]? = some (nm, kd) := by rfl) (hk : visK kd = true := by rfl) (hN : N[i]? = some nm := by rfl) (hs : PlainIx e := by exact fun _ _ => rfl) :
    RS X ⟨kp, ps, tAnyO⟩ L Γ os (.Return (some (.Subscript (.Name nm p) e p2)) pos) Γn osn (retIx (G := ⟨kp, ps, tAnyO⟩) h hS n fun x => x) := by
  intro σ F M R H o W D tk c w g q
  obtain ⟨v, m0, M', e0, r0, s0, w0⟩ := h.own w
  obtain ⟨d1, d2, _⟩ := xo.db j nm kd hj
  refine ⟨_, ps_ret (pe_ix ix_list (pe_var (by rw [xo.nN]; exact hN) (xo.vs j nm kd hj hk) d1 d2) (pe_best X e) hs), v, e0, ?_⟩
  have q' : WantS X ⟨kp, ps, tAnyO⟩ L Γn osn σ F R W D (retIx (G := ⟨kp, ps, tAnyO⟩) h hS n (fun x => x) o) := q
  unfold retIx at q'
  refine hb σ F M R H o W _ tk c w g ?_
  cases en : n o with
  | none => rw [en] at q'; exact q'.elim
  | some z =>
    obtain ⟨z, o1⟩ := z
    rw [en] at q'
    cases z with
    | error ex =>
      intro cls d F' M' H' s1 w1 g1 x1
      obtain ⟨v1, m1, M1, e1, r1, s2, w2⟩ := h.own w1
      obtain ⟨M0, s3, w3⟩ := hS.own w2
      exact (show ExcS X ⟨kp, ps, tAnyO⟩ σ F R W ex (hS.map (h.rest o1)) from q') cls d σ F' M0 H' s1 .refl w3 (g1.less (s3.trans s2.r)) x1
    | ok kk =>
      intro u F' M1 mm M' H' s1 w1 p1 g1 ru
      obtain ⟨em, ru⟩ := ru
      have q2 : WantS X ⟨kp, ps, tAnyO⟩ L Γn osn σ F R W D (match atI (h.get o1) kk with
        | some x => some (.ret x (hS.map (h.rest o1)))
        | none => none) := q'
      cases ea : atI (h.get o1) kk with
      | none => rw [ea] at q2; exact q2.elim
      | some x =>
        rw [ea] at q2
        obtain ⟨v1, m1, M2, e1, r1, s2, w2⟩ := h.own w1
        rw [e0] at e1
        cases e1
        obtain ⟨a, vs, m3, ev, p3, rm⟩ := r1
        obtain ⟨y, m4, ey, ry, s4⟩ := rm.at ea
        have ha : H' a = some (.lst vs) := g1.m _ _ (p1.r _ _ (s2.l _ _ (p3.l _ _ sing_same)))
        refine ⟨a, vs, kk, y, ev, ru, .inl (.inl ha), ey, ?_⟩
        obtain ⟨M0, s3, w3⟩ := hS.own w2
        have sm : Sub m4 m1 := s4.trans p3.r
        refine (show RetS ⟨kp, ps, tAnyO⟩ σ F R D.rt x (hS.map (h.rest o1)) from q2) y σ F' M0 m4 (uni m4 M0) H' s1 .refl w3 (sep_mk fun b => ?_) (g1.less fun b u hh => ?_) ry
        · rcases s2.dis b with z | z
          · exact .inl (sm.none z)
          · exact .inr (s3.none z)
        · cases yb : m4 b with
          | some u' => rw [uni_l yb] at hh; exact p1.r b u (s2.l b u (by rw [← hh]; exact sm b u' yb))
          | none => rw [uni_r yb] at hh; exact p1.r b u (s2.r b u (s3 b u hh))
end
end Mi

namespace Mi
open PySem PySem.Spec PyProof.Rows L2
def leafPD : V → Option PyData
  | .non => some .none
  | .bl b => some (.bool b)
  | .int i => some (.int i)
  | .str s => some (.str s)
  | _ => none
theorem leafPD_at {u : V} {y : PyData} {F : Hp} (e : leafPD u = some y) : DV y u F := by
  cases u <;> first | (cases e; done) | (cases e; unfold DV; rfl)
open Classical in
noncomputable def knW (x : V × PyData) (u : V) : Option PyData := if u = x.1 then some x.2 else leafPD u
theorem knW_at {w : V} {d : PyData} {F : Hp} (h : DV d w F) {u : V} {y : PyData} (e : knW (w, d) u = some y) : DV y u F := by
  unfold knW at e
  by_cases z : u = w
  · rw [if_pos z] at e
    cases e
    rw [z]; exact h
  · rw [if_neg z] at e
    exact leafPD_at e
noncomputable def knL (x : V × PyData) : List V → Option (List PyData)
  | [] => some []
  | u :: us => match knW x u, knL x us with
    | some y, some ys => some (y :: ys)
    | _, _ => none
theorem knL_at {w : V} {d : PyData} {F : Hp} (h : DV d w F) : ∀ {us : List V} {vs : List V} {ys : List PyData}, AllR tV us vs F → knL (w, d) us = some ys → AllR tPD ys vs F
  | [], vs, ys, r, e => by
    cases e
    have r : vs = [] := r
    rw [r]; rfl
  | u :: us, vs, ys, r, e => by
    obtain ⟨v, vs', ev, r1, r2⟩ := r
    unfold knL at e
    cases e1 : knW (w, d) u with
    | none => rw [e1] at e; cases e
    | some y =>
      cases e2 : knL (w, d) us with
      | none => rw [e1, e2] at e; cases e
      | some ys' =>
        rw [e1, e2] at e
        cases e
        refine ⟨v, vs', ev, ⟨rfl, ?_⟩, knL_at h r2 e2⟩
        have hv : v = u := r1.2
        rw [hv]
        exact knW_at h e1
section
variable {X : Cx} {N : List Str} {sc : Scope} {B : List Str} {k : Nat} {Γ : Ctx} {os : Os} {pos p : Pos} {e : Expr}
end
end Mi

namespace Mi
open PySem PySem.Spec PyProof.Rows L2
def keyNe (k : List Nat) : PyData → Bool
  | .str s => decide (s ≠ sOf k)
  | _ => true
theorem DKs.length : ∀ {ks : List (PyData × PyData)} {kw : List (Key × V)} {H : Hp}, DKs ks kw H → kw.length = ks.length
  | [], _, _, h => by unfold DKs at h; rw [h]; rfl
  | (k, x) :: xs, _, _, h => by
    unfold DKs at h
    obtain ⟨s, v, r, e, _, _, z⟩ := h
    rw [e, List.length_cons, List.length_cons, z.length]
theorem DKs.snoc {k : List Nat} {y : PyData} {u : V} : ∀ {ks : List (PyData × PyData)} {kw : List (Key × V)} {H : Hp}, DKs ks kw H → DV y u H → DKs (ks ++ [(.str (sOf k), y)]) (kw ++ [(.inr (sOf k), u)]) H
  | [], kw, H, h, q => by
    unfold DKs at h
    subst h
    show DKs [(.str (sOf k), y)] [(.inr (sOf k), u)] H
    unfold DKs
    exact ⟨sOf k, u, [], rfl, rfl, q, by unfold DKs; rfl⟩
  | (k2, x) :: xs, _, H, h, q => by
    unfold DKs at h
    obtain ⟨s, v, r, e, e2, z, w⟩ := h
    subst e
    show DKs ((k2, x) :: (xs ++ [(.str (sOf k), y)])) ((.inr s, v) :: (r ++ [(.inr (sOf k), u)])) H
    unfold DKs
    exact ⟨s, v, _, rfl, e2, z, w.snoc q⟩
theorem DKs.new {k : List Nat} : ∀ {ks : List (PyData × PyData)} {kw : List (Key × V)} {H : Hp}, DKs ks kw H → (ks.all fun z => keyNe k z.1) = true → kw.any (fun z => decide (z.1 = .inr (sOf k))) = false
  | [], kw, H, h, _ => by unfold DKs at h; rw [h]; rfl
  | (k2, x) :: xs, _, H, h, a => by
    unfold DKs at h
    obtain ⟨s, v, r, e, e2, z, w⟩ := h
    subst e e2
    rw [List.all_cons, Bool.and_eq_true] at a
    have n : s ≠ sOf k := of_decide_eq_true a.1
    rw [List.any_cons, w.new a.2, Bool.or_false]
    exact decide_eq_false fun q => n (Sum.inr.inj q)
def putAny (x : PyData × Bool) (k : List Nat) (y : PyData) : Option (PyData × Bool) := match x with
  | (.dict ks, true) => if ks.length < sizeLine ∧ (ks.all fun z => keyNe k z.1) = true then some (.dict (ks ++ [(.str (sOf k), y)]), true) else none
  | _ => none
theorem anyD_of {d : PyData} {b : Bool} {k : List Nat} {y : PyData} {x' : PyData × Bool} {v : V} {F m : Hp} (h : putAny (d, b) k y = some x') (r : AnyR (d, b) v F m) : ∃ a ks kw m1, v = .ref a ∧ d = .dict ks ∧ b = true ∧ ks.length < sizeLine ∧ (ks.all fun z => keyNe k z.1) = true ∧ x' = (.dict (ks ++ [(.str (sOf k), y)]), true) ∧ Sep (sing a (.dK kw)) m1 m ∧ ∀ H, SubN F H → Sub m1 H → DKs ks kw H := by
  unfold putAny at h
  cases b with
  | false => cases d <;> cases h
  | true =>
    cases d with
    | dict ks =>
      have h : (if ks.length < sizeLine ∧ (ks.all fun z => keyNe k z.1) = true then some (PyData.dict (ks ++ [(.str (sOf k), y)]), true) else none) = some x' := h
      by_cases c : ks.length < sizeLine ∧ (ks.all fun z => keyNe k z.1) = true
      · rw [if_pos c] at h
        cases h
        obtain ⟨a, o, m1, e, p, q⟩ := r
        rcases q with ⟨xs, vs, ed, _⟩ | ⟨ks2, kw, ed, eo, rr⟩
        · cases ed
        · have ed : PyData.dict ks = .dict ks2 := ed
          cases ed
          subst eo
          exact ⟨a, ks, kw, m1, e, rfl, rfl, c.1, c.2, rfl, p, rr⟩
      · rw [if_neg c] at h; cases h
    | _ => cases h
section
variable {X : Cx} {N : List Str} {sc : Scope} {B : List Str} {k : Nat} {Γ : Ctx} {os os' : Os} {pos p p1 p2 p3 cpos apos : Pos} {e a b : Expr} {es : List Expr} {t u : Ty}
variable {G : FX} {L : LC} {β : Type} {Γn : β → Ctx} {osn : Os} {rest : List Stmt}
theorem rb_setAny (xo : XOk X N sc B k) (hS : OSub os G.ps) {i : Nat} {w0 : V} {dat : t.A → PyData} (sh : Sh t dat) (h : OMem os i (tAt w0 tAnyO)) (jn : Nat) {nm : Str} {kd : NameKind} {me : SM (OT os) t.A} {mi : SM (OT os) (List Nat)} {kk : OT os → OutT G L β osn} (it : Imm t) (he : RE X Γ os e t me) (hi : RE X Γ os a tStr mi) (hk : RB X G L Γ os rest Γn osn kk)
    (hjb : sc.names[jn]? = some (nm, kd) := by rfl) (hkb : visK kd = true := by rfl) (hN : N[i]? = some nm := by rfl)
    (hs : swapsWithSole [.Subscript (.Name nm p) a p2] e pos.line X.env = pure false := by rfl) (hw : swappedStores [.Subscript (.Name nm p) a p2] e X.env = pure none := by rfl)
    (h1 : (assignEach [.Subscript (.Name nm p) a p2] X.env).map (·.2) = [assign (.Subscript (.Name nm p) a p2) X.env] := by rfl)
    (ha : ∀ v, assign (.Subscript (.Name nm p) a p2) X.env v = (do
      let ov ← holding [v] (eval (.Name nm p) X.env)
      let iv ← holding [v, ov] (eval a X.env)
      standAt p2
      holding [v, ov, iv] (setItem ov iv v)
      release [v, ov, iv] []) := by intro _; rfl) :
    RB X G L Γ os (.Assign [.Subscript (.Name nm p) a p2] e pos :: rest) Γn osn (fun o => bindX hS (me o) fun x o => bindX hS (mi o) fun y o => match putAny (h.get o) y (dat x) with
      | some z => kk (h.set z o)
      | none => none) := by
  intro σ F M R H o W D tk c w g q
  refine ⟨_, pss_cons (ps_asg (pe_best X e) (pg_sub (pe_var (by rw [xo.nN]; exact hN) (xo.vs jn nm kd hjb hkb) (xo.db jn nm kd hjb).1 (xo.db jn nm kd hjb).2.1) (pe_best X a) (set_dict (hu1 xo)) ha) hs hw h1) (pss_best X rest), ?_⟩
  refine he σ F M R H o W _ tk c w g (q.bindX.imp (fun x o1 z => ?_) fun _ _ z => z)
  intro v F1 M1 mm M1' H1 s1 w1 p1 g1 r1
  have e := it r1; subst e
  have e := p1.emp_l; subst e
  obtain ⟨v0, m0, M0, e0, r0, s0, _⟩ := h.at w1
  refine ⟨v0, e0, ?_⟩
  refine hi σ F1 _ R H1 o1 W _ tk (c.mono s1) w1 g1 ((WantS.bindX z).imp (fun y o2 z2 => ?_) fun _ _ z => z.mono s1)
  intro v' F2 M2 mm2 M2' H2 s2 w2 p2 g2 r2
  obtain ⟨e, ey⟩ := r2
  subst e
  have e := p2.emp_l; subst e
  obtain ⟨v1, m1, M3, e1, rr1, s3, up⟩ := h.at w2
  rw [e0] at e1
  cases e1
  have z2' : WantS X G L Γn osn σ F R W D (match putAny (h.get o2) y (dat x) with
      | some z => kk (h.set z o2)
      | none => none) := z2
  obtain ⟨xx, hxx⟩ : ∃ xx : PyData × Bool, xx = h.get o2 := ⟨_, rfl⟩
  have rx : AnyR xx v0 F2 m1 := by rw [hxx]; exact rr1.2
  rw [← hxx] at z2'
  obtain ⟨d, bb⟩ := xx
  cases hp : putAny (d, bb) y (dat x) with
  | none => rw [hp] at z2'; exact z2'.elim
  | some x' =>
    rw [hp] at z2'
    obtain ⟨a, ks, kw, m2, ev, ed, eb, hl, hn, e', p3, dk⟩ := anyD_of hp rx
    subst ev
    have hH : H2 a = some (.dK kw) := g2.m _ _ (s3.l _ _ (p3.l _ _ sing_same))
    have hm2 : Sub m2 H2 := fun b u z => g2.m b u (s3.l b u (p3.r b u z))
    have dk2 := dk H2 g2.fn hm2
    refine ⟨a, _, rfl, .inl ⟨kw, .inr (sOf y), hH, ey, by rw [dk2.length]; exact hl, rfl⟩, ?_⟩
    have ep : putK kw (.inr (sOf y)) v = kw ++ [(.inr (sOf y), v)] := by
      unfold putK
      rw [if_neg (by rw [dk2.new hn]; exact fun z => nomatch z)]
    obtain ⟨G1, q1, q2⟩ := p3.assoc s3.comm
    obtain ⟨M4, s4, g4⟩ := g2.set (o' := .dK (putK kw (.inr (sOf y)) v)) q2
    obtain ⟨G2, q3, q4⟩ := q1.assoc s4
    exact hk σ F2 M4 R _ _ W D tk (c.mono (s1.trans s2)) (up x' G2 M4 F2 (.refl F2) ⟨rr1.1, by rw [e']; exact ⟨a, _, m2, rfl, q3, .inr ⟨_, _, rfl, rfl, fun H3 f3 t3 => by rw [ep]; exact (dk H3 f3 t3).snoc (DV.up f3 (sh (t.mono r1 s2)))⟩⟩⟩ q4.comm) g4 (z2'.mono (s1.trans s2) .refl)
end
end Mi

namespace Mi
open PySem PySem.Spec PyProof.Rows L2
section
variable {X : Cx} {G : FX} {L : LC} {β : Type} {Γn : β → Ctx} {osn : Os} {Γ : Ctx} {os : Os} {sts : List Stmt}
end
section
variable {X : Cx} {N : List Str} {sc : Scope} {B : List Str} {k : Nat} {Γ : Ctx} {os os' : Os} {pos p p1 p2 p3 lp cpos apos : Pos} {e a b : Expr} {es : List Expr} {t u : Ty}
theorem ctx_at {σ : L2.St} {F : Hp} {i : Nat} {v : V} {x : t.A} (c : CtxOk Γ σ F) (e0 : σ[i]? = some (some v)) (r : t.rep x v F emp) : CtxOk (Γ.set i (some ⟨t, x⟩)) σ F := by
  have c3 := c.set (i := i) (t := t) (x := x) (v := v) r
  have e3 : σ.set i (some v) = σ := by
    apply List.ext_getElem?
    intro j
    by_cases hj : j = i
    · subst hj
      have hl : j < σ.length := (List.getElem?_eq_some_iff.mp e0).1
      rw [List.getElem?_set_self hl, e0]
    · rw [List.getElem?_set_ne (Ne.symm hj)]
  rw [e3] at c3
  exact c3
end
end Mi

namespace Mi
open PySem PySem.Spec PyProof.Rows L2
section
variable {X : Cx} {Γ : Ctx} {os : Os} {pos p : Pos} {e : Expr}
end
def pdIsLst : PyData → Bool
  | .list _ => true
  | _ => false
theorem kit_pdLst : ∀ x, kitB (pdTy x) "list" = some (pdIsLst x) := by
  intro x
  cases x with
  | none => show kitB "NoneType" "list" = some false; decide +kernel
  | bool b => show kitB "bool" "list" = some false; decide +kernel
  | int i => show kitB "int" "list" = some false; decide +kernel
  | str s => show kitB "str" "list" = some false; decide +kernel
  | list xs => show kitB "list" "list" = some true; decide +kernel
  | tuple xs => show kitB "tuple" "list" = some false; decide +kernel
  | dict xs => show kitB "dict" "list" = some false; decide +kernel
def pdIsDct : PyData → Bool
  | .dict _ => true
  | _ => false
theorem kit_pdDct : ∀ x, kitB (pdTy x) "dict" = some (pdIsDct x) := by
  intro x
  cases x with
  | none => show kitB "NoneType" "dict" = some false; decide +kernel
  | bool b => show kitB "bool" "dict" = some false; decide +kernel
  | int i => show kitB "int" "dict" = some false; decide +kernel
  | str s => show kitB "str" "dict" = some false; decide +kernel
  | list xs => show kitB "list" "dict" = some false; decide +kernel
  | tuple xs => show kitB "tuple" "dict" = some false; decide +kernel
  | dict xs => show kitB "dict" "dict" = some true; decide +kernel
end Mi

namespace Mi
open PySem PySem.Spec PyProof.Rows L2
section
variable {X : Cx} {G : FX} {L : LC} {β α : Type} {Γ : Ctx} {os osE : Os} {t : Ty} {pos : Pos}
end
end Mi

namespace Mi
open PySem PySem.Spec PyProof.Rows L2
section
variable {X : Cx} {Γ : Ctx} {os : Os} {pos p1 p2 p3 : Pos} {e : Expr} {t : Ty}
end
end Mi

namespace Mi
open PySem PySem.Spec PyProof.Rows L2
section
variable {X : Cx} {N : List Str} {sc : Scope} {B : List Str} {k : Nat} {Γ : Ctx} {os os' : Os} {pos p p1 p2 p3 cpos apos : Pos} {e a b : Expr} {es : List Expr} {t u : Ty} {C : Addr} {fs : Flds}
end
end Mi

namespace Mi
open PySem PySem.Spec PyProof.Rows L2
section
variable {X : Cx} {G : FX} {L : LC} {β : Type} {Γn : β → Ctx} {osn : Os} {Γ : Ctx} {os : Os} {sts : List Stmt} {t : Ty}
end
end Mi

namespace Mi
open PySem PySem.Spec PyProof.Rows L2
theorem cv_anyD {t : Ty} {dat : t.A → PyData} (sh : Sh t dat) : Cv (tOwnD t) tAnyO (fun x => (.dict (x.map (kvD dat)), true)) := fun {x v F m} h => by
  obtain ⟨a, kvs, e, q, r⟩ := h
  exact ⟨a, .dK kvs, emp, e, by rw [q]; exact (sep_emp_l _).comm, .inr ⟨_, _, rfl, rfl, fun H s _ => DKs.up s (kvR_sh sh r)⟩⟩
section
variable {X : Cx} {N : List Str} {sc : Scope} {B : List Str} {k : Nat} {Γ : Ctx} {os os' : Os} {pos p p1 p2 p3 lp cpos apos : Pos} {e a b : Expr} {es : List Expr} {t u : Ty}
end
abbrev tOwnN (t : Ty) : Ty := ⟨List t.A, fun x v F m => ∃ a vs, v = .ref a ∧ m = sing a (.lst vs) ∧ AllR t x vs F ∧ a ≠ sysModules, fun ⟨a, vs, e, q, r, n⟩ s => ⟨a, vs, e, q, r.mono s, n⟩⟩
theorem fl_ownN {t : Ty} (ft : Fl t) : Fl (tOwnN t) := fun ⟨a, vs, e, q, r, n⟩ => ⟨a, vs, e, q, allR_fl ft r, n⟩
theorem frz_ownN {t : Ty} : Frz (tOwnN t) (tLstN t) id := fun {x v F m} ⟨a, vs, e, q, r, n⟩ d => by
  subst q
  exact ⟨rfl, a, vs, e, uni_l sing_same, r.mono (sub_uni d), n⟩
section
variable {X : Cx} {N : List Str} {sc : Scope} {B : List Str} {k : Nat} {Γ : Ctx} {os os' : Os} {pos p p1 p2 p3 lp cpos apos : Pos} {e a b : Expr} {es : List Expr} {t u : Ty}
theorem re_listNO {m : SM (OT os) (List t.A)} (h : RAL X Γ os es t m) (hl : es.length ≤ 1000 := by exact by decide) : RE X Γ os (.List es pos) (tOwnN t) m := by
  intro σ F M R H o W Q tk c w g q
  refine ⟨_, pe_lstN (pa_best X es), h σ F M R H o W _ tk c w g (q.imp (fun xs o1 z => ?_) fun _ _ z => z)⟩
  intro vs F' M' H' s w' g' r l
  refine ⟨Nat.le_of_lt (small1000 (by omega)), fun p hp hn => ?_⟩
  obtain ⟨g2, s2⟩ := g'.newM (o := .lst vs) hp
  exact z (.ref p) F' M' (sing p (.lst vs)) _ _ s w' s2 g2 ⟨p, vs, rfl, rfl, r, hn⟩
theorem re_knownN {i : Nat} {x : V × PyData} {m : SM (OT os) (List V)} (hΓ : Γ[i]? = some (some ⟨tRaw, x⟩)) (h : RE X Γ os e (tLstN tV) m) : RE X Γ os e (tLstN tPD) (SM.bind m fun us => SM.lift (knL x us)) := fun σ F M R H o W Q tk c w g q => by
  obtain ⟨v0, e0, r0⟩ := c.2 i tRaw x hΓ
  have r0' : DV x.2 x.1 F := by
    have := r0.2.2
    rw [r0.2.1] at this
    exact this
  refine h σ F M R H o W Q tk c w g (q.bind.imp (fun us o1 z v F' M1 mm M' H' s a b c d => ?_) fun _ _ z => z)
  unfold SM.lift at z
  cases ef : knL x us with
  | none => rw [ef] at z; exact z.elim
  | some ys =>
    rw [ef] at z
    obtain ⟨em, ad, vs, ev, fa, r, hn⟩ := d
    exact (show NormE os (tLstN tPD) σ F R Q ys o1 from z) v F' M1 mm M' H' s a b c ⟨em, ad, vs, ev, fa, knL_at (w := x.1) (d := x.2) (DV.up s.n r0') r ef, hn⟩
def reprX (ds : List PyData) : Option (List Nat) := match reprL ds with
  | some l => some l
  | none => reprO okG (.list ds)
theorem re_reprX (gd : X.A.guards = some []) (xo : XOk X N sc B k) {dat : t.A → PyData} (sh : Sh t dat) {m : SM (OT os) (AT [tLstN t])} (ga ma : Nat) (ha : RA X Γ os [e] [tLstN t] m) (hg : sc.names[ga]? = some (gI "repr") := by rfl) (hm : B[ma]? = some "repr" := by rfl)
    (he : starEach [e] X.env = (false, eval e X.env) :: starEach [] X.env := by rfl) :
    RE X Γ os (.Call (.Name "repr" p) [e] [] pos) tStr (SM.bind m fun x => SM.lift (reprX (x.1.map dat))) := by
  refine re_callB (ts := [tLstN t]) (tc := tStr) (f := fun x => reprX (x.1.map dat)) (r := fun xs H Q => rReprN xs H Q ∨ rRepr (fun d => isLeaf d = true ∨ d.hasDict = false ∨ dOnly d = true) xs H Q) (fun pins s σ H xs us Q I r h => ?_) (fun {x z vs F M H Q} e h g q => ?_) (xo.gl ga _ hg) (xo.fr ma _ hm) boot_repr ha (by decide) (by decide) he rfl
  · rcases h with h | h
    · exact call_reprN gd (by have := xo.room.un; omega) pins s σ H xs us Q I r h
    · exact call_reprG gd (by have := xo.room.un; omega) pins s σ H xs us Q I r h
  · have e : reprX (x.1.map dat) = some z := e
    unfold reprX at e
    cases er : reprL (x.1.map dat) with
    | some l =>
      rw [er] at e
      cases e
      exact .inl (v_reprN sh (x := x) er h g q)
    | none =>
      rw [er] at e
      have e : reprO okG (.list (x.1.map dat)) = some z := e
      obtain ⟨v, us, e1, ⟨em, a, ws, ev, fa, ra, hn⟩, e2⟩ := h
      exact .inr (v_repr (t := tLst t) (sh_lst sh) im_lst (okB := okG) (ok := fun d => isLeaf d = true ∨ d.hasDict = false ∨ dOnly d = true) (fun d hd => by
        unfold okG at hd
        simp only [Bool.or_eq_true, Bool.not_eq_true'] at hd
        rcases hd with (hd | hd) | hd
        · exact .inl hd
        · exact .inr (.inl hd)
        · exact .inr (.inr hd)) (x := x) e ⟨v, us, e1, ⟨em, a, ws, ev, fa, ra⟩, e2⟩ g q)
end
end Mi

namespace Mi
open PySem PySem.Spec PyProof.Rows L2
section
variable {X : Cx} {N : List Str} {sc : Scope} {B : List Str} {k : Nat} {Γ : Ctx} {os os' : Os} {pos p p1 p2 p3 lp cpos apos : Pos} {e a b : Expr} {es : List Expr} {t u : Ty}
end
end Mi

namespace Mi
open PySem PySem.Spec PyProof.Rows L2
section
variable {M : Md} {x qual : Str} {params : Arguments} {body : List Stmt} {scope : Scope} {f : Addr} {fd : FuncData} {N ps : List Str} {B : List Str} {k : Nat}
end
section
variable {X : Cx} {N : List Str} {sc : Scope} {B : List Str} {k : Nat} {Γ : Ctx} {os os' : Os} {pos p : Pos} {e ea : Expr} {es : List Expr}
end
theorem cv_rawStr : Cv tStr tRaw (fun s => (V.str (sOf s), PyData.str (sOf s))) := fun h => ⟨h.1, h.2, by have e := h.2; subst e; unfold DV; rfl⟩
end Mi

namespace Mi
open PySem PySem.Spec PyProof.Rows L2
section
variable {X : Cx} {N : List Str} {sc : Scope} {B : List Str} {k : Nat} {Γ : Ctx} {os : Os} {pos p : Pos} {e e2 : Expr} {es : List Expr} {C : Addr} {fs : Flds}
end
end Mi

namespace Mi
open PySem PySem.Spec PyProof.Rows L2
def okW : PyData → V → Prop
  | .none, w => w = .non
  | .bool b, w => w = .bl b
  | .int i, w => w = .int i
  | .str s, w => w = .str s
  | _, w => ∃ a, w = .ref a
theorem okW_ex : ∀ d : PyData, ∃ w, okW d w
  | .none => ⟨_, rfl⟩
  | .bool _ => ⟨_, rfl⟩
  | .int _ => ⟨_, rfl⟩
  | .str _ => ⟨_, rfl⟩
  | .list _ => ⟨.ref 0, 0, rfl⟩
  | .tuple _ => ⟨.ref 0, 0, rfl⟩
  | .dict _ => ⟨.ref 0, 0, rfl⟩
theorem okW_dv {d : PyData} {v : V} {H : Hp} (h : DV d v H) : okW d v := by
  cases d with
  | list xs => unfold DV at h; obtain ⟨a, _, e, _⟩ := h; exact ⟨a, e⟩
  | tuple xs => unfold DV at h; obtain ⟨a, _, e, _⟩ := h; exact ⟨a, e⟩
  | dict xs => unfold DV at h; obtain ⟨a, _, e, _⟩ := h; exact ⟨a, e⟩
  | _ => unfold DV at h; exact h
open Classical in
noncomputable def pickW {A O : Type} (m : V → ((PyData × Bool) × O) → Option A) : ((PyData × Bool) × O) → Option A := fun o => if h : ∃ r, ∀ w, okW o.1.1 w → m w o = r then Classical.choose h else none
theorem pickW_eq {A O : Type} {m : V → ((PyData × Bool) × O) → Option A} {o : (PyData × Bool) × O} {r : Option A} (h : ∀ w, okW o.1.1 w → m w o = r) : pickW m o = r := by
  have hx : ∃ r, ∀ w, okW o.1.1 w → m w o = r := ⟨r, h⟩
  obtain ⟨w, hw⟩ := okW_ex o.1.1
  unfold pickW
  rw [dif_pos hx]
  have := Classical.choose_spec hx w hw
  rw [← this, h w hw]
theorem pickW_some {A O : Type} {m : V → ((PyData × Bool) × O) → Option A} {o : (PyData × Bool) × O} (h : pickW m o ≠ none) {w : V} (hw : okW o.1.1 w) : m w o = pickW m o := by
  unfold pickW at h ⊢
  by_cases hx : ∃ r, ∀ w, okW o.1.1 w → m w o = r
  · rw [dif_pos hx]
    exact Classical.choose_spec hx w hw
  · rw [dif_neg hx] at h; exact absurd rfl h
section
variable {X : Cx} {G : FX} {L : LC} {β : Type} {Γn : β → Ctx} {osn : Os} {Γ : Ctx} {os : Os} {sts : List Stmt}
theorem rb_nameA {i : Nat} {r : Os} {m : V → (PyData × Bool) × OT r → OutT G L β osn} (h : ∀ w, RB X G L Γ ((i, tAt w tAnyO) :: r) sts Γn osn (m w)) : RB X G L Γ ((i, tAnyO) :: r) sts Γn osn (pickW m) := by
  intro σ F M R H o W D tk c w g q
  obtain ⟨v, m0, M', e, q0, s, k⟩ := w
  have q0' : AnyR o.1 v F m0 := q0
  have hv : okW o.1.1 v := okW_dv (AnyR.dv q0' g.fn fun b u z => g.m b u (s.l b u z))
  have e1 : m v o = pickW m o := pickW_some (fun z => by
    have q' : WantS X G L Γn osn σ F R W D (pickW m o) := q
    rw [z] at q'
    exact q') hv
  exact h v σ F M R H o W D tk c ⟨v, m0, M', e, ⟨rfl, q0⟩, s, k⟩ g (by show WantS X G L Γn osn σ F R W D (m v o); rw [e1]; exact q)
end
end Mi

namespace Mi
open PySem PySem.Spec PyProof.Rows L2
def rIsF (K : PySem.W.Frag) (D a : Addr) (d : Option Addr) : List V → Hp → VK → Prop := fun xs H Q => (d = none ∨ ∃ dd vs, d = some dd ∧ H dd = some (.xd vs)) ∧ rIsE K D a xs H Q
theorem call_isF {X : Cx} {a D : Addr} {oe : Obj} {d : Option Addr} {pn : List (Addr × Obj)} (C : ExcC X.K D) (hz : Zc (.ref D) d oe) (hf : ∃ vs, oe.data = .fields vs) : CallR (X.suite a ((a, oe) :: pn)) (.builtin "isinstance") (rIsF X.K D a d) := by
  intro pins s σ H xs us Q I r h
  obtain ⟨hd, c, cv, b, rfl, hcv, e, q⟩ := h
  cases r with
  | cons rx rr =>
    cases rr with
    | cons rt rr =>
      cases rr
      cases rx
      have ec := hcv _ rt
      subst ec
      obtain ⟨hget, _⟩ := I.pin (a, oe) (List.mem_append.mpr (.inl List.mem_cons_self))
      obtain ⟨vs, hv⟩ := hf
      have hcl : (PySem.W.clsIn X.K D).isSome = true := by
        obtain ⟨cd, hc, _⟩ := PySem.W.any_some C.hd
        rw [hc]; rfl
      have hN : PySem.W.notCls oe = true := by unfold PySem.W.notCls; rw [hv] <;> rfl
      rcases hd with hd | ⟨dd, vs2, hd, hx⟩
      · have J : PySem.W.InstAt s.heap a oe D none := ⟨hget, hz.1, hN, by rw [hz.2, hd]; trivial⟩
        exact PySem.W.kia_one (PySem.W.kitx_exc hcl C.hg C.hk C.hs C.ha C.hn C.ht C.hm) I.kIn J e (fun z => nomatch z) fun tk => ⟨.bl b, H, I.kept (t' := tk) fun _ _ z => z, rfl, q⟩
      · have hx : ObjOk X.prog X.w H s.heap dd (.xd vs2) := I.hok dd _ hx
        obtain ⟨mA, hns, hr⟩ := hx
        obtain ⟨od, ho, hl⟩ := lookIn_ns hns
        have J : PySem.W.InstAt s.heap a oe D (some od) := ⟨hget, hz.1, hN, by rw [hz.2, hd]; exact ho⟩
        exact PySem.W.kia_one (PySem.W.kitx_exc hcl C.hg C.hk C.hs C.ha C.hn C.ht C.hm) I.kIn J e (fun z => nomatch z) fun tk => ⟨.bl b, H, I.kept (t' := tk) fun _ _ z => z, rfl, q⟩
theorem kit_own {K : PySem.W.Frag} {C D : Addr} (h : PySem.W.exmOne K (.ref C) (.ref D) = some true) : PySem.W.kitOne K (.ref C) (.ref D) = some true := by
  unfold PySem.W.exmOne at h
  split at h
  · unfold PySem.W.kitOne
    rw [h]
    split <;> rfl
  · cases h
theorem kit_bt {K : PySem.W.Frag} {C : Addr} {b : ExB} (E : ExF K C b) (T : String) (hm : PySem.W.kitMeta T = true) : PySem.W.kitOne K (.ref C) (.type T) = some (b.bm.contains (.type T)) := by
  obtain ⟨nm, q, N, bs, bm, sn, sub, ab, col, dd, k0, k1, k2, k3, k5, hC, hY, _⟩ := E.oe.cls
  have e0 : (Value.ref C == Value.type T) = false := rfl
  unfold PySem.W.kitOne
  rw [if_neg (by rw [e0]; decide)]
  show (if PySem.W.kitMeta T = true then PySem.W.subIn K (.ref C) (.type T) else none) = _
  rw [if_pos hm]
  show PySem.W.mroIn K C (.type T) = _
  rw [← hY]
  unfold PySem.W.mroIn PySem.W.clsIn
  rw [hC]
  rfl
def nonE (fs : List (Str × Dat)) (r : Bool) : Option Bool := match fs with
  | [] => none
  | _ => some r
structure ExcI (K : PySem.W.Frag) (C : Addr) : Prop where
  ha : PySem.W.findIn K (.ref C) "__class__" = some (some (.builtin "object.__class__"))
  hn : PySem.W.specialIn K (.builtin "object.__class__") "__get__" = some (some (.builtin "getset_descriptor.__get__"))
  ht : PySem.W.takesIn K (.builtin "object.__class__") = some true
  hm : PySem.W.mroIn K C (.type "object") = some true
theorem SaysX.excI {fa : List He.Fa} {fn : List He.DefD} {pr : List PrD} {cv : List CvD} {K : PySem.W.Frag} (c : SaysX fa fn pr cv K) (i : Nat) {C : Str} (h : cv[i]? = some (C, ("__class__" : Str), (0 : Int))) : ExcI K (He.ga K C) := by
  have z := c.cv_ i h
  have z : cvB K C "__class__" 0 = true := z
  unfold cvB at z
  rw [if_pos rfl] at z
  unfold spB at z
  rw [if_neg (by decide), if_neg (by decide), if_neg (by decide), if_neg (by decide), if_neg (by decide), if_neg (by decide), if_neg (by decide)] at z
  unfold isB at z
  simp only [Bool.and_eq_true] at z
  obtain ⟨⟨⟨h1, h2⟩, h3⟩, h4⟩ := z
  exact ⟨He.eqO_ok h1, He.eqO_ok h2, of_decide_eq_true h3, of_decide_eq_true h4⟩
theorem excC_of2 {K : PySem.W.Frag} {C : Addr} (x : XfC K C) (i : ExcI K C) : ExcC K C := ⟨x.ga, x.gg, x.exC, x.hdC, i.ha, i.hn, i.ht, i.hm⟩
theorem kit_no {K : PySem.W.Frag} {C D : Addr} (h : PySem.W.exmOne K (.ref C) (.ref D) = some false) (h0 : PySem.W.exmOne K (.ref C) (.ref C) = some true) : PySem.W.kitOne K (.ref C) (.ref D) = some false := by
  have ne : C ≠ D := fun e => by rw [← e, h0] at h; cases h
  have h2 := h
  unfold PySem.W.exmOne at h2
  split at h2
  · unfold PySem.W.kitOne
    rw [if_neg (by simpa using fun e => ne e)]
    exact h2
  · cases h2
section
variable {X : Cx} {N : List Str} {sc : Scope} {B : List Str} {k : Nat} {Γ : Ctx} {os os' : Os} {pos p p1 p2 p3 : Pos} {e : Expr}
theorem rj_isiC {C D : Addr} {ad : Addr} {oe : Obj} {d : Option Addr} {pn : List (Addr × Obj)} (xo : XOk X N sc B k) (xj : XOj (X.suite ad ((ad, oe) :: pn)) N sc) (C' : ExcC X.K C) (hz : Zc (.ref C) d oe) (hf : ∃ vs, oe.data = .fields vs) (i j ga ma gc : Nat) {nm cn : Str} {kd : NameKind} {fs : List (Str × Dat)} {r : Bool}
    (hk : PySem.W.kitOne X.K (.ref C) (.ref D) = some r) (hmc : X.mg cn = some (.ref D))
    (hj : sc.names[j]? = some (nm, kd) := by rfl) (hkd : visK kd = true := by rfl) (hN : N[i]? = some nm := by rfl) (hΓ : Γ[i]? = some (some ⟨tXc ad d, fs⟩) := by rfl)
    (hg : sc.names[ga]? = some (gI "isinstance") := by rfl) (hm : B[ma]? = some "isinstance" := by rfl) (hgc : sc.names[gc]? = some (cn, .globalImplicit) := by rfl)
    (he : starEach [.Name nm p3, .Name cn p2] X.env = (false, eval (.Name nm p3) X.env) :: starEach [.Name cn p2] X.env := by rfl) (he2 : starEach [.Name cn p2] X.env = (false, eval (.Name cn p2) X.env) :: starEach [] X.env := by rfl) (hpl : (backTo pos (starEach [.Name cn p2] X.env)).any (·.1) = false := by rfl) :
    RE (X.suite ad ((ad, oe) :: pn)) Γ os (.Call (.Name "isinstance" p) [.Name nm p3, .Name cn p2] [] pos) tBool (SM.bind (SM.ret fs) fun fs => SM.lift (nonE fs r)) := by
  intro σ F M R H o W Q tk c w g q
  refine ⟨_, pe_callB (X := X.suite ad ((ad, oe) :: pn)) (call_isF C' hz hf) (xo.gl ga _ hg) (xo.fr ma _ hm) boot_isi (pa_cons (pe_best _ (.Name nm p3)) (pa_cons (pe_glob (X := X.suite ad ((ad, oe) :: pn)) (v := .ref D) (xo.gl gc cn hgc) hmc rfl (xo.db gc cn _ hgc).1) pa_nil he2) he) (by decide) (by decide) he hpl, ?_⟩
  refine one_end (ta := tXc ad d) (fun a => a.1) (rj_var xj i j hj hkd hN hΓ) tk c w g q fun x o2 v F2 M2 H2 h2 s2 w2 g2 r2 => ?_
  obtain ⟨_, ev, r2⟩ := r2
  subst ev
  unfold SM.lift at h2
  cases x with
  | nil => exact h2.elim
  | cons y ys =>
    rcases r2 with r2 | ⟨dd, vs, ed, ef, _⟩
    · cases r2
    · exact ⟨.inr ⟨dd, vs, ed, g2.fn _ _ (fun _ z => nomatch z) ef⟩, .ref D, .ref D, r, rfl, fun u ru => ru, hk, end_flat (g := V.bl) (show NormE os tBool σ F R Q r o2 from h2) s2 w2 g2⟩
theorem rj_isiB {C : Addr} {ad : Addr} {oe : Obj} {d : Option Addr} {pn : List (Addr × Obj)} {T : String} (xo : XOk X N sc B k) (xj : XOj (X.suite ad ((ad, oe) :: pn)) N sc) (C' : ExcC X.K C) (hz : Zc (.ref C) d oe) (hf : ∃ vs, oe.data = .fields vs) (i j ga ma g2 m2 : Nat) {nm cn : Str} {kd : NameKind} {fs : List (Str × Dat)} {r : Bool}
    (hk : PySem.W.kitOne X.K (.ref C) (.type T) = some r) (hbt : bootBuiltins cn = some (.type T)) (hn : cn ≠ "__name__") (hd : (cn == ("__debug__" : Str)) = false)
    (hj : sc.names[j]? = some (nm, kd) := by rfl) (hkd : visK kd = true := by rfl) (hN : N[i]? = some nm := by rfl) (hΓ : Γ[i]? = some (some ⟨tXc ad d, fs⟩) := by rfl)
    (hg : sc.names[ga]? = some (gI "isinstance") := by rfl) (hm : B[ma]? = some "isinstance" := by rfl) (hg2 : sc.names[g2]? = some (gI cn) := by rfl) (hm2 : B[m2]? = some cn := by rfl)
    (he : starEach [.Name nm p3, .Name cn p2] X.env = (false, eval (.Name nm p3) X.env) :: starEach [.Name cn p2] X.env := by rfl) (he2 : starEach [.Name cn p2] X.env = (false, eval (.Name cn p2) X.env) :: starEach [] X.env := by rfl) (hpl : (backTo pos (starEach [.Name cn p2] X.env)).any (·.1) = false := by rfl) :
    RE (X.suite ad ((ad, oe) :: pn)) Γ os (.Call (.Name "isinstance" p) [.Name nm p3, .Name cn p2] [] pos) tBool (SM.bind (SM.ret fs) fun fs => SM.lift (nonE fs r)) := by
  intro σ F M R H o W Q tk c w g q
  refine ⟨_, pe_callB (X := X.suite ad ((ad, oe) :: pn)) (call_isF C' hz hf) (xo.gl ga _ hg) (xo.fr ma _ hm) boot_isi (pa_cons (pe_best _ (.Name nm p3)) (pa_cons (pe_bltn (X := X.suite ad ((ad, oe) :: pn)) (v := .ty T) (xo.gl g2 _ hg2) (xo.fr m2 _ hm2) hbt rfl hn hd) pa_nil he2) he) (by decide) (by decide) he hpl, ?_⟩
  refine one_end (ta := tXc ad d) (fun a => a.1) (rj_var xj i j hj hkd hN hΓ) tk c w g q fun x o2 v F2 M2 H2 h2 s2 w2 g2 r2 => ?_
  obtain ⟨_, ev, r2⟩ := r2
  subst ev
  unfold SM.lift at h2
  cases x with
  | nil => exact h2.elim
  | cons y ys =>
    rcases r2 with r2 | ⟨dd, vs, ed, ef, _⟩
    · cases r2
    · exact ⟨.inr ⟨dd, vs, ed, g2.fn _ _ (fun _ z => nomatch z) ef⟩, .ty T, .type T, r, rfl, fun u ru => ru, hk, end_flat (g := V.bl) (show NormE os tBool σ F R Q r o2 from h2) s2 w2 g2⟩
end
end Mi

namespace Mi
open PySem PySem.Spec PyProof.Rows L2
section
variable {X : Cx} {N : List Str} {sc : Scope} {B : List Str} {k : Nat} {Γ : Ctx} {os os' : Os} {pos p p1 p2 p3 lp cpos apos : Pos} {e a b : Expr} {es : List Expr} {t u : Ty}
theorem re_isalnum {ob : Expr} {mo : SM (OT os) (List Nat)} (ho : RE X Γ os ob tStr mo)
    (hbase : attributeBase ob "isalnum" X.env (eval ob X.env) = eval ob X.env := by rfl) (hline : (apos.endLine == cpos.line) = true := by rfl) :
    RE X Γ os (.Call (.Attribute ob "isalnum" apos) [] [] cpos) tBool (SM.bind mo fun x => SM.ret (Txt.isalnum (sOf x))) := by
  intro σ F M R H o W Q tk c w g q
  refine ⟨_, pe_bm0 PySem.F.plainAttrs_str PySem.F.slot_str_isalnum PySem.F.type_str_isalnum mt_isalnum (pe_best X ob) hbase hline, ?_⟩
  refine one_end imF ho tk c w g q fun x o2 v F2 M2 H2 h2 s2 w2 g2 r2 => ?_
  obtain ⟨_, ev⟩ := r2
  subst ev
  exact ⟨rfl, sOf x, rfl, rfl, trivial, end_flat (g := V.bl) (show NormE os tBool σ F R Q (Txt.isalnum (sOf x)) o2 from h2) s2 w2 g2⟩
theorem re_borrow1F {i : Nat} {t1 u1 : Ty} {f : t1.A → u1.A} {m : u1.A → SM (OT []) t.A} (h1 : OMem os i t1) (z1 : Frz t1 u1 f) (ft : Fl t)
    (he : ∀ x, RE X (Γ.set i (some ⟨u1, x⟩)) [] e t (m x)) : RE X Γ os e t (SM.borrow h1 f m) := by
  intro σ F M R H o W Q tk c w g q
  obtain ⟨v1, m1, M1, e1, r1, s1, _⟩ := h1.at w
  have d1 : ∀ q, m1 q = none ∨ F q = none := fun q => by
    rcases g.dis q with z | z
    · exact .inr z
    · exact .inl (s1.none z).1
  obtain ⟨g1, sa, sb⟩ := g.freeze s1
  have c2 : CtxOk (Γ.set i (some ⟨u1, f (h1.get o)⟩)) σ (uni m1 F) := ctx_at (c.mono sa) e1 (z1 r1 d1)
  have q' := q
  unfold SM.borrow at q'
  refine he _ σ _ M1 M1 H () W Q tk c2 rfl g1 ?_
  cases r : m (f (h1.get o)) () with
  | none => rw [r] at q'; exact q'.elim
  | some y =>
    obtain ⟨y, o1⟩ := y
    rw [r] at q'
    cases y with
    | error x => exact q'.elim
    | ok y =>
      intro v3 F2 Mo mm M3 H2 s4 w4 p4 g4 r4
      have e4 : Mo = M1 := w4
      subst e4
      have n1 : ∀ a, m1 a = none ∨ M3 a = none := fun a => by
        cases z : m1 a with
        | none => exact .inl rfl
        | some u =>
          rcases g4.dis a with y | y
          · rw [s4 _ _ (sb a u z)] at y; cases y
          · exact .inr y
      have s1' : Sep m1 M3 (uni m1 M3) := sep_mk n1
      obtain ⟨s6, g6⟩ := g4.back s1' (sa.trans s4) (fun a u e => s4 _ _ (sb a u e)) d1 (fun a u e => g.nt a u (s1.l a u e))
      obtain ⟨G, x1, x2⟩ := p4.assoc s1'
      have eG : G = M := x1.eq.trans s1.eq.symm
      subst eG
      exact (show NormE os t σ F R Q y o from q') v3 _ G mm _ H2 s6 (w.mono s6) x2 g6 (ft r4)
end
structure XOc (X : Cx) (N : List Str) (sc : Scope) (B : List Str) (k : Nat) : Prop where
  nN : X.N = N
  db : ∀ (j : Nat) (x : Str) (kd : NameKind), sc.names[j]? = some (x, kd) → (x == ("__debug__" : Str)) = false ∧ (x == ("__classdict__" : Str)) = false ∧ x ≠ "__name__"
  vs : ∀ (j : Nat) (x : Str) (kd : NameKind), sc.names[j]? = some (x, kd) → visK kd = true → Vis X.env.scope x
  gl : ∀ (j : Nat) (x : Str), sc.names[j]? = some (x, .globalImplicit) → Gl X x
  lo : ∀ (j : Nat) (x : Str) (kd : NameKind), sc.names[j]? = some (x, kd) → kd ≠ .free → X.env.scope.names.lookup x = some kd
  bk : X.env.scope.kind = .function
  nd : X.N.Nodup
  fr : ∀ (i : Nat) (x : Str), B[i]? = some x → X.mg x = none
  room : L2H.RoomH k X.A
  lc : ∀ (j : Nat) (x : Str) (kd : NameKind), sc.names[j]? = some (x, kd) → locK kd = true → Loc X.env.scope x ∧ (X.fn x = true ∨ X.env.scope.names.lookup x = some .local)
theorem XOk.suiteC {X : Cx} {N : List Str} {sc : Scope} {B : List Str} {k : Nat} (xo : XOk X N sc B k) (a : Addr) (pn : List (Addr × Obj)) : XOc (X.suite a pn) N sc B k := ⟨xo.nN, xo.db, xo.vs, xo.gl, xo.lo, xo.bk, xo.nd, xo.fr, ⟨xo.room.dp, xo.room.un⟩, xo.lc⟩
section
variable {X : Cx} {N : List Str} {sc : Scope} {B : List Str} {k : Nat} {Γ : Ctx} {os os' : Os} {pos p p1 p2 p3 : Pos} {e a b : Expr} {t u : Ty}
variable {G : FX} {L : LC} {β : Type} {Γn : β → Ctx} {osn : Os} {rest : List Stmt}
theorem rb_asgJ (xo : XOc X N sc B k) (hS : OSub os G.ps) (i j : Nat) {nm : Str} {kd : NameKind} {me : SM (OT os) t.A} {kk : t.A → OT os → OutT G L β osn} (it : Imm t) (he : RE X Γ os e t me)
    (hk : ∀ x, RB X G L (Γ.set i (some ⟨t, x⟩)) os rest Γn osn (kk x))
    (hj : sc.names[j]? = some (nm, kd) := by rfl) (hkd : locK kd = true := by rfl) (hN : N[i]? = some nm := by rfl) (hf : noSlot i os = true := by rfl) (hkp : G.kp.all (· != i) = true := by rfl)
    (hs : swapsWith e (some (.Name nm p)) pos.line X.env = pure false := by rfl) : RB X G L Γ os (.Assign [.Name nm p] e pos :: rest) Γn osn (fun o => bindX hS (me o) kk) := by
  intro σ F M R H o W D tk c w g q
  obtain ⟨l1, l2⟩ := xo.lc j nm kd hj hkd
  refine ⟨_, pss_cons (ps_set (i := i) xo.nd (by rw [xo.nN]; exact hN) l1 (pe_best X e) hs l2) (pss_best X rest), ?_⟩
  refine he σ F M R H o W _ tk c w g (q.bindX.imp (fun x o1 z => ?_) fun _ _ z => z)
  intro v F' M1 mm M' H' s' w' p' g' r'
  have e := it r'; subst e
  have e := p'.emp_l; subst e
  exact hk x (σ.set i (some v)) F' _ R H' o1 W D tk ((c.mono s').set r') (w'.set hf) g' (z.mono s' (keep_set hkp))
theorem rt_eqVJ (xo : XOc X N sc B k) {dt : t.A → PyData} {du : u.A → PyData} (st : Sh t dt) (su : Sh u du) (it : Imm t) (iu : Imm u) {m : SM (OT os) t.A} {n : SM (OT os) u.A} (ha : RE X Γ os a t m) (hb : RE X Γ os b u n) (hm : behindInMarks .Eq b = false := by rfl) :
    RT X Γ os (.Compare a [.Eq] [b] pos) (SM.bind m fun x => SM.bind n fun y => SM.lift (if SeqAt.shaped (dt x) = true ∧ SeqAt.shaped (du y) = true then some (PyData.eqv (dt x) (du y)) else none)) :=
  rt_cmp (op_eqV (by have := xo.room.un; omega)) (v_eqV st su it iu) it iu ha hb hm
end
end Mi

namespace Pb
open Mi
abbrev PF := Nat → Option (List Nat)
def exN (P : PF) : Nat → Nat → List Nat
  | 0, c => [c]
  | n + 1, c => match P c with
    | none => [c]
    | some v => v.flatMap (exN P n)
def ndN (P : PF) : Nat → Nat → Nat
  | 0, _ => 0
  | n + 1, c => match P c with
    | none => 0
    | some v => 1 + (v.map (ndN P n)).sum
structure Rk (P : PF) (rk : Nat → Nat) : Prop where
  ne : ∀ c v, P c = some v → v ≠ []
  lt : ∀ c v, P c = some v → ∀ a ∈ v, rk a < rk c
  le : ∀ c v, P c = some v → rk c < 30
variable {P : PF} {rk : Nat → Nat}
theorem Rk.pos (h : Rk P rk) {c : Nat} {v : List Nat} (e : P c = some v) : 0 < rk c := by
  have hn := h.ne c v e
  cases v with
  | nil => exact absurd rfl hn
  | cons a r => exact Nat.lt_of_le_of_lt (Nat.zero_le _) (h.lt c _ e a (List.mem_cons_self ..))
theorem Rk.stab (h : Rk P rk) : ∀ (n : Nat) (c : Nat), rk c ≤ n → exN P n c = exN P (n + 1) c ∧ ndN P n c = ndN P (n + 1) c
  | 0, c, hc => by
    have e : P c = none := by
      cases e : P c with
      | none => rfl
      | some v => have := h.pos e; omega
    simp [exN, ndN, e]
  | n + 1, c, hc => by
    cases e : P c with
    | none => simp [exN, ndN, e]
    | some v =>
      have hv : ∀ a ∈ v, exN P n a = exN P (n + 1) a ∧ ndN P n a = ndN P (n + 1) a := fun a ha => h.stab n a (by have := h.lt c v e a ha; omega)
      constructor
      · show (match P c with | none => [c] | some v => v.flatMap (exN P n)) = (match P c with | none => [c] | some v => v.flatMap (exN P (n + 1)))
        rw [e]
        simp only [List.flatMap]
        congr 1
        exact List.map_congr_left fun a ha => (hv a ha).1
      · show (match P c with | none => 0 | some v => 1 + (v.map (ndN P n)).sum) = (match P c with | none => 0 | some v => 1 + (v.map (ndN P (n + 1))).sum)
        rw [e]
        show 1 + (v.map (ndN P n)).sum = 1 + (v.map (ndN P (n + 1))).sum
        rw [List.map_congr_left fun a ha => (hv a ha).2]
def ex (P : PF) (c : Nat) : List Nat := exN P 31 c
def nd (P : PF) (c : Nat) : Nat := ndN P 31 c
theorem ex_none {c : Nat} (e : P c = none) : ex P c = [c] := by simp [ex, exN, e]
theorem Rk.up (h : Rk P rk) {c : Nat} {v : List Nat} (e : P c = some v) {a : Nat} (ha : a ∈ v) {n : Nat} (hn : 28 ≤ n) : exN P n a = exN P (n + 1) a ∧ ndN P n a = ndN P (n + 1) a :=
  h.stab n a (by have := h.lt c v e a ha; have := h.le c v e; omega)
theorem Rk.ex_some (h : Rk P rk) {c : Nat} {v : List Nat} (e : P c = some v) : ex P c = v.flatMap (ex P) := by
  show (match P c with | none => [c] | some v => v.flatMap (exN P 30)) = _
  rw [e]
  simp only [List.flatMap]
  congr 1
  exact List.map_congr_left fun a ha => (h.up e ha (by omega)).1
theorem Rk.ind (h : Rk P rk) {Q : Nat → Prop} (h0 : ∀ c, P c = none → Q c) (h1 : ∀ c v, P c = some v → (∀ a ∈ v, Q a) → Q c) : ∀ c, Q c := by
  have : ∀ n c, rk c < n → Q c := by
    intro n
    induction n with
    | zero => intro c hc; omega
    | succ n ih =>
      intro c hc
      cases e : P c with
      | none => exact h0 c e
      | some v => exact h1 c v e fun a ha => ih a (by have := h.lt c v e a ha; omega)
  exact fun c => this (rk c + 1) c (by omega)
theorem flatMap_ne {v : List Nat} {f : Nat → List Nat} (hv : v ≠ []) (h : ∀ a ∈ v, f a ≠ []) : v.flatMap f ≠ [] := by
  cases v with
  | nil => exact absurd rfl hv
  | cons a r =>
    rw [List.flatMap_cons]
    intro e
    exact h a (List.mem_cons_self ..) (List.append_eq_nil_iff.mp e).1
theorem Rk.ex_ne (h : Rk P rk) : ∀ c, ex P c ≠ [] := h.ind (fun c e => by rw [ex_none e]; simp) fun c v e ih => by
  rw [h.ex_some e]
  exact flatMap_ne (h.ne c v e) ih
theorem Rk.ex_atoms (h : Rk P rk) : ∀ c, ∀ a ∈ ex P c, P a = none := h.ind (fun c e a ha => by rw [ex_none e] at ha; rw [List.mem_singleton.mp ha]; exact e) fun c v e ih a ha => by
  rw [h.ex_some e] at ha
  obtain ⟨b, hb, hab⟩ := List.mem_flatMap.mp ha
  exact ih b hb a hab
theorem Rk.agree (h : Rk P rk) {P' : PF} {rk' : Nat → Nat} (h' : Rk P' rk') {S : Nat → Prop} (hS : ∀ c, S c → P c = P' c) (hc : ∀ c v, S c → P c = some v → ∀ a ∈ v, S a) : ∀ c, S c → ex P c = ex P' c := by
  refine h.ind (fun c e s => ?_) fun c v e ih s => ?_
  · rw [ex_none e, ex_none (by rw [← hS c s]; exact e)]
  · rw [h.ex_some e, h'.ex_some (by rw [← hS c s]; exact e)]
    simp only [List.flatMap]
    congr 1
    exact List.map_congr_left fun a ha => ih a ha (hc c v s e a ha)
def fst (P : PF) (c : Nat) : Nat := (ex P c).headD 0
theorem Rk.fst_atom (h : Rk P rk) (c : Nat) : P (fst P c) = none := by
  unfold fst
  cases hx : ex P c with
  | nil => exact absurd hx (h.ex_ne c)
  | cons b t => exact h.ex_atoms c b (by rw [hx]; exact List.mem_cons_self ..)
end Pb
namespace Pb
open Mi
section
variable {A : Type}
end
end Pb
namespace Pb
open Mi
def CH : List Nat := [48, 49, 50, 51, 52, 53, 54, 55, 56, 57, 65, 66, 67, 68, 69, 70, 71, 72, 73, 74, 75, 76, 77, 78, 79, 80, 81, 82, 83, 84, 85, 86, 87, 88, 89, 90, 97, 98, 99, 100, 101, 102, 103, 104, 105, 106, 107, 108, 109, 110, 111, 112, 113, 114, 115, 116, 117, 118, 119, 120, 121, 122]
structure Val (ks : List Nat) (C : Nat → Int) (P : PF) (rk : Nat → Nat) : Prop where
  ndk : ks.Nodup
  ch : ∀ c ∈ ks, c ∈ CH
  n1 : ks.length ≤ 30
  cls : ∀ c ∈ ks, 0 ≤ C c ∧ C c ≤ 9
  R : Rk P rk
  rkl : ∀ c ∈ ks, rk c < ks.length
  dom : ∀ c v, P c = some v → c ∈ ks
  mem : ∀ c v, P c = some v → ∀ a ∈ v, a ∈ ks
  two : ∀ c v, P c = some v → v.length ≤ 2
  len : ∀ c, (ex P c).length ≤ 8
  zero : ∀ c v, P c = some v → (C c = 0 ↔ C (fst P c) = 0)
def up {A : Type} (f : Nat → A) (c : Nat) (x : A) : Nat → A := fun d => if d = c then x else f d
theorem up_same {A : Type} {f : Nat → A} {c : Nat} {x : A} : up f c x c = x := if_pos rfl
theorem up_ne {A : Type} {f : Nat → A} {c d : Nat} {x : A} (h : d ≠ c) : up f c x d = f d := if_neg h
section
variable {ks : List Nat} {C : Nat → Int} {P : PF} {rk : Nat → Nat}
theorem Val.ne (V : Val ks C P rk) {c v} (e : P c = some v) : v ≠ [] := V.R.ne c v e
theorem Val.out (V : Val ks C P rk) {c : Nat} (h : c ∉ ks) : P c = none := by
  cases e : P c with
  | none => rfl
  | some v => exact absurd (V.dom c v e) h
theorem rk_ext (V : Val ks C P rk) {c : Nat} {v : List Nat} (hc : c ∉ ks) (hv : v ≠ []) (hm : ∀ a ∈ v, a ∈ ks) (hl : ks.length < 30) :
    Rk (up P c (some v)) (up rk c ks.length) := by
  constructor
  · intro d w e
    by_cases h : d = c
    · subst h; rw [up_same] at e; cases e; exact hv
    · rw [up_ne h] at e; exact V.R.ne d w e
  · intro d w e a ha
    by_cases h : d = c
    · subst h
      rw [up_same] at e
      cases e
      have hac : a ≠ d := fun z => hc (z ▸ hm a ha)
      rw [up_ne hac, up_same]
      exact V.rkl a (hm a ha)
    · rw [up_ne h] at e
      have hac : a ≠ c := fun z => hc (z ▸ V.mem d w e a ha)
      rw [up_ne hac, up_ne h]
      exact V.R.lt d w e a ha
  · intro d w e
    by_cases h : d = c
    · subst h; rw [up_same]; exact hl
    · rw [up_ne h] at e ⊢; exact V.R.le d w e
theorem ex_ext (V : Val ks C P rk) {c : Nat} {v : List Nat} (hc : c ∉ ks) (hv : v ≠ []) (hm : ∀ a ∈ v, a ∈ ks) (hl : ks.length < 30) :
    (∀ d, d ≠ c → ex (up P c (some v)) d = ex P d) ∧ ex (up P c (some v)) c = v.flatMap (ex P) := by
  have h2 := rk_ext V hc hv hm hl
  have h1 : ∀ d, d ≠ c → ex (up P c (some v)) d = ex P d := fun d hd =>
    h2.agree V.R (S := fun d => d ≠ c) (fun d hd => up_ne hd) (fun d w hd e a ha => by
      rw [up_ne hd] at e
      exact fun z => hc (z ▸ V.mem d w e a ha)) d hd
  refine ⟨h1, ?_⟩
  rw [h2.ex_some (c := c) (v := v) up_same]
  simp only [List.flatMap]
  congr 1
  exact List.map_congr_left fun a ha => h1 a fun z => hc (z ▸ hm a ha)
theorem Val.ext (V : Val ks C P rk) {c : Nat} {v : List Nat} {x : Int} (hc : c ∉ ks) (hch : c ∈ CH) (hv : v ≠ []) (hm : ∀ a ∈ v, a ∈ ks) (hl : ks.length < 30) (h2 : v.length ≤ 2) (h8 : (v.flatMap (ex P)).length ≤ 8)
    (hx : 0 ≤ x ∧ x ≤ 9) (hz : x = 0 ↔ C (fst (up P c (some v)) c) = 0) : Val (ks ++ [c]) (up C c x) (up P c (some v)) (up rk c ks.length) := by
  have hr := rk_ext V hc hv hm hl
  obtain ⟨e1, e2⟩ := ex_ext V hc hv hm hl
  have hcn : ∀ d ∈ ks, d ≠ c := fun d hd z => hc (z ▸ hd)
  refine ⟨?_, ?_, ?_, ?_, hr, ?_, ?_, ?_, ?_, ?_, ?_⟩
  · rw [List.nodup_append]
    exact ⟨V.ndk, by simp, fun a ha b hb => by rw [List.mem_singleton.mp hb]; exact hcn a ha⟩
  · intro d hd
    rcases List.mem_append.mp hd with h | h
    · exact V.ch d h
    · rw [List.mem_singleton.mp h]; exact hch
  · rw [List.length_append, List.length_singleton]; omega
  · intro d hd
    by_cases h : d = c
    · subst h; rw [up_same]; exact hx
    · rw [up_ne h]
      rcases List.mem_append.mp hd with h' | h'
      · exact V.cls d h'
      · exact absurd (List.mem_singleton.mp h') h
  · intro d hd
    rw [List.length_append, List.length_singleton]
    by_cases h : d = c
    · subst h; rw [up_same]; omega
    · rw [up_ne h]
      rcases List.mem_append.mp hd with h' | h'
      · have := V.rkl d h'; omega
      · exact absurd (List.mem_singleton.mp h') h
  · intro d w e
    by_cases h : d = c
    · subst h; exact List.mem_append_right _ (by simp)
    · rw [up_ne h] at e; exact List.mem_append_left _ (V.dom d w e)
  · intro d w e a ha
    by_cases h : d = c
    · subst h; rw [up_same] at e; cases e; exact List.mem_append_left _ (hm a ha)
    · rw [up_ne h] at e; exact List.mem_append_left _ (V.mem d w e a ha)
  · intro d w e
    by_cases h : d = c
    · subst h; rw [up_same] at e; cases e; exact h2
    · rw [up_ne h] at e; exact V.two d w e
  · intro d
    by_cases h : d = c
    · subst h; rw [e2]; exact h8
    · rw [e1 d h]; exact V.len d
  · have hf : ∀ d, fst (up P c (some v)) d ≠ c := fun d z => by
      have := hr.fst_atom d
      rw [z, up_same] at this
      cases this
    intro d w e
    rw [up_ne (hf d)]
    by_cases h : d = c
    · subst h; rw [up_same]; exact hz
    · rw [up_ne h] at e ⊢
      rw [V.zero d w e]
      unfold fst
      rw [e1 d h]
end
end Pb

namespace Mi
open PySem PySem.Spec PyProof.Rows L2 Pb
theorem mapS_id {O : Type} {A : Type} {mt : A → SM O Bool} {me : A → SM O A} {p : A → Bool} {o : O} (xs : List A) (ht : ∀ x ∈ xs, mt x o = some (.ok (p x), o)) (he : ∀ x ∈ xs, p x = true → me x o = some (.ok x, o)) : mapS mt me xs o = some (.ok (xs.filter p), o) := by
  rw [mapS_pure (f := _root_.id) xs ht he, List.map_id]
end Mi

namespace K
open PySem PySem.Spec PyProof.Rows L2 Mi

abbrev Bn : List Str := ["range", "max", "min", "len", "isinstance", "str", "ValueError", "list", "dict", "repr"]
abbrev st__law_cell : Stmt := top 10
abbrev N__law_cell : List Str := ["script", "k"]
abbrev ps__law_cell : List Str := ["script", "k"]
abbrev G__law_cell : FX := ⟨[], [], tInt⟩
def L__law_cell (K : PySem.W.Frag) (M : Md) : Prop := M.K = K
set_option maxHeartbeats 4000000 in
noncomputable def d__law_cell (K : PySem.W.Frag) : { m : (List Int × tInt.A × Unit) → OT [] → OutT G__law_cell LC.none Unit [] // ∀ (X : Cx) (lks : L__law_cell K X.md) (xo : XOk X N__law_cell (defScope st__law_cell) Bn 0) (xs : XS X) (x : List Int × tInt.A × Unit), RB X G__law_cell LC.none [some ⟨(tScr K), x.1⟩, some ⟨tInt, x.2.1⟩] [] (defBody st__law_cell) (fun _ : Unit => []) [] (m x) } := ⟨_, fun X lks xo xs x =>
  rb_cons (G := G__law_cell) (Γm := fun b3 : Unit => [some ⟨(tScr K), x.1⟩, some ⟨tInt, x.2.1⟩]) (om := []) (rs_if (G := G__law_cell) .nil (rt_lt (re_var xo 1 1) (re_lenX xo lks 2 3 (ra_cons im_scr (re_var xo 0 0) ra_nil))) (rb_one (rs_ret (G := G__law_cell) .nil (re_ixX lks (re_var xo 0 0) (re_var xo 1 1)))) (rb_nil (G := G__law_cell) (Γn := fun b3 : Unit => [some ⟨(tScr K), x.1⟩, some ⟨tInt, x.2.1⟩]) () (.same (.same .nil)) .nil)) fun b3 =>
  rb_one (rs_ret (G := G__law_cell) .nil (re_add (re_mul re_int (re_var xo 1 1)) re_int))⟩
noncomputable def r__law_cell (K : PySem.W.Frag) : (List Int × tInt.A × Unit) → Option (Except Exn tInt.A) := fun x => runZ (none) ((d__law_cell K).1 x ())

abbrev st__law_box : Stmt := top 11
abbrev N__law_box : List Str := ["cell"]
abbrev ps__law_box : List Str := ["cell"]
abbrev G__law_box : FX := ⟨[], [], (tOwn tInt)⟩
def L__law_box (K : PySem.W.Frag) (M : Md) : Prop := M.K = K
set_option maxHeartbeats 4000000 in
noncomputable def d__law_box (K : PySem.W.Frag) : { m : (tInt.A × Unit) → OT [] → OutT G__law_box LC.none Unit [] // ∀ (X : Cx) (lks : L__law_box K X.md) (xo : XOk X N__law_box (defScope st__law_box) Bn 0) (xs : XS X) (x : tInt.A × Unit), RB X G__law_box LC.none [some ⟨tInt, x.1⟩] [] (defBody st__law_box) (fun _ : Unit => []) [] (m x) } := ⟨_, fun X lks xo xs x =>
  rb_one (rs_ret (G := G__law_box) .nil (re_list (t := tInt) (ral_cons imF (re_max2 xo 1 1 (ra_cons imF re_int (ra_cons imF (re_sub (re_var xo 0 0) (re_pow re_int re_int)) ra_nil))) (ral_cons imF (re_mod (re_var xo 0 0) re_int) (ral_cons imF re_int ral_nil)))))⟩
noncomputable def r__law_box (K : PySem.W.Frag) : (tInt.A × Unit) → Option (Except Exn (tOwn tInt).A) := fun x => runZ (none) ((d__law_box K).1 x ())

abbrev st__law_take : Stmt := top 12
abbrev N__law_take : List Str := ["box", "many", "digit", "mixed"]
abbrev ps__law_take : List Str := ["box", "many"]
abbrev G__law_take : FX := ⟨[0], [(0, (tOwn tInt))], tInt⟩
def L__law_take (K : PySem.W.Frag) (M : Md) : Prop := M.K = K
set_option maxHeartbeats 4000000 in
noncomputable def d__law_take (K : PySem.W.Frag) : { m : (tInt.A × Unit) → OT [(0, (tOwn tInt))] → OutT G__law_take LC.none Unit [] // ∀ (X : Cx) (lks : L__law_take K X.md) (xo : XOk X N__law_take (defScope st__law_take) Bn 0) (xs : XS X) (x : tInt.A × Unit), RB X G__law_take LC.none [none, some ⟨tInt, x.1⟩, none, none] [(0, (tOwn tInt))] (defBody st__law_take) (fun _ : Unit => []) [] (m x) } := ⟨_, fun X lks xo xs x =>
  rb_cons (G := G__law_take) (Γm := fun b10 : Unit => [none, some ⟨tInt, x.1⟩, none, none]) (om := [(0, (tOwn tInt))]) (rs_if (G := G__law_take) (.keep .nil) (rt_gt (re_bor .here frz_own (fl_own fl_flat) trivial fl_flat fun v9 => re_ixL imF (re_var xo 0 0) re_int) re_int) (rb_asg xo (G := G__law_take) (.keep .nil) 2 2 imF (re_mod (re_bor .here frz_own (fl_own fl_flat) trivial fl_flat fun v12 => re_ixL imF (re_var xo 0 0) re_int) (re_var xo 1 1)) fun v13 =>
  rb_setL xo (G := G__law_take) (.keep .nil) .here 0 imF (re_fdiv (re_bor .here frz_own (fl_own fl_flat) trivial fl_flat fun v15 => re_ixL imF (re_var xo 0 0) re_int) (re_var xo 1 1)) re_int
  (rb_one (rs_ret (G := G__law_take) (.keep .nil) (re_var xo 2 2)))) (rb_nil (G := G__law_take) (Γn := fun b10 : Unit => [none, some ⟨tInt, x.1⟩, none, none]) () (.same (.same (.same (.same .nil)))) (.keep .nil))) fun b10 =>
  rb_setL xo (G := G__law_take) (.keep .nil) .here 0 imF (re_add (re_bor .here frz_own (fl_own fl_flat) trivial fl_flat fun v17 => re_ixL imF (re_var xo 0 0) re_int) re_int) re_int
  (rb_asg xo (G := G__law_take) (.keep .nil) 3 3 imF (re_mod (re_pow (re_add (re_add (re_bor .here frz_own (fl_own fl_flat) trivial fl_flat fun v19 => re_ixL imF (re_var xo 0 0) re_int) (re_mul re_int (re_bor .here frz_own (fl_own fl_flat) trivial fl_flat fun v21 => re_ixL imF (re_var xo 0 0) re_int))) re_int) re_int) re_int) fun v22 =>
  rb_asg xo (G := G__law_take) (.keep .nil) 3 3 imF (re_mod (re_pow (re_add (re_var xo 3 3) (re_mul re_int (re_bor .here frz_own (fl_own fl_flat) trivial fl_flat fun v24 => re_ixL imF (re_var xo 0 0) re_int))) re_int) re_int) fun v25 =>
  rb_one (rs_ret (G := G__law_take) (.keep .nil) (re_mod (re_fdiv (re_var xo 3 3) re_int) (re_var xo 1 1))))⟩
noncomputable def r__law_take (K : PySem.W.Frag) : (tOwn tInt).A → (tInt.A × Unit) → Option (Except Exn tInt.A × (tOwn tInt).A) := fun y x => runO ((d__law_take K).1 x (y, ()))

abbrev st__law_value : Stmt := top 13
abbrev N__law_value : List Str := ["box", "signs", "long", "k", "at", "odd", "more", "some"]
abbrev ps__law_value : List Str := ["box"]
abbrev G__law_value : FX := ⟨[0], [(0, (tOwn tInt))], tAnyO⟩
def L__law_value (K : PySem.W.Frag) (M : Md) : Prop := LkO M "_law_take" ps__law_take (tOwn tInt) [tInt] tInt (r__law_take K) 1 ∧ M.K = K
set_option maxHeartbeats 4000000 in
noncomputable def d__law_value (K : PySem.W.Frag) : { m : (Unit) → OT [(0, (tOwn tInt))] → OutT G__law_value LC.none Unit [] // ∀ (X : Cx) (lks : L__law_value K X.md) (xo : XOk X N__law_value (defScope st__law_value) Bn 1) (xs : XS X) (x : Unit), RB X G__law_value LC.none [none, none, none, none, none, none, none, none] [(0, (tOwn tInt))] (defBody st__law_value) (fun _ : Unit => []) [] (m x) } := ⟨_, fun X lks xo xs x =>
  rb_unp2 xo (G := G__law_value) (.keep .nil) 1 2 1 2 (ts := [tStr, tStr]) (.imm 1 imF (.imm 2 imF .nil)) (ram_cons (re_str [97, 98, 122, 65, 90, 48, 57]) (ram_cons (re_str []) ram_nil)) fun v7 =>
  rb_cons (G := G__law_value) (Γm := fun b26 : tStr.A × Unit => [none, some ⟨tStr, v7.1⟩, some ⟨tStr, b26.1⟩, none, none, none, none, none]) (om := [(0, (tOwn tInt))]) (rs_for (G := G__law_value) (β := tStr.A × Unit) (.keep .nil) xs.own xo.calm (ΓL := fun b26 : tStr.A × Unit => [none, some ⟨tStr, v7.1⟩, some ⟨tStr, b26.1⟩, none, none, none, none, none]) (b0 := (v7.2.1, ())) (.same (.same (.same (.same (.same (.same (.same (.same .nil)))))))) (ri_range1 xo 8 0 (ra_cons imF (re_callO xo (lks.1) 9 .here 0 (ra_cons imF re_int ra_nil) (hib := by rfl)) ra_nil)) (fun b26 => rg_name xo 3 3) (fun v27 b26 =>
  rb_asg xo (G := G__law_value) (.keep .nil) 2 2 imF (re_addS (re_var xo 2 2) (re_cv cv_chr (re_ixS (re_var xo 1 1) (re_callO xo (lks.1) 9 .here 0 (ra_cons imF re_int ra_nil) (hib := by rfl))))) fun v28 =>
  rb_nil (G := G__law_value) (Γn := fun b26 : tStr.A × Unit => [none, some ⟨tStr, v7.1⟩, some ⟨tStr, b26.1⟩, none, none, none, none, none]) (v28, ()) (.same (.same (.same (.drop (.same (.same (.same (.same .nil)))))))) (.keep .nil))) fun b26 =>
  rb_cons (G := G__law_value) (Γm := fun b29 : tStr.A × Unit => [none, some ⟨tStr, v7.1⟩, some ⟨tStr, b29.1⟩, none, none, none, none, none]) (om := [(0, (tOwn tInt))]) (rs_if (G := G__law_value) (.keep .nil) (rt_eq sca_int (re_callO xo (lks.1) 9 .here 0 (ra_cons imF re_int ra_nil) (hib := by rfl)) re_int) (rb_asg xo (G := G__law_value) (.keep .nil) 2 2 imF (re_addS (re_var xo 2 2) (re_mulS0 (re_cv cv_chr (re_ixS (re_var xo 1 1) (re_callO xo (lks.1) 9 .here 0 (ra_cons imF re_int ra_nil) (hib := by rfl)))) (re_add re_int (re_callO xo (lks.1) 9 .here 0 (ra_cons imF re_int ra_nil) (hib := by rfl))))) fun v30 =>
  rb_nil (G := G__law_value) (Γn := fun b29 : tStr.A × Unit => [none, some ⟨tStr, v7.1⟩, some ⟨tStr, b29.1⟩, none, none, none, none, none]) (v30, ()) (.same (.same (.same (.same (.same (.same (.same (.same .nil)))))))) (.keep .nil)) (rb_nil (G := G__law_value) (Γn := fun b29 : tStr.A × Unit => [none, some ⟨tStr, v7.1⟩, some ⟨tStr, b29.1⟩, none, none, none, none, none]) (b26.1, ()) (.same (.same (.same (.same (.same (.same (.same (.same .nil)))))))) (.keep .nil))) fun b29 =>
  rb_asg xo (G := G__law_value) (.keep .nil) 4 4 imF (re_callO xo (lks.1) 9 .here 0 (ra_cons imF (re_add (re_lenS xo 10 3 (ra_cons imF (re_var xo 2 2) ra_nil)) re_int) ra_nil) (hib := by rfl)) fun v31 =>
  rb_asg xo (G := G__law_value) (.keep .nil) 5 5 imF (re_ixL imF (re_frz frz_own (re_list (t := tStr) (ral_cons imF (re_str [32]) (ral_cons imF (re_str [95]) (ral_cons imF (re_str [45]) (ral_cons imF (re_str [10]) (ral_cons imF (re_str [91]) (ral_cons imF (re_str [64]) (ral_cons imF (re_str [47]) (ral_cons imF (re_str [58]) (ral_cons imF (re_str [123]) (ral_cons imF (re_str [33]) ral_nil)))))))))))) (re_callO xo (lks.1) 9 .here 0 (ra_cons imF re_int ra_nil) (hib := by rfl))) fun v32 =>
  rb_asg xo (G := G__law_value) (.keep .nil) 6 6 imF (re_mulS0 (re_ixL imF (re_frz frz_own (re_list (t := tStr) (ral_cons imF (re_str [32]) (ral_cons imF (re_str [95]) (ral_cons imF (re_str [45]) (ral_cons imF (re_str [126]) ral_nil)))))) (re_callO xo (lks.1) 9 .here 0 (ra_cons imF re_int ra_nil) (hib := by rfl))) (re_callO xo (lks.1) 9 .here 0 (ra_cons imF re_int ra_nil) (hib := by rfl))) fun v33 =>
  rb_asgO xo (G := G__law_value) (.keep .nil) 7 7 (re_listAny (ran_cons (re_cv (cv_any sh_str imF) (re_var xo 2 2)) (ran_cons (re_cv (cv_any sh_str imF) (re_addS (re_addS (re_addS (re_slS (re_var xo 2 2) ro_none (ro_some (re_var xo 4 4))) (re_var xo 5 5)) (re_slS (re_var xo 2 2) (ro_some (re_var xo 4 4)) ro_none)) (re_var xo 6 6))) (ran_cons (re_cv (cv_any sh_none imF) re_none) (ran_cons (re_cv (cv_any sh_int imF) re_int) (ran_cons (re_cv (cv_any sh_bool imF) re_bool) (ran_cons (re_cv (cv_anyL sh_str) (re_list (t := tStr) (ral_cons imF (re_str [97]) ral_nil))) (ran_cons (re_cv (cv_any (sh_tup (.cons sh_str .nil)) im_tup) (re_tup (ts := [tStr]) (ra_cons imF (re_str [97]) ra_nil))) (ran_cons (re_cv (cv_anyD sh_int) (re_ddisp (t := tInt) (rd_cons imF (re_str [97]) re_int rd_nil))) (ran_cons (re_cv (cv_anyL sh_int) (re_list (t := tInt) ral_nil)) ran_nil))))))))))
  (rb_one (rs_retIx (j := 7) xo .here (.keep .nil) (re_add (re_ixL imF (re_frz frz_own (re_list (t := tInt) (ral_cons imF re_int (ral_cons imF re_int (ral_cons imF re_int (ral_cons imF re_int ral_nil)))))) (re_callO xo (lks.1) 9 (.there .here) 0 (ra_cons imF re_int ra_nil) (hib := by rfl))) (re_mul (re_callO xo (lks.1) 9 (.there .here) 0 (ra_cons imF re_int ra_nil) (hib := by rfl)) (re_callO xo (lks.1) 9 (.there .here) 0 (ra_cons imF re_int ra_nil) (hib := by rfl))))))⟩
noncomputable def r__law_value (K : PySem.W.Frag) : (tOwn tInt).A → (Unit) → Option (Except Exn tAnyO.A × (tOwn tInt).A) := fun y x => runO ((d__law_value K).1 x (y, ()))

abbrev st__law_due : Stmt := top 14
abbrev N__law_due : List Str := ["value", "wrong", "sign"]
abbrev ps__law_due : List Str := ["value"]
abbrev G__law_due : FX := ⟨[], [], (tOwnN tV)⟩
def L__law_due (K : PySem.W.Frag) (M : Md) : Prop := M.K = K
set_option maxHeartbeats 4000000 in
noncomputable def d__law_due (K : PySem.W.Frag) : { m : (tRaw.A × Unit) → OT [] → OutT G__law_due LC.none Unit [] // ∀ (X : Cx) (lks : L__law_due K X.md) (xo : XOk X N__law_due (defScope st__law_due) Bn 0) (xs : XS X) (x : tRaw.A × Unit), RB X G__law_due LC.none [some ⟨tRaw, x.1⟩, none, none] [] (defBody st__law_due) (fun _ : Unit => []) [] (m x) } := ⟨_, fun X lks xo xs x =>
  rb_cons (G := G__law_due) (Γm := fun b38 : Unit => [some ⟨tRaw, x.1⟩, none, none]) (om := []) (rs_if (G := G__law_due) .nil (rt_not (rt_val (re_isiP xo 2 4 3 5 (T := "str") kit_pdS (by decide +kernel) (by decide) (by decide) (re_cv cv_rawPD (re_var xo 0 0))))) (rb_one (rs_ret (G := G__law_due) .nil (re_listNO (t := tV) (ral_cons imF (re_cv cv_Vstr (re_str [118, 97, 108, 117, 101])) (ral_cons imF (re_cv cv_rawV (re_var xo 0 0)) ral_nil))))) (rb_nil (G := G__law_due) (Γn := fun b38 : Unit => [some ⟨tRaw, x.1⟩, none, none]) () (.same (.same (.same .nil))) .nil)) fun b38 =>
  rb_asgLc lks xo (G := G__law_due) .nil [("sign", 2)] [0, 1] 1 1 imF (ri_str (re_nar nar_str (re_cv cv_rawPD (re_var xo 0 0)))) (fun X40 o42 => rg_name o42 2 1) (fun X40 l41 o42 v39 => rts_one (rt_not (rt_val (re_isalnum (re_cv cv_chr (re_var o42 2 1)))))) (fun X40 l41 o42 v39 => re_var o42 2 1) fun v43 =>
  rb_one (rs_ret (G := G__law_due) .nil (re_if (rt_ne0 xo (re_var xo 1 1) (re_frz frz_own (re_list (t := tChr) ral_nil))) (re_listNO (t := tV) (ral_cons imF (re_cv cv_Vstr (re_str [118, 97, 108, 117, 101])) (ral_cons imF (re_cv cv_Vchr (re_ixL imF (re_var xo 1 1) re_int)) ral_nil))) (re_listNO (t := tV) (ral_cons imF (re_cv cv_Vstr (re_str [110, 111, 110, 101])) ral_nil))))⟩
noncomputable def r__law_due (K : PySem.W.Frag) : (tRaw.A × Unit) → Option (Except Exn (tOwnN tV).A) := fun x => runZ (none) ((d__law_due K).1 x ())

abbrev st_is_character : Stmt := top 7
abbrev N_is_character : List Str := ["value"]
abbrev ps_is_character : List Str := ["value"]
abbrev G_is_character : FX := ⟨[], [], tBool⟩
def L_is_character (K : PySem.W.Frag) (M : Md) : Prop := LkC M "CHARACTERS" (.str (sOf [48, 49, 50, 51, 52, 53, 54, 55, 56, 57, 65, 66, 67, 68, 69, 70, 71, 72, 73, 74, 75, 76, 77, 78, 79, 80, 81, 82, 83, 84, 85, 86, 87, 88, 89, 90, 97, 98, 99, 100, 101, 102, 103, 104, 105, 106, 107, 108, 109, 110, 111, 112, 113, 114, 115, 116, 117, 118, 119, 120, 121, 122])) ∧ M.K = K
set_option maxHeartbeats 4000000 in
noncomputable def d_is_character (K : PySem.W.Frag) : { m : (tDat.A × Unit) → OT [] → OutT G_is_character LC.none Unit [] // ∀ (X : Cx) (lks : L_is_character K X.md) (xo : XOk X N_is_character (defScope st_is_character) Bn 0) (xs : XS X) (x : tDat.A × Unit), RB X G_is_character LC.none [some ⟨tDat, x.1⟩] [] (defBody st_is_character) (fun _ : Unit => []) [] (m x) } := ⟨_, fun X lks xo xs x =>
  rb_one (rs_ret (G := G_is_character) .nil (re_andIsi xo 0 0 1 4 2 5 fun v48 => re_and (re_eq sca_int (re_lenS xo 3 3 (ra_cons imF (re_var xo 0 0) ra_nil)) re_int) (re_one (re_inS (re_var xo 0 0) (re_gstr xo (lks.1) 4)))))⟩
noncomputable def r_is_character (K : PySem.W.Frag) : (tDat.A × Unit) → Option (Except Exn tBool.A) := fun x => runZ (none) ((d_is_character K).1 x ())

abbrev st_in_order : Stmt := top 8
abbrev N_in_order : List Str := ["characters", "char"]
abbrev ps_in_order : List Str := ["characters"]
abbrev G_in_order : FX := ⟨[], [], tStr⟩
def L_in_order (K : PySem.W.Frag) (M : Md) : Prop := LkP M "is_character" ps_is_character [tDat] tBool (r_is_character K) 1 ∧ LkX M "InvalidCharacter" (He.ga K "InvalidCharacter") ["value"] 1 ∧ LkC M "CHARACTERS" (.str (sOf [48, 49, 50, 51, 52, 53, 54, 55, 56, 57, 65, 66, 67, 68, 69, 70, 71, 72, 73, 74, 75, 76, 77, 78, 79, 80, 81, 82, 83, 84, 85, 86, 87, 88, 89, 90, 97, 98, 99, 100, 101, 102, 103, 104, 105, 106, 107, 108, 109, 110, 111, 112, 113, 114, 115, 116, 117, 118, 119, 120, 121, 122])) ∧ M.K = K
set_option maxHeartbeats 4000000 in
noncomputable def d_in_order (K : PySem.W.Frag) : { m : (tRaw.A × Unit) → OT [] → OutT G_in_order LC.none Unit [] // ∀ (X : Cx) (lks : L_in_order K X.md) (xo : XOk X N_in_order (defScope st_in_order) Bn 2) (xs : XS X) (x : tRaw.A × Unit), RB X G_in_order LC.none [some ⟨tRaw, x.1⟩, none] [] (defBody st_in_order) (fun _ : Unit => []) [] (m x) } := ⟨_, fun X lks xo xs x =>
  rb_cons (G := G_in_order) (Γm := fun b45 : Unit => [some ⟨tRaw, x.1⟩, none]) (om := []) (rs_if (G := G_in_order) .nil (rt_not (rt_val (re_isiP xo 2 4 3 5 (T := "str") kit_pdS (by decide +kernel) (by decide) (by decide) (re_cv cv_rawPD (re_var xo 0 0))))) (rb_one (rs_raise (G := G_in_order) xo .nil (lks.2.1) 4 (flx_1 cv_rawD) (ra_cons im_raw (re_var xo 0 0) ra_nil))) (rb_nil (G := G_in_order) (Γn := fun b45 : Unit => [some ⟨tRaw, x.1⟩, none]) () (.same (.same .nil)) .nil)) fun b45 =>
  rb_cons (G := G_in_order) (Γm := fun b46 : Unit => [some ⟨tRaw, x.1⟩, none]) (om := []) (rs_for (G := G_in_order) (β := Unit) .nil xs.own xo.calm (ΓL := fun b46 : Unit => [some ⟨tRaw, x.1⟩, none]) (b0 := ()) (.same (.same .nil)) (ri_str (re_nar nar_str (re_cv cv_rawPD (re_var xo 0 0)))) (fun b46 => rg_name xo 1 1) (fun v47 b46 =>
  rb_cons (G := G_in_order) (Γm := fun b49 : Unit => [some ⟨tRaw, x.1⟩, some ⟨tChr, v47⟩]) (om := []) (rs_if (G := G_in_order) .nil (rt_not (rt_val (re_call xo (lks.1) 5 (ra_cons im_dat (re_cv cv_chrD (re_var xo 1 1)) ra_nil)))) (rb_one (rs_raise (G := G_in_order) xo .nil (lks.2.1) 4 (flx_1 cv_rawD) (ra_cons im_raw (re_cv cv_rawStr (re_cv cv_chr (re_var xo 1 1))) ra_nil))) (rb_nil (G := G_in_order) (Γn := fun b49 : Unit => [some ⟨tRaw, x.1⟩, some ⟨tChr, v47⟩]) () (.same (.same .nil)) .nil)) fun b49 =>
  rb_nil (G := G_in_order) (Γn := fun b46 : Unit => [some ⟨tRaw, x.1⟩, none]) () (.same (.drop .nil)) .nil)) fun b46 =>
  rb_one (rs_ret (G := G_in_order) .nil (re_join0 (re_frz frz_own (re_lc lks xo [("char", 1)] [0] imF (ri_str (re_gstr xo (lks.2.2.1) 6)) (fun X51 o53 => rg_name o53 1 1) (fun X51 l52 o53 v50 => rts_one (rt_inC (re_var o53 1 1) (re_nar nar_str (re_cv cv_rawPD (re_var o53 0 2))))) (fun X51 l52 o53 v50 => re_var o53 1 1)))))⟩
noncomputable def r_in_order (K : PySem.W.Frag) : (tRaw.A × Unit) → Option (Except Exn tStr.A) := fun x => runZ (none) ((d_in_order K).1 x ())

abbrev st__law_caught : Stmt := top 15
abbrev N__law_caught : List Str := ["value", "e", "kinds"]
abbrev ps__law_caught : List Str := ["value"]
abbrev G__law_caught : FX := ⟨[], [], (tOwnN tV)⟩
def L__law_caught (K : PySem.W.Frag) (M : Md) : Prop := LkP M "in_order" ps_in_order [tRaw] tStr (r_in_order K) 3 ∧ LkXC M "InvalidCharacter" ["value"] ∧ ExcI M.K (He.ga M.K "InvalidCharacter") ∧ PySem.W.kitOne M.K (.ref (He.ga M.K "InvalidCharacter")) (.type "ValueError") = some true ∧ PySem.W.kitOne M.K (.ref (He.ga M.K "InvalidCharacter")) (.ref (He.ga K "TextError")) = some true ∧ M.mg "TextError" = some (.ref (He.ga K "TextError")) ∧ PySem.W.kitOne M.K (.ref (He.ga M.K "InvalidCharacter")) (.ref (He.ga K "Absent")) = some false ∧ M.mg "Absent" = some (.ref (He.ga K "Absent")) ∧ PySem.W.kitOne M.K (.ref (He.ga M.K "InvalidCharacter")) (.ref (He.ga K "NotSound")) = some false ∧ M.mg "NotSound" = some (.ref (He.ga K "NotSound")) ∧ M.K = K
set_option maxHeartbeats 4000000 in
noncomputable def d__law_caught (K : PySem.W.Frag) : { m : (tRaw.A × Unit) → OT [] → OutT G__law_caught LC.none Unit [] // ∀ (X : Cx) (lks : L__law_caught K X.md) (xo : XOk X N__law_caught (defScope st__law_caught) Bn 3) (xs : XS X) (x : tRaw.A × Unit), RB X G__law_caught LC.none [some ⟨tRaw, x.1⟩, none, none] [] (defBody st__law_caught) (fun _ : Unit => []) [] (m x) } := ⟨_, fun X lks xo xs x =>
  rb_cons (G := G__law_caught) (Γm := fun _ : Unit => [some ⟨tRaw, x.1⟩, none, none]) (om := []) (rs_tryAs (G := G__law_caught) (hkk := (by decide : ∀ i ∈ ([] : List Nat), i ∈ ([0] : List Nat))) xo xs .nil [0] 1 1 4 (lks.2.1).1 (lks.2.1).2.1 (fun pn xe xo xs =>
  rb_expr (G := ⟨[0], [], (tOwnN tV)⟩) .nil (re_call xo (lks.1) 3 (ra_cons im_raw (re_var xo 0 0) ra_nil))
  (rb_nil (G := ⟨[0], [], (tOwnN tV)⟩) (Γn := fun _ : Unit => [some ⟨tRaw, x.1⟩, none, none]) () (.same (.same (.same .nil))) .nil)) (fun a oe d pn v54 hz hf xj =>
  have xc := xo.suiteC a ((a, oe) :: pn)
  rb_asgJ xc (G := G__law_caught) .nil 2 2 im_lst (re_frz frz_own (re_list (t := tBool) (ral_cons imF (rj_isiB (X := X) (T := "ValueError") xo xj (excC_of2 (lks.2.1).2.2.1 (lks.2.2.1)) hz hf 1 1 5 4 6 6 (lks.2.2.2.1) (by decide +kernel) (by decide) (by decide)) (ral_cons imF (rj_isiC (X := X) xo xj (excC_of2 (lks.2.1).2.2.1 (lks.2.2.1)) hz hf 1 1 5 4 7 (lks.2.2.2.2.1) (lks.2.2.2.2.2.1)) (ral_cons imF (rj_isiC (X := X) xo xj (excC_of2 (lks.2.1).2.2.1 (lks.2.2.1)) hz hf 1 1 5 4 8 (lks.2.2.2.2.2.2.1) (lks.2.2.2.2.2.2.2.1)) (ral_cons imF (rj_isiC (X := X) xo xj (excC_of2 (lks.2.1).2.2.1 (lks.2.2.1)) hz hf 1 1 5 4 9 (lks.2.2.2.2.2.2.2.2.1) (lks.2.2.2.2.2.2.2.2.2.1)) ral_nil)))))) fun v55 =>
  rb_one (rs_ret (G := G__law_caught) .nil (re_if (rt_eqVJ xc (sh_lst sh_bool) (sh_lst sh_bool) im_lst im_lst (rj_var xj 2 2) (re_frz frz_own (re_list (t := tBool) (ral_cons imF re_bool (ral_cons imF re_bool (ral_cons imF re_bool (ral_cons imF re_bool ral_nil))))))) (re_listNO (t := tV) (ral_cons imF (re_cv cv_Vstr (re_str [118, 97, 108, 117, 101])) (ral_cons imF (re_nar nar_datV (rj_xfd (X := X) (fs := v54) xj 1 1 (lks.2.1).2.2.1 ((lks.2.1).2.2.2 _ (by decide)) hz hf)) ral_nil))) (re_listNO (t := tV) (ral_cons imF (re_cv cv_Vstr (re_str [97, 110, 111, 116, 104, 101, 114])) ral_nil))))) (fun _ z h => by cases h) (fun b => nomatch b)) fun _ =>
  rb_one (rs_ret (G := G__law_caught) .nil (re_listNO (t := tV) (ral_cons imF (re_cv cv_Vstr (re_str [110, 111, 110, 101])) ral_nil)))⟩
noncomputable def r__law_caught (K : PySem.W.Frag) : (tRaw.A × Unit) → Option (Except Exn (tOwnN tV).A) := fun x => runZ (none) ((d__law_caught K).1 x ())

abbrev st_law : Stmt := top 16
abbrev N_law : List Str := ["script", "k", "box", "turn", "value", "due", "found"]
abbrev ps_law : List Str := ["script"]
abbrev G_law : FX := ⟨[], [], tBool⟩
def L_law (K : PySem.W.Frag) (M : Md) : Prop := LkP M "_law_cell" ps__law_cell [(tScr K), tInt] tInt (r__law_cell K) 1 ∧ LkP M "_law_box" ps__law_box [tInt] (tOwn tInt) (r__law_box K) 1 ∧ LkO M "_law_value" ps__law_value (tOwn tInt) [] tAnyO (r__law_value K) 2 ∧ LkP M "_law_due" ps__law_due [tRaw] (tOwnN tV) (r__law_due K) 1 ∧ LkP M "_law_caught" ps__law_caught [tRaw] (tOwnN tV) (r__law_caught K) 4 ∧ M.K = K
set_option maxHeartbeats 4000000 in
noncomputable def d_law (K : PySem.W.Frag) : { m : (List Int × Unit) → OT [] → OutT G_law LC.none Unit [] // ∀ (X : Cx) (gd : X.A.guards = some []) (lks : L_law K X.md) (xo : XOk X N_law (defScope st_law) Bn 4) (xs : XS X) (x : List Int × Unit), RB X G_law LC.none [some ⟨(tScr K), x.1⟩, none, none, none, none, none, none] [] (defBody st_law) (fun _ : Unit => []) [] (m x) } := ⟨_, fun X gd lks xo xs x =>
  rb_cons (G := G_law) (Γm := fun b1 : Unit => [some ⟨(tScr K), x.1⟩, none, none, none, none, none, none]) (om := []) (rs_for (G := G_law) (β := Unit) .nil xs.own xo.calm (ΓL := fun b1 : Unit => [some ⟨(tScr K), x.1⟩, none, none, none, none, none, none]) (b0 := ()) (.same (.same (.same (.same (.same (.same (.same .nil))))))) (ri_range1 xo 7 0 (ra_cons imF (re_max2 xo 8 1 (ra_cons imF re_int (ra_cons imF (re_min2 xo 9 2 (ra_cons imF re_int (ra_cons imF (re_lenX xo (lks.2.2.2.2.2) 10 3 (ra_cons im_scr (re_var xo 0 0) ra_nil)) ra_nil))) ra_nil))) ra_nil)) (fun b1 => rg_name xo 1 1) (fun v2 b1 =>
  rb_asgO xo (G := G_law) .nil 2 2 (re_call xo (lks.2.1) 11 (ra_cons imF (re_call xo (lks.1) 12 (ra_cons im_scr (re_var xo 0 0) (ra_cons imF (re_var xo 1 1) ra_nil))) ra_nil))
  (rb_cons (G := G_law) (Γm := fun b5 : Unit => [some ⟨(tScr K), x.1⟩, some ⟨tInt, v2⟩, none, none, none, none, none]) (om := [(2, (tOwn tInt))]) (rs_for (G := G_law) (β := Unit) (.skip .nil) xs.own xo.calm (ΓL := fun b5 : Unit => [some ⟨(tScr K), x.1⟩, some ⟨tInt, v2⟩, none, none, none, none, none]) (b0 := ()) (.same (.same (.same (.same (.same (.same (.same .nil))))))) (ri_range1 xo 7 0 (ra_cons imF re_int ra_nil)) (fun b5 => rg_name xo 3 3) (fun v6 b5 =>
  rb_asgO xo (G := G_law) (.skip .nil) 4 4 (re_callO xo (lks.2.2.1) 13 .here 2 ra_nil (hib := by rfl))
  (rb_nameA fun w36 =>
  rb_par2 xo (G := G_law) (.skip (.skip .nil)) 5 6 5 6 (ts := [(tLstN tV), (tLstN tV)]) (.imm 5 im_lstN (.imm 6 im_lstN .nil)) (ram_cons (re_frz frz_ownN (re_borrow1F .here frz_atR (fl_ownN fl_flat) fun v37 => re_call xo (lks.2.2.2.1) 14 (ra_cons im_raw (re_var xo 4 4) ra_nil))) (ram_cons (re_frz frz_ownN (re_borrow1F .here frz_atR (fl_ownN fl_flat) fun v44 => re_call xo (lks.2.2.2.2.1) 15 (ra_cons im_raw (re_var xo 4 4) ra_nil))) ram_nil)) fun v56 =>
  rb_cons (G := G_law) (Γm := fun b58 : Unit => [some ⟨(tScr K), x.1⟩, some ⟨tInt, v2⟩, none, some ⟨tInt, v6⟩, none, some ⟨(tLstN tV), v56.1⟩, some ⟨(tLstN tV), v56.2.1⟩]) (om := [(4, (tAt w36 tAnyO)), (2, (tOwn tInt))]) (rs_if (G := G_law) (.skip (.skip .nil)) (rt_val (re_borrow .here frz_atR flat_im fun v57 => re_isiP xo 16 4 17 7 (T := "list") kit_pdLst (by decide +kernel) (by decide) (by decide) (re_cv cv_rawPD (re_var xo 4 4)))) (rb_expr (G := G_law) (.skip (.skip .nil)) (re_appendAny xo sh_str .here 4 (ra_cons imF (re_str [109, 111, 114, 101]) ra_nil))
  (rb_nil (G := G_law) (Γn := fun b58 : Unit => [some ⟨(tScr K), x.1⟩, some ⟨tInt, v2⟩, none, some ⟨tInt, v6⟩, none, some ⟨(tLstN tV), v56.1⟩, some ⟨(tLstN tV), v56.2.1⟩]) () (.same (.same (.same (.same (.same (.same (.same .nil))))))) (.keep (.keep .nil)))) (rb_nil (G := G_law) (Γn := fun b58 : Unit => [some ⟨(tScr K), x.1⟩, some ⟨tInt, v2⟩, none, some ⟨tInt, v6⟩, none, some ⟨(tLstN tV), v56.1⟩, some ⟨(tLstN tV), v56.2.1⟩]) () (.same (.same (.same (.same (.same (.same (.same .nil))))))) (.keep (.keep .nil)))) fun b58 =>
  rb_cons (G := G_law) (Γm := fun b60 : Unit => [some ⟨(tScr K), x.1⟩, some ⟨tInt, v2⟩, none, some ⟨tInt, v6⟩, none, some ⟨(tLstN tV), v56.1⟩, some ⟨(tLstN tV), v56.2.1⟩]) (om := [(4, (tAt w36 tAnyO)), (2, (tOwn tInt))]) (rs_if (G := G_law) (.skip (.skip .nil)) (rt_val (re_borrow .here frz_atR flat_im fun v59 => re_isiP xo 16 4 18 8 (T := "dict") kit_pdDct (by decide +kernel) (by decide) (by decide) (re_cv cv_rawPD (re_var xo 4 4)))) (rb_setAny xo (G := G_law) (.skip (.skip .nil)) sh_int .here 4 imF re_int (re_str [109, 111, 114, 101])
  (rb_nil (G := G_law) (Γn := fun b60 : Unit => [some ⟨(tScr K), x.1⟩, some ⟨tInt, v2⟩, none, some ⟨tInt, v6⟩, none, some ⟨(tLstN tV), v56.1⟩, some ⟨(tLstN tV), v56.2.1⟩]) () (.same (.same (.same (.same (.same (.same (.same .nil))))))) (.keep (.keep .nil)))) (rb_nil (G := G_law) (Γn := fun b60 : Unit => [some ⟨(tScr K), x.1⟩, some ⟨tInt, v2⟩, none, some ⟨tInt, v6⟩, none, some ⟨(tLstN tV), v56.1⟩, some ⟨(tLstN tV), v56.2.1⟩]) () (.same (.same (.same (.same (.same (.same (.same .nil))))))) (.keep (.keep .nil)))) fun b60 =>
  rb_cons (G := G_law) (Γm := fun b65 : Unit => [some ⟨(tScr K), x.1⟩, some ⟨tInt, v2⟩, none, some ⟨tInt, v6⟩, none, some ⟨(tLstN tV), v56.1⟩, some ⟨(tLstN tV), v56.2.1⟩]) (om := [(4, (tAt w36 tAnyO)), (2, (tOwn tInt))]) (rs_if (G := G_law) (.skip (.skip .nil)) (rt_ne sca_str (re_borrow .here frz_atR flat_im fun v63 => re_reprX gd xo sh_pd 19 9 (ra_cons im_lstN (re_knownN (i := 4) (x := v63) (by rfl) (re_var xo 6 6)) ra_nil)) (re_borrow .here frz_atR flat_im fun v64 => re_reprX gd xo sh_pd 19 9 (ra_cons im_lstN (re_knownN (i := 4) (x := v64) (by rfl) (re_var xo 5 5)) ra_nil))) (rb_one (rs_ret (G := G_law) (.skip (.skip .nil)) re_bool)) (rb_nil (G := G_law) (Γn := fun b65 : Unit => [some ⟨(tScr K), x.1⟩, some ⟨tInt, v2⟩, none, some ⟨tInt, v6⟩, none, some ⟨(tLstN tV), v56.1⟩, some ⟨(tLstN tV), v56.2.1⟩]) () (.same (.same (.same (.same (.same (.same (.same .nil))))))) (.keep (.keep .nil)))) fun b65 =>
  rb_nil (G := G_law) (Γn := fun b5 : Unit => [some ⟨(tScr K), x.1⟩, some ⟨tInt, v2⟩, none, none, none, none, none]) () (.same (.same (.same (.drop (.same (.drop (.drop .nil))))))) (.skip (.keep .nil))))) fun b5 =>
  rb_nil (G := G_law) (Γn := fun b1 : Unit => [some ⟨(tScr K), x.1⟩, none, none, none, none, none, none]) () (.same (.drop (.same (.same (.same (.same (.same .nil))))))) (.skip .nil)))) fun b1 =>
  rb_one (rs_ret (G := G_law) .nil re_bool)⟩
noncomputable def r_law (K : PySem.W.Frag) : (List Int × Unit) → Option (Except Exn tBool.A) := fun x => runZ (none) ((d_law K).1 x ())

end K

namespace K
open PySem PySem.Spec PyProof.Rows L2 Mi
def CH : List Nat := [48, 49, 50, 51, 52, 53, 54, 55, 56, 57, 65, 66, 67, 68, 69, 70, 71, 72, 73, 74, 75, 76, 77, 78, 79, 80, 81, 82, 83, 84, 85, 86, 87, 88, 89, 90, 97, 98, 99, 100, 101, 102, 103, 104, 105, 106, 107, 108, 109, 110, 111, 112, 113, 114, 115, 116, 117, 118, 119, 120, 121, 122]
variable (K : PySem.W.Frag)
theorem atI_lt {α : Type} {l : List α} {d : Int} (h0 : 0 ≤ d) (h1 : d < l.length) : ∃ (h : d.toNat < l.length), atI l d = some l[d.toNat] := by
  have h : d.toNat < l.length := by omega
  refine ⟨h, ?_⟩
  unfold atI ixN
  rw [if_pos h0, if_pos h1]
  exact List.getElem?_eq_getElem h
theorem m_take {b0 b1 b2 m : Int} (h0 : 0 ≤ b0) (h1 : 0 ≤ b1) (h2 : b1 < 2147483629) (h3 : 0 ≤ b2) (h4 : b2 < 2 ^ 20) (hm : 0 < m) (hm2 : m < 2 ^ 40) :
    ∃ d c0 c2 : Int, r__law_take K [b0, b1, b2] (m, ()) = some (.ok d, [c0, b1, c2]) ∧ 0 ≤ d ∧ d < m ∧ 0 ≤ c0 ∧ 0 ≤ c2 ∧ c2 ≤ b2 + 1 := by
  unfold r__law_take d__law_take
  simp only [SM.bind, SM.ret, SM.lift, SM.lifx, SM.map, SM.callO, SM.borrow, SM.bor, OSel.get, OSel.rest, OSel.join, bindX, Out.bind, OMem.get, OMem.set, OSub.map, runO, runZ, id, at0, at1, at2, ix0, ix2, set0, set2]
  by_cases hb : 0 < b0
  · simp only [decide_eq_true hb, if_true, if_pos hm, if_pos (div_ok hm hm2), at0, ix0, set0]
    exact ⟨_, _, _, rfl, Int.emod_nonneg _ (by omega), Int.emod_lt_of_pos _ hm, Int.ediv_nonneg h0 (by omega), h3, by omega⟩
  · have e1 : (0 : Int) < 2147483647 := by decide
    have e2 : (0 : Int) < 2147483587 := by decide
    have g1 : CMul 8177 (b2 + 1) := mul_ok (by decide)
    have g2 : CMul 104729 (b2 + 1) := mul_ok (by decide)
    have g3 : CPow (b1 + 8177 * (b2 + 1) + 109) 5 := pow_ok (by omega) (by omega) (by decide) (by decide)
    have l1 : 0 ≤ (b1 + 8177 * (b2 + 1) + 109) ^ Int.toNat 5 % 2147483647 := Int.emod_nonneg _ (by decide)
    have l2 : (b1 + 8177 * (b2 + 1) + 109) ^ Int.toNat 5 % 2147483647 < 2147483647 := Int.emod_lt_of_pos _ (by decide)
    have g4 : CPow ((b1 + 8177 * (b2 + 1) + 109) ^ Int.toNat 5 % 2147483647 + 104729 * (b2 + 1)) 3 := pow_ok (by omega) (by omega) (by decide) (by decide)
    have g5 : ∀ x : Int, CDivW x 16 := fun x => div_ok (by decide) (by decide)
    simp only [decide_eq_false hb, Bool.false_eq_true, if_false, at0, at1, at2, ix0, ix2, set0, set2, if_pos g1, if_pos g2, if_pos g3, if_pos g4, if_pos e1, if_pos e2, if_pos hm, if_pos (g5 _)]
    exact ⟨_, _, _, rfl, Int.emod_nonneg _ (by omega), Int.emod_lt_of_pos _ hm, h0, by omega, by omega⟩
def Bx (n : Nat) (x : List Int) : Prop := ∃ b0 b1 b2, x = [b0, b1, b2] ∧ 0 ≤ b0 ∧ 0 ≤ b1 ∧ b1 < 2147483629 ∧ 0 ≤ b2 ∧ b2 ≤ n
theorem Bx.mono {n m : Nat} {x : List Int} (h : Bx n x) (hm : n ≤ m) : Bx m x := by
  obtain ⟨b0, b1, b2, e, h0, h1, h2, h3, h4⟩ := h
  exact ⟨b0, b1, b2, e, h0, h1, h2, h3, by omega⟩
theorem Bx.take {K : PySem.W.Frag} {n : Nat} {x : List Int} (h : Bx n x) (hn : n < 2 ^ 20) {m : Int} (hm : 0 < m) (hm2 : m < 2 ^ 40) : ∃ (d : Int) (y : List Int), r__law_take K x (m, ()) = some (.ok d, y) ∧ 0 ≤ d ∧ d < m ∧ Bx (n + 1) y := by
  obtain ⟨b0, b1, b2, rfl, h0, h1, h2, h3, h4⟩ := h
  obtain ⟨d, c0, c2, e, d0, d1, e0, e1, e2⟩ := m_take K h0 h1 h2 h3 (by omega) hm hm2
  exact ⟨d, _, e, d0, d1, c0, b1, c2, rfl, e0, h1, h2, e1, by omega⟩
theorem m_is_character {s : List Nat} (hs : s.length ≤ 16777216) : r_is_character K (Dat.str s, ()) = some (.ok (decide (s.length = 1) && inS s CH)) := by
  unfold r_is_character d_is_character
  have e : s.length ≤ sizeLine := small_len hs
  simp only [SM.bind, SM.ret, SM.lift, SM.lifx, SM.map, SM.andB, SM.callO, SM.borrow, bindX, Out.bind, OMem.get, OMem.set, OSub.map, runO, runZ, id]
  simp only [SM.bind, SM.ret, SM.lift, SM.lifx, SM.map, SM.andB, SM.callO, SM.borrow, bindX, Out.bind, OMem.get, OMem.set, OSub.map, runO, runZ, id, Dat.asStr, if_pos e]
  by_cases h1 : s.length = 1
  · have h2 : decide ((s.length : Int) = 1) = true := decide_eq_true (by omega)
    simp only [SM.bind, SM.ret, SM.lift, SM.lifx, SM.map, SM.andB, SM.callO, SM.borrow, bindX, Out.bind, OMem.get, OMem.set, OSub.map, runO, runZ, id, h2, if_true, decide_eq_true h1, Bool.true_and]
    rfl
  · have h2 : decide ((s.length : Int) = 1) = false := decide_eq_false (by omega)
    simp only [SM.bind, SM.ret, SM.lift, SM.lifx, SM.map, SM.andB, SM.callO, SM.borrow, bindX, Out.bind, OMem.get, OMem.set, OSub.map, runO, runZ, id, h2, Bool.false_eq_true, if_false, decide_eq_false h1, Bool.false_and]
theorem m_box (c : Int) : ∃ x : List Int, r__law_box K (c, ()) = some (.ok x) ∧ Bx 0 x := by
  unfold r__law_box d__law_box
  have h1 : CPow 10 18 := ⟨by decide, by decide, by decide⟩
  have h2 : (0 : Int) < 2147483629 := by decide
  simp only [SM.bind, SM.ret, SM.lift, SM.lifx, SM.map, SM.andB, SM.orB, SM.callO, SM.borrow, SM.bor, SM.fail, SM.chain, SM.ite, PutI.ow, RFld.get, noX, bindX, Out.bind, OMem.get, OMem.set, OSub.map, OSel.get, OSel.rest, OSel.join, runO, runZ, runJ, id, if_true, if_false, Bool.false_eq_true, Bool.not_true, Bool.not_false, if_pos h1, if_pos h2]
  refine ⟨_, rfl, _, _, _, rfl, ?_, Int.emod_nonneg _ (by decide), Int.emod_lt_of_pos _ (by decide), by decide, by decide⟩
  split <;> omega
theorem m_cell (ns : List Int) (k : Int) (h0 : 0 ≤ k) : ∃ c : Int, r__law_cell K (ns, k, ()) = some (.ok c) := by
  unfold r__law_cell d__law_cell
  have h1 : CMul 8177 k := mul_ok (by decide)
  simp only [SM.bind, SM.ret, SM.lift, SM.lifx, SM.map, SM.andB, SM.orB, SM.callO, SM.borrow, SM.bor, SM.fail, SM.chain, SM.ite, PutI.ow, RFld.get, noX, bindX, Out.bind, OMem.get, OMem.set, OSub.map, OSel.get, OSel.rest, OSel.join, runO, runZ, runJ, id, if_true, if_false, Bool.false_eq_true, Bool.not_true, Bool.not_false]
  by_cases h : k < (ns.length : Int)
  · have e : ∃ c, atI ns k = some c := by
      obtain ⟨_, e⟩ := atI_lt (l := ns) h0 h
      exact ⟨_, e⟩
    obtain ⟨c, e⟩ := e
    simp only [SM.bind, SM.ret, SM.lift, SM.lifx, SM.map, SM.andB, SM.orB, SM.callO, SM.borrow, SM.bor, SM.fail, SM.chain, SM.ite, PutI.ow, RFld.get, noX, bindX, Out.bind, OMem.get, OMem.set, OSub.map, OSel.get, OSel.rest, OSel.join, runO, runZ, runJ, id, if_true, if_false, Bool.false_eq_true, Bool.not_true, Bool.not_false, decide_eq_true h, e]
    exact ⟨c, rfl⟩
  · simp only [SM.bind, SM.ret, SM.lift, SM.lifx, SM.map, SM.andB, SM.orB, SM.callO, SM.borrow, SM.bor, SM.fail, SM.chain, SM.ite, PutI.ow, RFld.get, noX, bindX, Out.bind, OMem.get, OMem.set, OSub.map, OSel.get, OSel.rest, OSel.join, runO, runZ, runJ, id, if_true, if_false, Bool.false_eq_true, Bool.not_true, Bool.not_false, decide_eq_false h, if_pos h1]
    exact ⟨_, rfl⟩
theorem cut_mem {l : List Nat} {a b : Option Int} {c : Nat} (h : c ∈ cut l a b) : c ∈ l := List.mem_of_mem_drop (List.mem_of_mem_take h)
theorem cut_len (l : List Nat) (a b : Option Int) : (cut l a b).length ≤ l.length := by
  unfold cut
  rw [List.length_take, List.length_drop]
  omega
def ALPH : List Nat := [97, 98, 122, 65, 90, 48, 57]
def ODDS : List Nat := [32, 95, 45, 10, 91, 64, 47, 58, 123, 33, 126]
def ALL : List Nat := ALPH ++ ODDS
theorem alnum_all : ∀ c ∈ ALL, Txt.isalnum (sOf [c]) = decide (c ∈ CH) := by decide +kernel
def rest7 : List (PyData × Bool) := [(.none, false), (.int 7, false), (.bool true, false), (.list [.str (sOf [97])], true), (.tuple [.str (sOf [97])], false), (.dict [(.str (sOf [97]), .int 0)], true), (.list [], true)]
def Vl (x : PyData × Bool) : Prop := (∃ s : List Nat, x = (.str (sOf s), false) ∧ s.length ≤ 500 ∧ ∀ c ∈ s, c ∈ ALL) ∨ x ∈ rest7
theorem m_law_value {n : Nat} {x : List Int} (h : Bx n x) (hn : n + 20 < 2 ^ 18) : ∃ y v, r__law_value K x () = some (.ok v, y) ∧ Vl v ∧ Bx (n + 20) y := by
  obtain ⟨d0, x0, e0, l0, u0, b0⟩ := h.take (K := K) (by omega) (m := 9) (by decide) (by decide)
  have hr : small62 d0 := ⟨by omega, by omega⟩
  have hlen : (rng 0 d0).length = d0.toNat := by simp [rng]
  have hsz : (rng 0 d0).length ≤ sizeLine := small_len (by rw [hlen]; omega)
  have sa : ALPH.length ≤ sizeLine := small_len (by decide)
  have ga : ∀ d : Int, 0 ≤ d → d < 7 → ∃ c, atI ALPH d = some c ∧ c ∈ ALPH := fun d h0 h1 => by
    obtain ⟨hlt, e⟩ := atI_lt (l := ALPH) h0 (by rw [show ALPH.length = 7 from rfl]; exact h1)
    exact ⟨_, e, List.getElem_mem hlt⟩
  unfold r__law_value d__law_value
  simp (instances := true) only [SM.bind, SM.ret, SM.lift, SM.lifx, SM.map, SM.andB, SM.orB, SM.callO, SM.borrow, SM.bor, SM.fail, SM.chain, SM.ite, PutI.ow, RFld.get, noX, bindX, Out.bind, OMem.get, OMem.set, OSub.map, OSel.get, OSel.rest, OSel.join, runO, runZ, id, if_true, if_false, Bool.false_eq_true, Bool.not_true, Bool.not_false, e0, if_pos hr, if_pos hsz]
  unfold ALPH at sa ga
  generalize hE : forS _ _ _ _ = E
  have hx : ∃ (b' : List Nat × Unit) (o' : OT [(0, tOwn tInt)]), E = some (.nxt (b', o')) ∧ b'.1.length ≤ 8 ∧ (∀ c ∈ b'.1, c ∈ ALPH) ∧ Bx (n + 9) o'.1 := by
    rw [← hE]
    refine (forS_inv (P := fun k (b : List Nat × Unit) (o : OT [(0, tOwn tInt)]) => b.1.length = k ∧ (∀ c ∈ b.1, c ∈ ALPH) ∧ Bx (n + 1 + k) o.1) _ 0 _ _ (fun z hz k b o hk hk2 hI => ?_) ⟨rfl, fun _ h => (List.not_mem_nil h).elim, b0⟩).imp fun b' => Exists.imp fun o' h => ⟨h.1, ?_, h.2.2.1, h.2.2.2.mono ?_⟩
    · obtain ⟨bl, bc, bb⟩ := hI
      rw [hlen] at hk2
      obtain ⟨d1, x1, e1, l1, u1, b1⟩ := bb.take (K := K) (by omega) (m := 7) (by decide) (by decide)
      obtain ⟨c, ec, hc⟩ := ga d1 l1 u1
      have s1 : b.1.length + [c].length ≤ sizeLine := by rw [sizeLine_eq, bl]; simp only [List.length_cons, List.length_nil]; omega
      refine ⟨(b.1 ++ [c], ()), (x1, ()), ?_, by rw [List.length_append, bl]; rfl, fun z hz => ?_, b1⟩
      · simp (instances := true) only [SM.bind, SM.ret, SM.lift, SM.lifx, SM.map, SM.andB, SM.orB, SM.callO, SM.borrow, SM.bor, SM.fail, SM.chain, SM.ite, PutI.ow, RFld.get, noX, bindX, Out.bind, OMem.get, OMem.set, OSub.map, OSel.get, OSel.rest, OSel.join, runO, runZ, id, if_true, if_false, Bool.false_eq_true, Bool.not_true, Bool.not_false, e1, if_pos sa, ec, if_pos s1]
      · rcases List.mem_append.mp hz with q | q
        · exact bc z q
        · rw [List.mem_singleton.mp q]; exact hc
    · have := h.2.1; rw [this, hlen]; omega
    · rw [hlen]; omega
  obtain ⟨⟨s, _⟩, ⟨x1, _⟩, rfl, hs, hc, b1⟩ := hx
  obtain ⟨d1, x2, e1, l1, u1, b2⟩ := b1.take (K := K) (by omega) (m := 6) (by decide) (by decide)
  simp (instances := true) only [SM.bind, SM.ret, SM.lift, SM.lifx, SM.map, SM.andB, SM.orB, SM.callO, SM.borrow, SM.bor, SM.fail, SM.chain, SM.ite, PutI.ow, RFld.get, noX, bindX, Out.bind, OMem.get, OMem.set, OSub.map, OSel.get, OSel.rest, OSel.join, runO, runZ, id, if_true, if_false, Bool.false_eq_true, Bool.not_true, Bool.not_false, e1]
  have hs : s.length ≤ 8 := hs
  have hc : ∀ c ∈ s, c ∈ ALPH := hc
  generalize hE2 : @ite _ (decide (d1 = 0) = true) _ _ _ = E2
  have hx2 : ∃ (b' : List Nat × Unit) (o' : OT [(0, tOwn tInt)]), E2 = some (.nxt (b', o')) ∧ b'.1.length ≤ 217 ∧ (∀ c ∈ b'.1, c ∈ ALPH) ∧ Bx (n + 12) o'.1 := by
    rw [← hE2]
    by_cases z : d1 = 0
    · obtain ⟨d2, x3, e2, l2, u2, b3⟩ := b2.take (K := K) (by omega) (m := 7) (by decide) (by decide)
      obtain ⟨d3, x4, e3, l3, u3, b4⟩ := b3.take (K := K) (by omega) (m := 200) (by decide) (by decide)
      obtain ⟨c, ec, hcc⟩ := ga d2 l2 u2
      have r1 : 0 ≤ 10 + d3 ∧ 10 + d3 ≤ 1000 ∧ [c].length ≤ 10000 := ⟨by omega, by omega, by simp⟩
      have fl : (List.replicate (10 + d3).toNat [c]).flatten.length = (10 + d3).toNat := by simp
      have s2 : s.length + (List.replicate (10 + d3).toNat [c]).flatten.length ≤ sizeLine := by rw [sizeLine_eq, fl]; omega
      refine ⟨(s ++ (List.replicate (10 + d3).toNat [c]).flatten, ()), (x4, ()), by simp (instances := true) only [SM.bind, SM.ret, SM.lift, SM.lifx, SM.map, SM.andB, SM.orB, SM.callO, SM.borrow, SM.bor, SM.fail, SM.chain, SM.ite, PutI.ow, RFld.get, noX, bindX, Out.bind, OMem.get, OMem.set, OSub.map, OSel.get, OSel.rest, OSel.join, runO, runZ, id, if_true, if_false, Bool.false_eq_true, Bool.not_true, Bool.not_false, decide_eq_true z, e2, if_pos sa, ec, e3, if_pos r1, if_pos s2], ?_, fun y hy => ?_, b4⟩
      · show (s ++ (List.replicate (10 + d3).toNat [c]).flatten).length ≤ 217
        rw [List.length_append, fl]; omega
      · rcases List.mem_append.mp hy with q | q
        · exact hc y q
        · obtain ⟨l, hl, hyl⟩ := List.mem_flatten.mp q
          rw [(List.mem_replicate.mp hl).2] at hyl
          rw [List.mem_singleton.mp hyl]; exact hcc
    · exact ⟨(s, ()), (x2, ()), by simp (instances := true) only [SM.bind, SM.ret, SM.lift, SM.lifx, SM.map, SM.andB, SM.orB, SM.callO, SM.borrow, SM.bor, SM.fail, SM.chain, SM.ite, PutI.ow, RFld.get, noX, bindX, Out.bind, OMem.get, OMem.set, OSub.map, OSel.get, OSel.rest, OSel.join, runO, runZ, id, if_true, if_false, Bool.false_eq_true, Bool.not_true, Bool.not_false, decide_eq_false z], by show s.length ≤ 217; omega, hc, b2.mono (by omega)⟩
  obtain ⟨⟨t, _⟩, ⟨y2, _⟩, rfl, ht, htc, c2⟩ := hx2
  have ht : t.length ≤ 217 := ht
  have htc : ∀ c ∈ t, c ∈ ALPH := htc
  have c2 : Bx (n + 12) y2 := c2
  have st : t.length ≤ sizeLine := small_len (by omega)
  obtain ⟨M, hM⟩ : ∃ M : Int, M = (t.length : Int) := ⟨_, rfl⟩
  have elt : (if t.length ≤ sizeLine then some (t.length : Int) else none) = some M := by rw [if_pos st, hM]
  obtain ⟨d4, y3, e4, l4, u4, c3⟩ := c2.take (K := K) (by omega) (m := M + 1) (by omega) (by omega)
  obtain ⟨d5, y4, e5, l5, u5, c4⟩ := c3.take (K := K) (by omega) (m := 10) (by decide) (by decide)
  obtain ⟨d6, y5, e6, l6, u6, c5⟩ := c4.take (K := K) (by omega) (m := 4) (by decide) (by decide)
  obtain ⟨d7, y6, e7, l7, u7, c6⟩ := c5.take (K := K) (by omega) (m := 2) (by decide) (by decide)
  obtain ⟨d8, y7, e8, l8, u8, c7⟩ := c6.take (K := K) (by omega) (m := 4) (by decide) (by decide)
  obtain ⟨d9, y8, e9, l9, u9, c8⟩ := c7.take (K := K) (by omega) (m := 2) (by decide) (by decide)
  obtain ⟨d10, y9, e10, l10, u10, c9⟩ := c8.take (K := K) (by omega) (m := 8) (by decide) (by decide)
  have g1 : ∃ c, atI [[32], [95], [45], [10], [91], [64], [47], [58], [123], [33]] d5 = some [c] ∧ c ∈ ODDS := by
    have hq : d5 = 0 ∨ d5 = 1 ∨ d5 = 2 ∨ d5 = 3 ∨ d5 = 4 ∨ d5 = 5 ∨ d5 = 6 ∨ d5 = 7 ∨ d5 = 8 ∨ d5 = 9 := by omega
    rcases hq with rfl | rfl | rfl | rfl | rfl | rfl | rfl | rfl | rfl | rfl <;> exact ⟨_, rfl, by decide⟩
  have g2 : ∃ c, atI [[32], [95], [45], [126]] d6 = some [c] ∧ c ∈ ODDS := by
    have hq : d6 = 0 ∨ d6 = 1 ∨ d6 = 2 ∨ d6 = 3 := by omega
    rcases hq with rfl | rfl | rfl | rfl <;> exact ⟨_, rfl, by decide⟩
  obtain ⟨o1, a1, h1⟩ := g1
  obtain ⟨o2, a2, h2⟩ := g2
  have r2 : 0 ≤ d7 ∧ d7 ≤ 1000 ∧ [o2].length ≤ 10000 := ⟨l7, by omega, by simp⟩
  have fl2 : (List.replicate d7.toNat [o2]).flatten.length = d7.toNat := by simp
  obtain ⟨u, hu⟩ : ∃ u, u = cut t none (some d4) := ⟨_, rfl⟩
  obtain ⟨v, hv⟩ : ∃ v, v = cut t (some d4) none := ⟨_, rfl⟩
  have ul : u.length ≤ 217 := by rw [hu]; exact Nat.le_trans (cut_len _ _ _) ht
  have vl : v.length ≤ 217 := by rw [hv]; exact Nat.le_trans (cut_len _ _ _) ht
  have s3 : u.length + [o1].length ≤ sizeLine := by rw [sizeLine_eq]; simp only [List.length_cons, List.length_nil]; omega
  have s4 : (u ++ [o1]).length + v.length ≤ sizeLine := by rw [sizeLine_eq, List.length_append]; simp only [List.length_cons, List.length_nil]; omega
  have s5 : (u ++ [o1] ++ v).length + (List.replicate d7.toNat [o2]).flatten.length ≤ sizeLine := by rw [sizeLine_eq, fl2, List.length_append, List.length_append]; simp only [List.length_cons, List.length_nil]; omega
  have p15 : [(([97] : List Nat), (0 : Int))].length ≤ 15 := by decide
  simp (instances := true) only [SM.bind, SM.ret, SM.lift, SM.lifx, SM.map, SM.andB, SM.orB, SM.callO, SM.borrow, SM.bor, SM.fail, SM.chain, SM.ite, PutI.ow, RFld.get, noX, bindX, Out.bind, OMem.get, OMem.set, OSub.map, OSel.get, OSel.rest, OSel.join, runO, runZ, id, if_true, if_false, Bool.false_eq_true, Bool.not_true, Bool.not_false, elt, e4, e5, e6, e7, a1, a2, if_pos r2, if_pos st, ← hu, ← hv, if_pos s3, if_pos s4, if_pos s5, if_pos p15]
  have g3 : ∃ i : Int, atI [(0 : Int), 1, 1, 1] d8 = some i ∧ 0 ≤ i ∧ i ≤ 1 := by
    have hq : d8 = 0 ∨ d8 = 1 ∨ d8 = 2 ∨ d8 = 3 := by omega
    rcases hq with rfl | rfl | rfl | rfl <;> exact ⟨_, rfl, by decide, by decide⟩
  obtain ⟨i, a3, i0, i1⟩ := g3
  have gm : CMul d9 d10 := by
    have hq : d9 = 0 ∨ d9 = 1 := by omega
    rcases hq with rfl | rfl <;> exact mul_ok (by decide)
  have ix : 0 ≤ i + d9 * d10 ∧ i + d9 * d10 < 9 := by
    have hq : d9 = 0 ∨ d9 = 1 := by omega
    rcases hq with rfl | rfl <;> constructor <;> omega
  obtain ⟨q, hq⟩ : ∃ q, q = i + d9 * d10 := ⟨_, rfl⟩
  rw [← hq] at ix
  have hw : ∀ c ∈ u ++ [o1] ++ v ++ (List.replicate d7.toNat [o2]).flatten, c ∈ ALL := fun c hcm => by
    unfold ALL
    rw [List.mem_append]
    rcases List.mem_append.mp hcm with z | z
    · rcases List.mem_append.mp z with z | z
      · rcases List.mem_append.mp z with z | z
        · exact .inl (htc c (cut_mem (hu ▸ z)))
        · rw [List.mem_singleton.mp z]; exact .inr h1
      · exact .inl (htc c (cut_mem (hv ▸ z)))
    · obtain ⟨l, hl, hyl⟩ := List.mem_flatten.mp z
      rw [(List.mem_replicate.mp hl).2] at hyl
      rw [List.mem_singleton.mp hyl]; exact .inr h2
  have hwl : (u ++ [o1] ++ v ++ (List.replicate d7.toNat [o2]).flatten).length ≤ 500 := by
    rw [List.length_append, List.length_append, List.length_append, fl2]; simp only [List.length_cons, List.length_nil]; omega
  simp (instances := true) only [SM.bind, SM.ret, SM.lift, SM.lifx, SM.map, SM.andB, SM.orB, SM.callO, SM.borrow, SM.bor, SM.fail, SM.chain, SM.ite, PutI.ow, RFld.get, noX, bindX, Out.bind, OMem.get, OMem.set, OSub.map, OSel.get, OSel.rest, OSel.join, runO, runZ, id, if_true, if_false, Bool.false_eq_true, Bool.not_true, Bool.not_false, retIx, e8, e9, e10, a3, if_pos gm, ← hq]
  generalize u ++ [o1] ++ v ++ (List.replicate d7.toNat [o2]).flatten = z at hw hwl
  have hcs : q = 0 ∨ q = 1 ∨ q = 2 ∨ q = 3 ∨ q = 4 ∨ q = 5 ∨ q = 6 ∨ q = 7 ∨ q = 8 := by omega
  have hta : ∀ c ∈ t, c ∈ ALL := fun c h => List.mem_append_left _ (htc c h)
  have cc : Bx (n + 20) y9 := c9.mono (by omega)
  rcases hcs with rfl | rfl | rfl | rfl | rfl | rfl | rfl | rfl | rfl
  · exact ⟨_, _, rfl, .inl ⟨t, rfl, by omega, hta⟩, cc⟩
  · exact ⟨_, _, rfl, .inl ⟨z, rfl, hwl, hw⟩, cc⟩
  · exact ⟨_, _, rfl, .inr (.head _), cc⟩
  · exact ⟨_, _, rfl, .inr (.tail _ (.head _)), cc⟩
  · exact ⟨_, _, rfl, .inr (.tail _ (.tail _ (.head _))), cc⟩
  · exact ⟨_, _, rfl, .inr (.tail _ (.tail _ (.tail _ (.head _)))), cc⟩
  · exact ⟨_, _, rfl, .inr (.tail _ (.tail _ (.tail _ (.tail _ (.head _))))), cc⟩
  · exact ⟨_, _, rfl, .inr (.tail _ (.tail _ (.tail _ (.tail _ (.tail _ (.head _)))))), cc⟩
  · exact ⟨_, _, rfl, .inr (.tail _ (.tail _ (.tail _ (.tail _ (.tail _ (.tail _ (.head _))))))), cc⟩
end K

namespace K
open PySem PySem.Spec PyProof.Rows L2 Mi
variable (K : PySem.W.Frag)
def val : List Nat := [118, 97, 108, 117, 101]
def non4 : List Nat := [110, 111, 110, 101]
theorem atI_nat {α : Type} {l : List α} {n : Nat} (h : n < l.length) : atI l (n : Int) = some l[n] := by
  obtain ⟨_, e⟩ := atI_lt (l := l) (d := n) (by omega) (by omega)
  exact e
theorem atI0 {α : Type} {a : α} {r : List α} : atI (a :: r) 0 = some a := atI_nat (l := a :: r) (n := 0) (by simp)
def bad (s : List Nat) : List Nat := s.filter fun c => !decide (c ∈ CH)
def dueL (s : List Nat) : List V := match bad s with
  | [] => [V.str (sOf non4)]
  | c :: _ => [V.str (sOf val), V.str (sOf [c])]
theorem toL (s : List Nat) : (sOf s).cps.toList = s := by simp [sOf]
theorem pdStr_of (s : List Nat) : pdStr (.str (sOf s)) = some s := by
  show some (sOf s).cps.toList = some s
  rw [toL]
theorem datV_of {w : V} {d : PyData} (h : okW d w) : datV (datOf w d) = some w := by
  cases d with
  | none => cases h; rfl
  | bool b => cases h; rfl
  | int i => cases h; rfl
  | str s => cases h; show some (V.str (sOf s.cps.toList)) = _; rw [sOf_toList]
  | list xs => rfl
  | tuple xs => rfl
  | dict xs => rfl
theorem all_small : ∀ c ∈ ALL, c < 1114112 := by decide
theorem m_law_due_no {w : V} {d : PyData} (h : pdS d = false) : r__law_due K ((w, d), ()) = some (.ok [V.str (sOf val), w]) := by
  unfold r__law_due d__law_due
  simp (instances := true) only [SM.bind, SM.ret, SM.lift, SM.lifx, SM.map, SM.andB, SM.orB, SM.callO, SM.borrow, SM.bor, SM.fail, SM.chain, SM.ite, PutI.ow, RFld.get, noX, bindX, Out.bind, OMem.get, OMem.set, OSub.map, OSel.get, OSel.rest, OSel.join, runO, runZ, id, if_true, if_false, Bool.false_eq_true, Bool.not_true, Bool.not_false, h]
  rfl
theorem m_law_due {w : V} {s : List Nat} (hl : s.length ≤ 500) (hs : ∀ c ∈ s, c ∈ ALL) : r__law_due K ((w, .str (sOf s)), ()) = some (.ok (dueL s)) := by
  unfold r__law_due d__law_due
  have h1 : pdS (.str (sOf s)) = true := rfl
  have s1 : s.length ≤ sizeLine := small_len (by omega)
  simp (instances := true) only [SM.bind, SM.ret, SM.lift, SM.lifx, SM.map, SM.andB, SM.orB, SM.callO, SM.borrow, SM.bor, SM.fail, SM.chain, SM.ite, PutI.ow, RFld.get, noX, bindX, Out.bind, OMem.get, OMem.set, OSub.map, OSel.get, OSel.rest, OSel.join, runO, runZ, id, if_true, if_false, Bool.false_eq_true, Bool.not_true, Bool.not_false, h1, pdStr_of, if_pos s1]
  generalize hE : mapS _ _ _ _ = E
  have hx : E = some (.ok (bad s), ()) := by
    rw [← hE]
    exact mapS_id s (fun c hc => by simp (instances := true) only [SM.bind, SM.ret, SM.lift, SM.lifx, SM.map, SM.andB, SM.orB, SM.callO, SM.borrow, SM.bor, SM.fail, SM.chain, SM.ite, PutI.ow, RFld.get, noX, bindX, Out.bind, OMem.get, OMem.set, OSub.map, OSel.get, OSel.rest, OSel.join, runO, runZ, id, if_true, if_false, Bool.false_eq_true, Bool.not_true, Bool.not_false, alnum_all c (hs c hc)]) (fun _ _ _ => rfl)
  subst hx
  have hok : okC (bad s) = true := List.all_eq_true.mpr fun c hc => decide_eq_true (all_small c (hs c (List.mem_filter.mp hc).1))
  have hok2 : (True ∧ okC (bad s) = true) := ⟨trivial, hok⟩
  unfold dueL
  cases hb : bad s with
  | nil =>
    rw [hb] at hok2
    have d1 : decide (([] : List Nat) = []) = true := rfl
    simp (instances := true) only [SM.bind, SM.ret, SM.lift, SM.lifx, SM.map, SM.andB, SM.orB, SM.callO, SM.borrow, SM.bor, SM.fail, SM.chain, SM.ite, PutI.ow, RFld.get, noX, bindX, Out.bind, OMem.get, OMem.set, OSub.map, OSel.get, OSel.rest, OSel.join, runO, runZ, id, if_true, if_false, Bool.false_eq_true, Bool.not_true, Bool.not_false, hok2, d1]
    rfl
  | cons c r =>
    rw [hb] at hok2
    have d1 : decide ((c :: r) = []) = false := rfl
    have a1 : atI (c :: r) 0 = some c := atI0
    simp (instances := true) only [SM.bind, SM.ret, SM.lift, SM.lifx, SM.map, SM.andB, SM.orB, SM.callO, SM.borrow, SM.bor, SM.fail, SM.chain, SM.ite, PutI.ow, RFld.get, noX, bindX, Out.bind, OMem.get, OMem.set, OSub.map, OSel.get, OSel.rest, OSel.join, runO, runZ, id, if_true, if_false, Bool.false_eq_true, Bool.not_true, Bool.not_false, hok2, and_self, d1, a1]
    rfl
def exC (c : Nat) : Exn := ⟨"InvalidCharacter", [("value", datOf (V.str (sOf [c])) (.str (sOf [c])))]⟩
theorem m_is_char1 (c : Nat) : r_is_character K (Dat.str [c], ()) = some (.ok (decide (c ∈ CH))) := by
  rw [m_is_character K (by simp), inS_one]
  simp
theorem ord_loop {G : FX} {L : LC} {os : Os} {body : Nat → Unit → OT os → Option (Out (Unit × OT os) (Unit × OT os) G.tr.A (OT G.ps))} {o : OT os} {p : OT G.ps} : ∀ (s : List Nat),
    (∀ c ∈ s, body c () o = if c ∈ CH then some (.nxt ((), o)) else some (.exc (exC c) p)) →
    forS (L := L) body s () o = match bad s with
      | [] => some (.nxt ((), o))
      | c :: _ => some (.exc (exC c) p)
  | [], _ => rfl
  | c :: s, h => by
    show Out.turn (body c () o) (forS body s) = _
    rw [h c List.mem_cons_self]
    by_cases hc : c ∈ CH
    · rw [if_pos hc]
      have e : bad (c :: s) = bad s := by unfold bad; rw [List.filter_cons_of_neg (by simp [hc])]
      rw [e]
      exact ord_loop s fun z hz => h z (List.mem_cons_of_mem _ hz)
    · rw [if_neg hc]
      have e : bad (c :: s) = c :: bad s := by unfold bad; rw [List.filter_cons_of_pos (by simp [hc])]
      rw [e]
      rfl
theorem m_in_order_no {w : V} {d : PyData} (h : pdS d = false) : r_in_order K ((w, d), ()) = some (.error ⟨"InvalidCharacter", [("value", datOf w d)]⟩) := by
  unfold r_in_order d_in_order
  simp (instances := true) only [SM.bind, SM.ret, SM.lift, SM.lifx, SM.map, SM.andB, SM.orB, SM.callO, SM.borrow, SM.bor, SM.fail, SM.chain, SM.ite, PutI.ow, RFld.get, noX, bindX, Out.bind, OMem.get, OMem.set, OSub.map, OSel.get, OSel.rest, OSel.join, runO, runZ, id, if_true, if_false, Bool.false_eq_true, Bool.not_true, Bool.not_false, h]
theorem m_in_order {w : V} {s : List Nat} (hl : s.length ≤ 500) : ∃ l, r_in_order K ((w, .str (sOf s)), ()) = some (match bad s with
    | [] => .ok l
    | c :: _ => .error (exC c)) := by
  unfold r_in_order d_in_order
  have h1 : pdS (.str (sOf s)) = true := rfl
  have s1 : s.length ≤ sizeLine := small_len (by omega)
  have hlen : (CH.filter fun c => decide (c ∈ s)).length ≤ 16777216 := Nat.le_trans (List.length_filter_le _ _) (by decide)
  have hcl : CH.length ≤ sizeLine := small_len (by decide)
  simp (instances := true) only [SM.bind, SM.ret, SM.lift, SM.lifx, SM.map, SM.andB, SM.orB, SM.callO, SM.borrow, SM.bor, SM.fail, SM.chain, SM.ite, PutI.ow, RFld.get, noX, bindX, Out.bind, OMem.get, OMem.set, OSub.map, OSel.get, OSel.rest, OSel.join, runO, runZ, id, if_true, if_false, Bool.false_eq_true, Bool.not_true, Bool.not_false, h1, pdStr_of, if_pos s1]
  generalize hE : forS _ _ _ _ = E
  have hx : E = match bad s with
      | [] => some (.nxt ((), ()))
      | c :: _ => some (.exc (exC c) ()) := by
    rw [← hE]
    refine ord_loop s fun c hc => ?_
    by_cases hcc : c ∈ CH
    · rw [if_pos hcc]
      simp (instances := true) only [SM.bind, SM.ret, SM.lift, SM.lifx, SM.map, SM.andB, SM.orB, SM.callO, SM.borrow, SM.bor, SM.fail, SM.chain, SM.ite, PutI.ow, RFld.get, noX, bindX, Out.bind, OMem.get, OMem.set, OSub.map, OSel.get, OSel.rest, OSel.join, runO, runZ, id, if_true, if_false, Bool.false_eq_true, Bool.not_true, Bool.not_false, m_is_char1 K, decide_eq_true hcc]
    · rw [if_neg hcc]
      simp (instances := true) only [SM.bind, SM.ret, SM.lift, SM.lifx, SM.map, SM.andB, SM.orB, SM.callO, SM.borrow, SM.bor, SM.fail, SM.chain, SM.ite, PutI.ow, RFld.get, noX, bindX, Out.bind, OMem.get, OMem.set, OSub.map, OSel.get, OSel.rest, OSel.join, runO, runZ, id, if_true, if_false, Bool.false_eq_true, Bool.not_true, Bool.not_false, m_is_char1 K, decide_eq_false hcc]
      rfl
  subst hx
  cases hb : bad s with
  | nil =>
    unfold CH at hcl hlen
    simp (instances := true) only [SM.bind, SM.ret, SM.lift, SM.lifx, SM.map, SM.andB, SM.orB, SM.callO, SM.borrow, SM.bor, SM.fail, SM.chain, SM.ite, PutI.ow, RFld.get, noX, bindX, Out.bind, OMem.get, OMem.set, OSub.map, OSel.get, OSel.rest, OSel.join, runO, runZ, id, if_true, if_false, Bool.false_eq_true, Bool.not_true, Bool.not_false, if_pos hcl, if_pos s1]
    refine ⟨CH.filter fun c => decide (c ∈ s), ?_⟩
    generalize hE : mapS _ _ _ _ = E
    have hx : E = some (.ok (CH.filter fun c => decide (c ∈ s)), ()) := by
      rw [← hE]
      exact mapS_id CH (fun c hc => by simp (instances := true) only [SM.bind, SM.ret, SM.lift, SM.lifx, SM.map, SM.andB, SM.orB, SM.callO, SM.borrow, SM.bor, SM.fail, SM.chain, SM.ite, PutI.ow, RFld.get, noX, bindX, Out.bind, OMem.get, OMem.set, OSub.map, OSel.get, OSel.rest, OSel.join, runO, runZ, id, if_true, if_false, Bool.false_eq_true, Bool.not_true, Bool.not_false, pdStr_of, if_pos s1]) (fun _ _ _ => rfl)
    subst hx
    unfold CH
    simp (instances := true) only [SM.bind, SM.ret, SM.lift, SM.lifx, SM.map, SM.andB, SM.orB, SM.callO, SM.borrow, SM.bor, SM.fail, SM.chain, SM.ite, PutI.ow, RFld.get, noX, bindX, Out.bind, OMem.get, OMem.set, OSub.map, OSel.get, OSel.rest, OSel.join, runO, runZ, id, if_true, if_false, Bool.false_eq_true, Bool.not_true, Bool.not_false, if_pos hlen]
  | cons c r => exact ⟨[], by simp (instances := true) only [SM.bind, SM.ret, SM.lift, SM.lifx, SM.map, SM.andB, SM.orB, SM.callO, SM.borrow, SM.bor, SM.fail, SM.chain, SM.ite, PutI.ow, RFld.get, noX, bindX, Out.bind, OMem.get, OMem.set, OSub.map, OSel.get, OSel.rest, OSel.join, runO, runZ, id, if_true, if_false, Bool.false_eq_true, Bool.not_true, Bool.not_false]⟩
end K

namespace K
open PySem PySem.Spec PyProof.Rows L2 Mi
variable (K : PySem.W.Frag)
theorem shB : SeqAt.shaped (PyData.list (List.map PyData.bool [true, true, false, false])) = true := by decide +kernel
theorem eqB : PyData.eqv (PyData.list (List.map PyData.bool [true, true, false, false])) (PyData.list (List.map PyData.bool [true, true, false, false])) = true := by decide +kernel
theorem m_law_caught_no {w : V} {d : PyData} (h : pdS d = false) (hw : okW d w) : r__law_caught K ((w, d), ()) = some (.ok [V.str (sOf val), w]) := by
  unfold r__law_caught d__law_caught
  have lk : List.lookup ("value" : Str) [(("value" : Str), datOf w d)] = some (datOf w d) := by simp [List.lookup]
  simp (instances := true) only [SM.bind, SM.ret, SM.lift, SM.lifx, SM.map, SM.andB, SM.orB, SM.callO, SM.borrow, SM.bor, SM.fail, SM.chain, SM.ite, PutI.ow, RFld.get, noX, bindX, Out.bind, OMem.get, OMem.set, OSub.map, OSel.get, OSel.rest, OSel.join, runO, runZ, id, if_true, if_false, Bool.false_eq_true, Bool.not_true, Bool.not_false, m_in_order_no K h, tryM, noExc, nonE, lk, datV_of hw, shB, eqB, and_self]
  rfl
theorem m_law_caught {w : V} {s : List Nat} (hl : s.length ≤ 500) : r__law_caught K ((w, .str (sOf s)), ()) = some (.ok (dueL s)) := by
  obtain ⟨l, e⟩ := m_in_order K (w := w) hl
  unfold r__law_caught d__law_caught dueL
  cases hb : bad s with
  | nil =>
    rw [hb] at e
    have e : r_in_order K ((w, .str (sOf s)), ()) = some (.ok l) := e
    simp (instances := true) only [SM.bind, SM.ret, SM.lift, SM.lifx, SM.map, SM.andB, SM.orB, SM.callO, SM.borrow, SM.bor, SM.fail, SM.chain, SM.ite, PutI.ow, RFld.get, noX, bindX, Out.bind, OMem.get, OMem.set, OSub.map, OSel.get, OSel.rest, OSel.join, runO, runZ, id, if_true, if_false, Bool.false_eq_true, Bool.not_true, Bool.not_false, e, tryM, noExc]
    rfl
  | cons c r =>
    rw [hb] at e
    have e : r_in_order K ((w, .str (sOf s)), ()) = some (.error ⟨"InvalidCharacter", [("value", datOf (V.str (sOf [c])) (.str (sOf [c])))]⟩) := e
    have lk : List.lookup ("value" : Str) [(("value" : Str), datOf (V.str (sOf [c])) (.str (sOf [c])))] = some (datOf (V.str (sOf [c])) (.str (sOf [c]))) := by simp [List.lookup]
    have dv : datV (datOf (V.str (sOf [c])) (.str (sOf [c]))) = some (V.str (sOf [c])) := datV_of rfl
    simp (instances := true) only [SM.bind, SM.ret, SM.lift, SM.lifx, SM.map, SM.andB, SM.orB, SM.callO, SM.borrow, SM.bor, SM.fail, SM.chain, SM.ite, PutI.ow, RFld.get, noX, bindX, Out.bind, OMem.get, OMem.set, OSub.map, OSel.get, OSel.rest, OSel.join, runO, runZ, id, if_true, if_false, Bool.false_eq_true, Bool.not_true, Bool.not_false, e, tryM, noExc, nonE, lk, dv, shB, eqB, and_self]
    rfl
def more4 : List Nat := [109, 111, 114, 101]
structure NS (x : PyData × Bool) : Prop where
  s : pdS x.1 = false
  r : pdIsLst x.1 = false → pdIsDct x.1 = false → ∃ l, reprX [.str (sOf val), x.1] = some l
  g : pdIsLst x.1 = true → ∃ xs l, x = (.list xs, true) ∧ xs.length < sizeLine ∧ reprX [.str (sOf val), .list (xs ++ [.str (sOf more4)])] = some l
  d : pdIsDct x.1 = true → ∃ ks l, x = (.dict ks, true) ∧ putAny (.dict ks, true) more4 (.int 1) = some (.dict (ks ++ [(.str (sOf more4), .int 1)]), true) ∧ reprX [.str (sOf val), .dict (ks ++ [(.str (sOf more4), .int 1)])] = some l
theorem some_of {A : Type} {o : Option A} (h : o.isSome = true) : ∃ l, o = some l := Option.isSome_iff_exists.mp h
theorem rp1 : ∃ l, reprX [.str (sOf val), .none] = some l := some_of (by decide +kernel)
theorem rp2 : ∃ l, reprX [.str (sOf val), .int 7] = some l := some_of (by decide +kernel)
theorem rp3 : ∃ l, reprX [.str (sOf val), .bool true] = some l := some_of (by decide +kernel)
theorem rp4 : ∃ l, reprX [.str (sOf val), .list [.str (sOf [97]), .str (sOf more4)]] = some l := some_of (by decide +kernel)
theorem rp5 : ∃ l, reprX [.str (sOf val), .tuple [.str (sOf [97])]] = some l := some_of (by decide +kernel)
theorem rp6 : ∃ l, reprX [.str (sOf val), .dict [(.str (sOf [97]), .int 0), (.str (sOf more4), .int 1)]] = some l := some_of (by decide +kernel)
theorem rp7 : ∃ l, reprX [.str (sOf val), .list [.str (sOf more4)]] = some l := some_of (by decide +kernel)
theorem rpN : ∃ l, reprX [.str (sOf non4)] = some l := some_of (by decide +kernel)
theorem rpC0 : ∀ c ∈ ALL, (reprX [.str (sOf val), .str (sOf [c])]).isSome = true := by decide +kernel
theorem kNe : keyNe more4 (.str (sOf [97])) = true := by decide +kernel
theorem ns_all : ∀ x ∈ rest7, NS x := by
  intro x hx
  simp only [rest7, List.mem_cons, List.not_mem_nil, or_false] at hx
  rcases hx with rfl | rfl | rfl | rfl | rfl | rfl | rfl
  · exact ⟨rfl, fun _ _ => rp1, (fun z => nomatch z), (fun z => nomatch z)⟩
  · exact ⟨rfl, fun _ _ => rp2, (fun z => nomatch z), (fun z => nomatch z)⟩
  · exact ⟨rfl, fun _ _ => rp3, (fun z => nomatch z), (fun z => nomatch z)⟩
  · obtain ⟨l, h⟩ := rp4
    exact ⟨rfl, (fun z => nomatch z), fun _ => ⟨_, l, rfl, by rw [sizeLine_eq]; simp, h⟩, (fun z => nomatch z)⟩
  · exact ⟨rfl, fun _ _ => rp5, (fun z => nomatch z), (fun z => nomatch z)⟩
  · obtain ⟨l, h⟩ := rp6
    refine ⟨rfl, (fun _ z => nomatch z), (fun z => nomatch z), fun _ => ⟨_, l, rfl, ?_, h⟩⟩
    unfold putAny
    exact if_pos ⟨by rw [sizeLine_eq]; simp, by simp only [List.all_cons, List.all_nil, kNe, Bool.and_self]⟩
  · obtain ⟨l, h⟩ := rp7
    exact ⟨rfl, (fun z => nomatch z), fun _ => ⟨_, l, rfl, by rw [sizeLine_eq]; simp, h⟩, (fun z => nomatch z)⟩
theorem kn2 {w : V} {e : PyData} (hw : okW e w) : knL (w, e) [V.str (sOf val), w] = some [.str (sOf val), e] := by
  have k2 : knW (w, e) w = some e := by unfold knW; exact if_pos rfl
  have k1 : knW (w, e) (V.str (sOf val)) = some (.str (sOf val)) := by
    unfold knW
    by_cases h : V.str (sOf val) = w
    · rw [if_pos h]
      subst h
      cases e with
      | str s => cases hw; rfl
      | none => cases hw
      | bool b => cases hw
      | int i => cases hw
      | list xs => obtain ⟨a, ha⟩ := hw; cases ha
      | tuple xs => obtain ⟨a, ha⟩ := hw; cases ha
      | dict xs => obtain ⟨a, ha⟩ := hw; cases ha
    · rw [if_neg h]; rfl
  unfold knL
  rw [k1]
  unfold knL
  rw [k2]
  rfl
theorem knS (z y : Str) : knW (V.str z, .str z) (V.str y) = some (.str y) := by
  unfold knW
  by_cases h : V.str y = V.str z
  · rw [if_pos h]
    cases h
    rfl
  · rw [if_neg h]; rfl
def dueP (s : List Nat) : List PyData := match bad s with
  | [] => [.str (sOf non4)]
  | c :: _ => [.str (sOf val), .str (sOf [c])]
theorem kn_due (z : Str) (s : List Nat) : knL (V.str z, .str z) (dueL s) = some (dueP s) := by
  unfold dueL dueP
  cases bad s with
  | nil =>
    show knL _ [V.str (sOf non4)] = some [.str (sOf non4)]
    unfold knL
    rw [knS]
    unfold knL
    rfl
  | cons c r =>
    show knL _ [V.str (sOf val), V.str (sOf [c])] = some [.str (sOf val), .str (sOf [c])]
    unfold knL
    rw [knS]
    unfold knL
    rw [knS]
    unfold knL
    rfl
theorem rp_due {s : List Nat} (hs : ∀ c ∈ s, c ∈ ALL) : ∃ l, reprX (dueP s) = some l := by
  unfold dueP
  cases hb : bad s with
  | nil => exact rpN
  | cons c r =>
    have hc : c ∈ bad s := by rw [hb]; exact List.mem_cons_self
    exact some_of (rpC0 c (hs c (List.mem_filter.mp hc).1))
end K

namespace K
open PySem PySem.Spec PyProof.Rows L2 Mi
variable (K : PySem.W.Frag)
theorem m_law (ns : List Int) : r_law K (ns, ()) = some (.ok true) := by
  unfold r_law d_law
  have hN : ∀ n : Int, 0 ≤ n → small62 (if (if n < 8 then n else 8) > 2 then (if n < 8 then n else 8) else 2) := fun n hn => by
    constructor <;> (split <;> try split) <;> omega
  have hN2 : ∀ n : Int, 0 ≤ n → (rng 0 (if (if n < 8 then n else 8) > 2 then (if n < 8 then n else 8) else 2)).length ≤ sizeLine := fun n hn => by
    rw [sizeLine_eq]
    unfold rng
    rw [List.length_map, List.length_range]
    split <;> (try split) <;> omega
  have h12 : small62 (12 : Int) := ⟨by decide, by decide⟩
  have l12 : (rng 0 12).length ≤ sizeLine := by rw [sizeLine_eq]; decide
  have n12 : (rng 0 12).length = 12 := by decide
  simp (instances := true) only [SM.bind, SM.ret, SM.lift, SM.lifx, SM.map, SM.andB, SM.orB, SM.callO, SM.borrow, SM.bor, SM.fail, SM.chain, SM.ite, PutI.ow, RFld.get, noX, bindX, Out.bind, OMem.get, OMem.set, OSub.map, OSel.get, OSel.rest, OSel.join, runO, runZ, id, if_true, if_false, Bool.false_eq_true, Bool.not_true, Bool.not_false, if_pos (hN _ (Int.natCast_nonneg _)), if_pos (hN2 _ (Int.natCast_nonneg _))]
  generalize hE : forS _ _ _ _ = E
  have hx : ∃ b' o', E = some (.nxt (b', o')) := by
    rw [← hE]
    refine (forS_inv (P := fun _ _ _ => True) _ 0 _ _ (fun k hk _ b o _ _ _ => ?_) trivial).imp fun b' h => h.imp fun o' h => h.1
    have hk0 : 0 ≤ k := by
      obtain ⟨j, _, e⟩ := List.mem_map.mp hk
      rw [← e]
      show 0 ≤ (0 : Int) + (j : Int)
      omega
    obtain ⟨c, ec⟩ := m_cell K ns k hk0
    obtain ⟨bx, eb, h0⟩ := m_box K c
    simp (instances := true) only [SM.bind, SM.ret, SM.lift, SM.lifx, SM.map, SM.andB, SM.orB, SM.callO, SM.borrow, SM.bor, SM.fail, SM.chain, SM.ite, PutI.ow, RFld.get, noX, bindX, Out.bind, OMem.get, OMem.set, OSub.map, OSel.get, OSel.rest, OSel.join, runO, runZ, id, if_true, if_false, Bool.false_eq_true, Bool.not_true, Bool.not_false, ec, eb, if_pos h12, if_pos l12]
    generalize hF : forS _ _ _ _ = F
    have hy : ∃ b' o', F = some (.nxt (b', o')) := by
      rw [← hF]
      refine (forS_inv (P := fun k _ (o : OT [(2, tOwn tInt)]) => Bx (20 * k) o.1) _ 0 _ _ (fun z hz k b o _ hk2 hI => ?_) h0).imp fun b' h => h.imp fun o' h => h.1
      rw [n12] at hk2
      obtain ⟨y, ⟨d, bb⟩, ev, hv, hb⟩ := m_law_value K hI (by omega)
      refine ⟨(), (y, ()), ?_, hb.mono (by omega)⟩
      simp (instances := true) only [SM.bind, SM.ret, SM.lift, SM.lifx, SM.map, SM.andB, SM.orB, SM.callO, SM.borrow, SM.bor, SM.fail, SM.chain, SM.ite, PutI.ow, RFld.get, noX, bindX, Out.bind, OMem.get, OMem.set, OSub.map, OSel.get, OSel.rest, OSel.join, runO, runZ, id, if_true, if_false, Bool.false_eq_true, Bool.not_true, Bool.not_false, ev]
      rw [pickW_eq (r := some (.nxt ((), ((y, ()) : OT [(2, tOwn tInt)])))) (fun w hw => ?_)]
      have hw : okW d w := hw
      rcases hv with ⟨s, hs, hl, hc⟩ | hr
      · have e1 : d = .str (sOf s) := congrArg Prod.fst hs
        have e2 : bb = false := congrArg Prod.snd hs
        subst e1 e2
        have hw : w = V.str (sOf s) := hw
        subst hw
        obtain ⟨l, hp⟩ := rp_due hc
        have il : pdIsLst (.str (sOf s)) = false := rfl
        have id' : pdIsDct (.str (sOf s)) = false := rfl
        simp (instances := true) only [SM.bind, SM.ret, SM.lift, SM.lifx, SM.map, SM.andB, SM.orB, SM.callO, SM.borrow, SM.bor, SM.fail, SM.chain, SM.ite, PutI.ow, RFld.get, noX, bindX, Out.bind, OMem.get, OMem.set, OSub.map, OSel.get, OSel.rest, OSel.join, runO, runZ, id, if_true, if_false, Bool.false_eq_true, Bool.not_true, Bool.not_false, m_law_due K hl hc, m_law_caught K hl, il, id', kn_due, List.map_id', hp, decide_true]
      · have O := ns_all _ hr
        have h1 := m_law_due_no K (w := w) O.s
        have h2 := m_law_caught_no K O.s hw
        have h1 : r__law_due K ((w, d), ()) = some (.ok [V.str (sOf val), w]) := h1
        have h2 : r__law_caught K ((w, d), ()) = some (.ok [V.str (sOf val), w]) := h2
        cases il : pdIsLst d with
        | true =>
          obtain ⟨xs, l, ex, hx, g2⟩ := O.g il
          have e1 : d = .list xs := congrArg Prod.fst ex
          have e2 : bb = true := congrArg Prod.snd ex
          subst e1 e2
          have hw2 : okW (.list (xs ++ [.str (sOf more4)])) w := hw
          have k2 := kn2 hw2
          have ag : isGL (PyData.list xs, true) = true := rfl
          have ap : appAny (PyData.list xs, true) (.str (sOf [109, 111, 114, 101])) = some ((), (.list (xs ++ [.str (sOf more4)]), true)) := if_pos hx
          have id' : pdIsDct (.list (xs ++ [.str (sOf more4)])) = false := rfl
          simp (instances := true) only [SM.bind, SM.ret, SM.lift, SM.lifx, SM.map, SM.andB, SM.orB, SM.callO, SM.borrow, SM.bor, SM.fail, SM.chain, SM.ite, PutI.ow, RFld.get, noX, bindX, Out.bind, OMem.get, OMem.set, OSub.map, OSel.get, OSel.rest, OSel.join, runO, runZ, id, if_true, if_false, Bool.false_eq_true, Bool.not_true, Bool.not_false, h1, h2, il, SM.onlyO, ag, SM.methO, ap, id', k2, List.map_id', g2, decide_true]
        | false =>
          cases id' : pdIsDct d with
          | true =>
            obtain ⟨ks, l, ex, hx, g2⟩ := O.d id'
            have e1 : d = .dict ks := congrArg Prod.fst ex
            have e2 : bb = true := congrArg Prod.snd ex
            subst e1 e2
            have hw2 : okW (.dict (ks ++ [(.str (sOf more4), .int 1)])) w := hw
            have k2 := kn2 hw2
            have hx : putAny (PyData.dict ks, true) [109, 111, 114, 101] (.int 1) = some (.dict (ks ++ [(.str (sOf more4), .int 1)]), true) := hx
            simp (instances := true) only [SM.bind, SM.ret, SM.lift, SM.lifx, SM.map, SM.andB, SM.orB, SM.callO, SM.borrow, SM.bor, SM.fail, SM.chain, SM.ite, PutI.ow, RFld.get, noX, bindX, Out.bind, OMem.get, OMem.set, OSub.map, OSel.get, OSel.rest, OSel.join, runO, runZ, id, if_true, if_false, Bool.false_eq_true, Bool.not_true, Bool.not_false, h1, h2, il, id', hx, k2, List.map_id', g2, decide_true]
          | false =>
            obtain ⟨l, g2⟩ := O.r il id'
            have g2 : reprX [.str (sOf val), d] = some l := g2
            simp (instances := true) only [SM.bind, SM.ret, SM.lift, SM.lifx, SM.map, SM.andB, SM.orB, SM.callO, SM.borrow, SM.bor, SM.fail, SM.chain, SM.ite, PutI.ow, RFld.get, noX, bindX, Out.bind, OMem.get, OMem.set, OSub.map, OSel.get, OSel.rest, OSel.join, runO, runZ, id, if_true, if_false, Bool.false_eq_true, Bool.not_true, Bool.not_false, h1, h2, il, id', kn2 hw, List.map_id', g2, decide_true]
    obtain ⟨b', o', rfl⟩ := hy
    exact ⟨(), (), rfl, trivial⟩
  obtain ⟨b', o', rfl⟩ := hx
  rfl
theorem sp_law {K : PySem.W.Frag} {mg : Str → Option Value} {H : Hp} {a : Addr} (ns : List Int) (hS : SqL K H a (ns.map V.int)) : spP mg [tScr K] tBool (r_law K) [.ref a] H (fun v _ => v = .bl true) fun _ _ _ => False := by
  obtain ⟨F, g, _, hS'⟩ := tab_start (T := []) (fun _ h => by cases h) List.nodup_nil hS
  refine ⟨(ns, ()), F, emp, ⟨.ref a, [], rfl, ⟨rfl, a, rfl, hS'⟩, rfl⟩, g, ?_⟩
  rw [show r_law K (ns, ()) = some (.ok true) from m_law K ns]
  exact fun v F' mm M' H' _ _ _ r => r.2
end K

namespace K
open PySem PySem.Spec PyProof.Rows L2 Mi

abbrev FnAt (M : Md) (nm : Str) (st : Stmt) : Prop := ∃ f fd, M.mg nm = some (.ref f) ∧ FunD M.K nm nm (defArgs st) (defBody st) (defScope st) [] [] f fd
abbrev Fr (M : Md) : Prop := ∀ (i : Nat) (x : Str), Bn[i]? = some x → M.mg x = none
theorem ok__law_cell {M : Md} {f : Addr} {fd : FuncData} (F : FunD M.K "_law_cell" "_law_cell" (defArgs st__law_cell) (defBody st__law_cell) (defScope st__law_cell) [] [] f fd) (fr : Fr M) (lks : L__law_cell M.K M) : FnOk M.P M.w M.K M.mg M.base (L2.CX M.P M.w) 1 f fd ps__law_cell (spP M.mg [(tScr M.K), tInt] tInt (r__law_cell M.K)) :=
  fn_P F (Lks := L__law_cell M.K) (tr := tInt) lks (z := (none)) fr (by decide +kernel) rfl (fun X l xo xs x => ((d__law_cell M.K).2 X l xo xs x)) (fun y h => by cases h)
theorem lk__law_cell {M : Md} (A : FnAt M "_law_cell" st__law_cell) (fr : Fr M) (lks : L__law_cell M.K M) : LkP M "_law_cell" ps__law_cell [(tScr M.K), tInt] tInt (r__law_cell M.K) 1 := by
  obtain ⟨f, fd, g, F⟩ := A
  exact ⟨f, fd, g, F.kp, F.bindsN fun _ _ _ _ _ _ us hl => match us, hl with | [_, _], _ => rfl, ok__law_cell F fr lks⟩
theorem ok__law_box {M : Md} {f : Addr} {fd : FuncData} (F : FunD M.K "_law_box" "_law_box" (defArgs st__law_box) (defBody st__law_box) (defScope st__law_box) [] [] f fd) (fr : Fr M) (lks : L__law_box M.K M) : FnOk M.P M.w M.K M.mg M.base (L2.CX M.P M.w) 1 f fd ps__law_box (spP M.mg [tInt] (tOwn tInt) (r__law_box M.K)) :=
  fn_P F (Lks := L__law_box M.K) (tr := (tOwn tInt)) lks (z := (none)) fr (by decide +kernel) rfl (fun X l xo xs x => ((d__law_box M.K).2 X l xo xs x)) (fun y h => by cases h)
theorem lk__law_box {M : Md} (A : FnAt M "_law_box" st__law_box) (fr : Fr M) (lks : L__law_box M.K M) : LkP M "_law_box" ps__law_box [tInt] (tOwn tInt) (r__law_box M.K) 1 := by
  obtain ⟨f, fd, g, F⟩ := A
  exact ⟨f, fd, g, F.kp, F.bindsN fun _ _ _ _ _ _ us hl => match us, hl with | [_], _ => rfl, ok__law_box F fr lks⟩
theorem ok__law_take {M : Md} {f : Addr} {fd : FuncData} (F : FunD M.K "_law_take" "_law_take" (defArgs st__law_take) (defBody st__law_take) (defScope st__law_take) [] [] f fd) (fr : Fr M) (lks : L__law_take M.K M) : FnOk M.P M.w M.K M.mg M.base (L2.CX M.P M.w) 1 f fd ps__law_take (spO M.mg (tOwn tInt) [tInt] tInt (r__law_take M.K)) :=
  fn_O F (Lks := L__law_take M.K) lks fr (by decide +kernel) rfl (fun X l xo xs x => ((d__law_take M.K).2 X l xo xs x))
theorem lk__law_take {M : Md} (A : FnAt M "_law_take" st__law_take) (fr : Fr M) (lks : L__law_take M.K M) : LkO M "_law_take" ps__law_take (tOwn tInt) [tInt] tInt (r__law_take M.K) 1 := by
  obtain ⟨f, fd, g, F⟩ := A
  exact ⟨f, fd, g, F.kp, F.bindsN fun _ _ _ _ _ _ us hl => match us, hl with | [_, _], _ => rfl, ok__law_take F fr lks⟩
theorem ok__law_value {M : Md} {f : Addr} {fd : FuncData} (F : FunD M.K "_law_value" "_law_value" (defArgs st__law_value) (defBody st__law_value) (defScope st__law_value) [] [] f fd) (fr : Fr M) (lks : L__law_value M.K M) : FnOk M.P M.w M.K M.mg M.base (L2.CX M.P M.w) 2 f fd ps__law_value (spO M.mg (tOwn tInt) [] tAnyO (r__law_value M.K)) :=
  fn_O F (Lks := L__law_value M.K) lks fr (by decide +kernel) rfl (fun X l xo xs x => ((d__law_value M.K).2 X l xo xs x))
theorem lk__law_value {M : Md} (A : FnAt M "_law_value" st__law_value) (fr : Fr M) (lks : L__law_value M.K M) : LkO M "_law_value" ps__law_value (tOwn tInt) [] tAnyO (r__law_value M.K) 2 := by
  obtain ⟨f, fd, g, F⟩ := A
  exact ⟨f, fd, g, F.kp, F.bindsN fun _ _ _ _ _ _ us hl => match us, hl with | [_], _ => rfl, ok__law_value F fr lks⟩
theorem ok__law_due {M : Md} {f : Addr} {fd : FuncData} (F : FunD M.K "_law_due" "_law_due" (defArgs st__law_due) (defBody st__law_due) (defScope st__law_due) [] [] f fd) (fr : Fr M) (lks : L__law_due M.K M) : FnOk M.P M.w M.K M.mg M.base (L2.CX M.P M.w) 1 f fd ps__law_due (spP M.mg [tRaw] (tOwnN tV) (r__law_due M.K)) :=
  fn_P F (Lks := L__law_due M.K) (tr := (tOwnN tV)) lks (z := (none)) fr (by decide +kernel) rfl (fun X l xo xs x => ((d__law_due M.K).2 X l xo xs x)) (fun y h => by cases h)
theorem lk__law_due {M : Md} (A : FnAt M "_law_due" st__law_due) (fr : Fr M) (lks : L__law_due M.K M) : LkP M "_law_due" ps__law_due [tRaw] (tOwnN tV) (r__law_due M.K) 1 := by
  obtain ⟨f, fd, g, F⟩ := A
  exact ⟨f, fd, g, F.kp, F.bindsN fun _ _ _ _ _ _ us hl => match us, hl with | [_], _ => rfl, ok__law_due F fr lks⟩
theorem ok_is_character {M : Md} {f : Addr} {fd : FuncData} (F : FunD M.K "is_character" "is_character" (defArgs st_is_character) (defBody st_is_character) (defScope st_is_character) [] [] f fd) (fr : Fr M) (lks : L_is_character M.K M) : FnOk M.P M.w M.K M.mg M.base (L2.CX M.P M.w) 1 f fd ps_is_character (spP M.mg [tDat] tBool (r_is_character M.K)) :=
  fn_P F (Lks := L_is_character M.K) (tr := tBool) lks (z := (none)) fr (by decide +kernel) rfl (fun X l xo xs x => ((d_is_character M.K).2 X l xo xs x)) (fun y h => by cases h)
theorem lk_is_character {M : Md} (A : FnAt M "is_character" st_is_character) (fr : Fr M) (lks : L_is_character M.K M) : LkP M "is_character" ps_is_character [tDat] tBool (r_is_character M.K) 1 := by
  obtain ⟨f, fd, g, F⟩ := A
  exact ⟨f, fd, g, F.kp, F.bindsN fun _ _ _ _ _ _ us hl => match us, hl with | [_], _ => rfl, ok_is_character F fr lks⟩
theorem ok_in_order {M : Md} {f : Addr} {fd : FuncData} (F : FunD M.K "in_order" "in_order" (defArgs st_in_order) (defBody st_in_order) (defScope st_in_order) [] [] f fd) (fr : Fr M) (lks : L_in_order M.K M) : FnOk M.P M.w M.K M.mg M.base (L2.CX M.P M.w) 3 f fd ps_in_order (spP M.mg [tRaw] tStr (r_in_order M.K)) :=
  fn_P F (Lks := L_in_order M.K) (tr := tStr) lks (z := (none)) fr (by decide +kernel) rfl (fun X l xo xs x => ((d_in_order M.K).2 X l xo xs x)) (fun y h => by cases h)
theorem lk_in_order {M : Md} (A : FnAt M "in_order" st_in_order) (fr : Fr M) (lks : L_in_order M.K M) : LkP M "in_order" ps_in_order [tRaw] tStr (r_in_order M.K) 3 := by
  obtain ⟨f, fd, g, F⟩ := A
  exact ⟨f, fd, g, F.kp, F.bindsN fun _ _ _ _ _ _ us hl => match us, hl with | [_], _ => rfl, ok_in_order F fr lks⟩
theorem ok__law_caught {M : Md} {f : Addr} {fd : FuncData} (F : FunD M.K "_law_caught" "_law_caught" (defArgs st__law_caught) (defBody st__law_caught) (defScope st__law_caught) [] [] f fd) (fr : Fr M) (lks : L__law_caught M.K M) : FnOk M.P M.w M.K M.mg M.base (L2.CX M.P M.w) 4 f fd ps__law_caught (spP M.mg [tRaw] (tOwnN tV) (r__law_caught M.K)) :=
  fn_P F (Lks := L__law_caught M.K) (tr := (tOwnN tV)) lks (z := (none)) fr (by decide +kernel) rfl (fun X l xo xs x => ((d__law_caught M.K).2 X l xo xs x)) (fun y h => by cases h)
theorem lk__law_caught {M : Md} (A : FnAt M "_law_caught" st__law_caught) (fr : Fr M) (lks : L__law_caught M.K M) : LkP M "_law_caught" ps__law_caught [tRaw] (tOwnN tV) (r__law_caught M.K) 4 := by
  obtain ⟨f, fd, g, F⟩ := A
  exact ⟨f, fd, g, F.kp, F.bindsN fun _ _ _ _ _ _ us hl => match us, hl with | [_], _ => rfl, ok__law_caught F fr lks⟩
theorem ok_law {M : Md} {f : Addr} {fd : FuncData} (F : FunD M.K "law" "law" (defArgs st_law) (defBody st_law) (defScope st_law) [] [] f fd) (fr : Fr M) (lks : L_law M.K M) : FnG M 5 f fd ps_law (spP M.mg [(tScr M.K)] tBool (r_law M.K)) :=
  fn_PG F (Lks := L_law M.K) (tr := tBool) lks (z := (none)) fr (by decide +kernel) rfl (fun X gd l xo xs x => ((d_law M.K).2 X gd l xo xs x)) (fun y h => by cases h)
theorem mg_str {M : Md} {x : Str} {z : Str} (h : ∃ t, M.mg x = some (.str z t)) : LkC M x (.str z) := by
  obtain ⟨t, h⟩ := h
  exact ⟨_, h, t, rfl⟩
theorem facts {P : Program} {w : World} {K : PySem.W.Frag} {h : Heap} {mg : Str → Option Value} {f : Addr} (X : K.In h) (G : h.Ns mainGlobals mg) (hfa : mg ("law" : Str) = some (.ref f)) (c : SaysX fa fn pr cv K) :
    ∃ fd : FuncData, (∀ (s : Shared) (v : Value), BindsTo s fd ⟨[v], []⟩ [("script", v)]) ∧ ∀ base : Heap, K.In base → base.Ns mainGlobals mg → FnG ⟨P, w, K, mg, base⟩ 5 f fd ["script"] (spP mg [(tScr K)] tBool (r_law K)) := by
  have cb := c.base
  have fr : ∀ (i : Nat) (x : Str), Bn[i]? = some x → mg x = none := fun i x hx => by
    have hj : fa[15 + i]? = some (.free x) := by
      match i, hx with
      | 0, hx => cases hx; rfl
      | 1, hx => cases hx; rfl
      | 2, hx => cases hx; rfl
      | 3, hx => cases hx; rfl
      | 4, hx => cases hx; rfl
      | 5, hx => cases hx; rfl
      | 6, hx => cases hx; rfl
      | 7, hx => cases hx; rfl
      | 8, hx => cases hx; rfl
      | 9, hx => cases hx; rfl
      | (n + 10), hx => cases hx
    exact He.free_ok X G (cb.fact (15 + i) (f := .free x) hj)
  have c_CHARACTERS : ∀ base : Heap, LkC ⟨P, w, K, mg, base⟩ "CHARACTERS" (.str (sOf [48, 49, 50, 51, 52, 53, 54, 55, 56, 57, 65, 66, 67, 68, 69, 70, 71, 72, 73, 74, 75, 76, 77, 78, 79, 80, 81, 82, 83, 84, 85, 86, 87, 88, 89, 90, 97, 98, 99, 100, 101, 102, 103, 104, 105, 106, 107, 108, 109, 110, 111, 112, 113, 114, 115, 116, 117, 118, 119, 120, 121, 122])) := fun base => mg_str (He.str_ok X G (cb.fact 14 (f := .str "CHARACTERS" (sOf [48, 49, 50, 51, 52, 53, 54, 55, 56, 57, 65, 66, 67, 68, 69, 70, 71, 72, 73, 74, 75, 76, 77, 78, 79, 80, 81, 82, 83, 84, 85, 86, 87, 88, 89, 90, 97, 98, 99, 100, 101, 102, 103, 104, 105, 106, 107, 108, 109, 110, 111, 112, 113, 114, 115, 116, 117, 118, 119, 120, 121, 122])) rfl))
  have k_glo_InvalidCharacter : mg "InvalidCharacter" = some (.ref (He.ga K "InvalidCharacter")) := He.glo_ok X G (cb.fact 9 (f := .glo "InvalidCharacter") rfl)
  have k_glo_TextError : mg "TextError" = some (.ref (He.ga K "TextError")) := He.glo_ok X G (cb.fact 10 (f := .glo "TextError") rfl)
  have k_glo_Absent : mg "Absent" = some (.ref (He.ga K "Absent")) := He.glo_ok X G (cb.fact 11 (f := .glo "Absent") rfl)
  have k_glo_NotSound : mg "NotSound" = some (.ref (He.ga K "NotSound")) := He.glo_ok X G (cb.fact 12 (f := .glo "NotSound") rfl)
  have k_xis_InvalidCharacter : ExcI K (He.ga K "InvalidCharacter") := c.excI 0 (C := "InvalidCharacter") rfl
  have k_no_InvalidCharacter_value : NoAttr K (He.ga K "InvalidCharacter") "value" := He.noat_ok (cb.fact 13 (f := .noat "InvalidCharacter" "value") rfl)
  have x_InvalidCharacter : ExF K (He.ga K "InvalidCharacter") .value := c.exc 1 (C := "InvalidCharacter") .value rfl
  have xb_InvalidCharacter : CrF K (He.ga K "TextError") .value := c.exb 2 (D := "TextError") .value rfl
  have l_exk_InvalidCharacter : ∀ base : Heap, LkXC ⟨P, w, K, mg, base⟩ "InvalidCharacter" ["value"] := fun base => ⟨He.glo_ok X G (cb.fact 9 (f := .glo "InvalidCharacter") rfl), x_InvalidCharacter.exm, x_InvalidCharacter.xf, fun g hg => by
    simp only [List.mem_cons, List.not_mem_nil, or_false] at hg
    rcases hg with rfl
    · exact k_no_InvalidCharacter_value⟩
  have l_exl_InvalidCharacter : ∀ base : Heap, LkX ⟨P, w, K, mg, base⟩ "InvalidCharacter" (He.ga K "InvalidCharacter") ["value"] 1 := fun base => by
    obtain ⟨fd, F⟩ := cb.def_ 9 (d := e_exc_InvalidCharacter) rfl
    exact lkX_1 (M := ⟨P, w, K, mg, base⟩) (k := 0) x_InvalidCharacter xb_InvalidCharacter (He.glo_ok X G (cb.fact 9 (f := .glo "InvalidCharacter") rfl)) (He.glo_ok X G (cb.fact 10 (f := .glo "TextError") rfl)) rfl F k_no_InvalidCharacter_value 0 1 2 (F.bindsN fun _ _ _ _ _ _ us hl => match us, hl with | [_, _], _ => rfl) (by decide +kernel) rfl rfl rfl rfl rfl (by decide) (by decide +kernel) (fun _ => rfl)
  have k_kbt_InvalidCharacter_ValueError : PySem.W.kitOne K (.ref (He.ga K "InvalidCharacter")) (.type "ValueError") = some true := (kit_bt x_InvalidCharacter "ValueError" (by decide +kernel)).trans (congrArg some (by decide +kernel))
  have k_kit_InvalidCharacter_TextError : PySem.W.kitOne K (.ref (He.ga K "InvalidCharacter")) (.ref (He.ga K "TextError")) = some true := kit_own (c.catch 3 (C := "InvalidCharacter") (D := "TextError") rfl)
  have k_kit_InvalidCharacter_Absent : PySem.W.kitOne K (.ref (He.ga K "InvalidCharacter")) (.ref (He.ga K "Absent")) = some false := kit_no (c.nocatch 4 (C := "InvalidCharacter") (D := "Absent") rfl) x_InvalidCharacter.exm
  have k_kit_InvalidCharacter_NotSound : PySem.W.kitOne K (.ref (He.ga K "InvalidCharacter")) (.ref (He.ga K "NotSound")) = some false := kit_no (c.nocatch 5 (C := "InvalidCharacter") (D := "NotSound") rfl) x_InvalidCharacter.exm
  have l__law_cell := fun base : Heap => lk__law_cell (M := ⟨P, w, K, mg, base⟩) (by
    obtain ⟨fd, F⟩ := cb.def_ 0 (d := e__law_cell) rfl
    exact ⟨_, fd, He.glo_ok X G (cb.fact 0 (f := .glo "_law_cell") rfl), F⟩) fr rfl
  have l__law_box := fun base : Heap => lk__law_box (M := ⟨P, w, K, mg, base⟩) (by
    obtain ⟨fd, F⟩ := cb.def_ 1 (d := e__law_box) rfl
    exact ⟨_, fd, He.glo_ok X G (cb.fact 1 (f := .glo "_law_box") rfl), F⟩) fr rfl
  have l__law_take := fun base : Heap => lk__law_take (M := ⟨P, w, K, mg, base⟩) (by
    obtain ⟨fd, F⟩ := cb.def_ 2 (d := e__law_take) rfl
    exact ⟨_, fd, He.glo_ok X G (cb.fact 2 (f := .glo "_law_take") rfl), F⟩) fr rfl
  have l__law_value := fun base : Heap => lk__law_value (M := ⟨P, w, K, mg, base⟩) (by
    obtain ⟨fd, F⟩ := cb.def_ 3 (d := e__law_value) rfl
    exact ⟨_, fd, He.glo_ok X G (cb.fact 3 (f := .glo "_law_value") rfl), F⟩) fr ⟨l__law_take base, rfl⟩
  have l__law_due := fun base : Heap => lk__law_due (M := ⟨P, w, K, mg, base⟩) (by
    obtain ⟨fd, F⟩ := cb.def_ 4 (d := e__law_due) rfl
    exact ⟨_, fd, He.glo_ok X G (cb.fact 4 (f := .glo "_law_due") rfl), F⟩) fr rfl
  have l_is_character := fun base : Heap => lk_is_character (M := ⟨P, w, K, mg, base⟩) (by
    obtain ⟨fd, F⟩ := cb.def_ 5 (d := e_is_character) rfl
    exact ⟨_, fd, He.glo_ok X G (cb.fact 5 (f := .glo "is_character") rfl), F⟩) fr ⟨c_CHARACTERS base, rfl⟩
  have l_in_order := fun base : Heap => lk_in_order (M := ⟨P, w, K, mg, base⟩) (by
    obtain ⟨fd, F⟩ := cb.def_ 6 (d := e_in_order) rfl
    exact ⟨_, fd, He.glo_ok X G (cb.fact 6 (f := .glo "in_order") rfl), F⟩) fr ⟨l_is_character base, l_exl_InvalidCharacter base, c_CHARACTERS base, rfl⟩
  have l__law_caught := fun base : Heap => lk__law_caught (M := ⟨P, w, K, mg, base⟩) (by
    obtain ⟨fd, F⟩ := cb.def_ 7 (d := e__law_caught) rfl
    exact ⟨_, fd, He.glo_ok X G (cb.fact 7 (f := .glo "_law_caught") rfl), F⟩) fr ⟨l_in_order base, l_exk_InvalidCharacter base, k_xis_InvalidCharacter, k_kbt_InvalidCharacter_ValueError, k_kit_InvalidCharacter_TextError, k_glo_TextError, k_kit_InvalidCharacter_Absent, k_glo_Absent, k_kit_InvalidCharacter_NotSound, k_glo_NotSound, rfl⟩
  obtain ⟨fd, F⟩ := cb.def_ 8 (d := e_law) rfl
  have e := hfa.symm.trans (He.glo_ok X G (cb.fact 8 (f := .glo "law") rfl))
  cases e
  have b := FunD.bindsA (ps := ["script"]) F fun _ _ _ _ _ _ us hl => match us, hl with | [_], _ => rfl
  exact ⟨fd, fun s v => b s [v] rfl, fun base _ _ => ok_law (M := ⟨P, w, K, mg, base⟩) F fr ⟨l__law_cell base, l__law_box base, l__law_value base, l__law_due base, l__law_caught base, rfl⟩⟩
end K

open PySem PySem.W PySem.Calls PyProof.Rows
theorem PySem.Challenge.cw_canontext_k02_errors_of_in_order_holds : PySem.Challenge.rw_canontext_k02_errors_of_in_order.Holds := by
  w_on; o_law
  refine HandSHeadRun.head_any (r := OpenLaw.row PySem.Challenge.rw_canontext_k02_errors_of_in_order) (q := view (OpenLaw.row PySem.Challenge.rw_canontext_k02_errors_of_in_order).prog [16]) (H := K.hk) (ob := K.ob) (M := 4000) (loose := K.loose) (d := HandSHeadRun.topDef (OpenLaw.row PySem.Challenge.rw_canontext_k02_errors_of_in_order).prog 16) (kwd := []) K.ob_eq
    (by kernel_rfl) (fun s => by kernel_rfl) K.run (by kernel_rfl) (by kernel_rfl) (by kernel_rfl) (by rfl) (by first | assumption | decide +kernel) (by decide +kernel) ⟨rfl, rfl, rfl, rfl, rfl, by decide +kernel⟩ ?hw ?hc
  case hw => w_witness2
  case hc =>
    refine Mi.walk_G (l := PySem.Challenge.rw_canontext_k02_errors_of_in_order) (n := 63) (k := 5) (x := "script") rfl (by decide) (by kernel_rfl) ⟨rfl, by decide, by decide⟩ ?F
    intro w mg fa h Y G hmg0
    obtain ⟨K0, KX, c⟩ := Y
    have hmg : mg ("law" : PySem.Str) = some (.ref fa) := by
      have e : (HandSHeadRun.topDef (OpenLaw.row PySem.Challenge.rw_canontext_k02_errors_of_in_order).prog 16).name = ("law" : PySem.Str) := by kernel_rfl
      rw [← e]
      exact hmg0
    obtain ⟨fd, hb, hF⟩ := K.facts (P := (PySem.Challenge.rw_canontext_k02_errors_of_in_order).prog) (w := w) KX G hmg c
    exact ⟨K0, fd, _, KX, hb, fun H a ns hS => K.sp_law ns hS, fun base h1 h2 => hF base h1 h2⟩


