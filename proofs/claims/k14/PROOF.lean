import PyProof.Rows.All
import Wide.All
import OpenK.AllK
import Wide.FinOn
import HandS.ForMost
import HandS.Exc
import HandS.ExcOwn
import HandS.WordsExc
import HandS.CallSlots
import HandS.Defaults
import HandS.Wide
import HandS.Comp
import HandS.IsInst
import HandS.Text
import HandS.StrMore
import HandS.Style
import HandS.RaiseMore
import HandS.Dict
import HandS.Codes
import HandS.Replace
import HandS.ReplaceList
import PyProof.Rows.StrStrike
import PyProof.Rows.RegReprOcc
import PyProof.Rows.StrRev
import PyProof.Rows.ListStrD
import KE.KStateDown
import Lean
import HandS.Base
import HandS.Call
import HandS.Ends
import HandS.More
import HandS.Words
import HandS.Head0
import HandS.Head1
import HandS.Head2
import HandS.HeadEnd
import HandS.HeadHook1
import HandS.HeadHook2
import HandS.Small
import HandS.Iter
import HandS.WordsDict
import HandS.DictComp
import HandS.MakeKwOnly
import HandS.Property
import HandS.ClsMeth
import HandS.HeadHook3
import PyProof.ReprRoads
import HandS.Finally
import PyProof.InstNe
import KE.KFmtOwn
import HandS.Lambda
import HandS.Nested
import KE.SortKeyHeap
import HandS.EndTab
import HandS.HeadHook4
import PyProof.ReprBulk
import PyProof.Rows.ReprShort
import PySem.Challenge.RW_canontext_k14_decomposed_forms
set_option Elab.async false
set_option linter.all false
set_option maxRecDepth 100000
set_option maxHeartbeats 8000000
/-! A layer of typed mirrors over HandS: values of plain Lean types stand for what the program's values hold. -/
namespace Mi
open PySem PySem.Spec PyProof.Rows L2

/-! ### heaps -/
def Sub (H H' : Hp) : Prop := ∀ a o, H a = some o → H' a = some o
theorem Sub.refl (H : Hp) : Sub H H := fun _ _ h => h
theorem Sub.trans {A B C : Hp} (h : Sub A B) (k : Sub B C) : Sub A C := fun a o e => k a o (h a o e)
theorem Sub.none {A B : Hp} (h : Sub A B) {p : Addr} (e : B p = none) : A p = none := by
  cases q : A p with
  | none => rfl
  | some o => rw [h p o q] at e; cases e
def emp : Hp := fun _ => none
def sing (a : Addr) (o : HO) : Hp := fun b => if b = a then some o else none
theorem sing_same {a : Addr} {o : HO} : sing a o a = some o := if_pos rfl
theorem sing_ne {a b : Addr} {o : HO} (h : b ≠ a) : sing a o b = none := if_neg h
def uni (A B : Hp) : Hp := fun p => match A p with
  | some o => some o
  | none => B p
theorem uni_l {A B : Hp} {p : Addr} {o : HO} (h : A p = some o) : uni A B p = some o := by unfold uni; rw [h]
theorem uni_r {A B : Hp} {p : Addr} (h : A p = none) : uni A B p = B p := by unfold uni; rw [h]
theorem uni_none {A B : Hp} {p : Addr} : uni A B p = none ↔ A p = none ∧ B p = none := by
  cases h : A p with
  | some o => rw [uni_l h]; simp
  | none => rw [uni_r h]; simp
theorem uni_emp (A : Hp) : uni A emp = A := by
  funext p; cases h : A p with
  | some o => exact uni_l h
  | none => rw [uni_r h] <;> rfl
theorem emp_uni (A : Hp) : uni emp A = A := rfl
/-- C is A and B, apart -/
structure Sep (A B C : Hp) : Prop where
  dis : ∀ p, A p = none ∨ B p = none
  eq : C = uni A B
theorem Sep.l {A B C : Hp} (s : Sep A B C) : Sub A C := fun a o h => by rw [s.eq]; exact uni_l h
theorem Sep.r {A B C : Hp} (s : Sep A B C) : Sub B C := fun a o h => by
  rw [s.eq]
  rcases s.dis a with e | e
  · rw [uni_r e]; exact h
  · rw [h] at e; cases e
theorem Sep.emp_l {A B : Hp} (s : Sep emp A B) : B = A := s.eq
theorem sep_emp_l (A : Hp) : Sep emp A A := ⟨fun _ => .inl rfl, rfl⟩
theorem sep_emp_r (A : Hp) : Sep A emp A := ⟨fun _ => .inr rfl, (uni_emp A).symm⟩
theorem Sep.comm {A B C : Hp} (s : Sep A B C) : Sep B A C := ⟨fun p => (s.dis p).symm, by
  rw [s.eq]; funext p
  rcases s.dis p with e | e
  · rw [uni_r e]
    cases h : B p with
    | some o => exact (uni_l h).symm
    | none => rw [uni_r h, e]
  · rw [uni_r e]
    cases h : A p with
    | some o => exact (uni_l h)
    | none => rw [uni_r h, e]⟩
theorem Sep.none {A B C : Hp} (s : Sep A B C) {p : Addr} (h : C p = none) : A p = none ∧ B p = none := by
  rw [s.eq] at h; exact uni_none.mp h
theorem Sep.assoc {A B C D E : Hp} (s : Sep A B C) (t : Sep D C E) : ∃ G, Sep D B G ∧ Sep A G E := by
  refine ⟨uni D B, ⟨fun p => ?_, rfl⟩, fun p => ?_, ?_⟩
  · rcases t.dis p with e | e
    · exact .inl e
    · exact .inr (s.none e).2
  · rcases t.dis p with e | e
    · rcases s.dis p with q | q
      · exact .inl q
      · exact .inr (uni_none.mpr ⟨e, q⟩)
    · exact .inl (s.none e).1
  · rw [t.eq, s.eq]; funext p
    cases hd : D p with
    | some o =>
      rw [uni_l hd]
      have ha : A p = Option.none := by
        rcases t.dis p with e | e
        · rw [hd] at e; cases e
        · exact (s.none e).1
      rw [uni_r ha, uni_l hd]
    | none =>
      rw [uni_r hd]
      cases ha : A p with
      | some o => rw [uni_l ha, uni_l ha]
      | none => rw [uni_r ha, uni_r ha, uni_r hd]
/-! ### tables of code objects: a mark in F stands for a table that grows -/
def CodeO (c : Addr) (q : Str) : HO := .ext fun h => ∃ (oc : Obj) (vs : Array Value) (t : Tok), h.get? c = some oc ∧ oc.data = .fields vs ∧ vs[1]? = some (.str q t)
def TabF (F H : Hp) (P : Addr) (q : Str) : Prop := ∃ ps : Array Value, H P = some (.tbl ps) ∧ TriplesOk ps.toList ∧ ∀ (pos : Pos) (cv : Value), codeAmong pos ps.toList = some cv → ∃ c, cv = .ref c ∧ F c = some (CodeO c q)
def HF (F H : Hp) (a : Addr) : HO → Prop
  | .tbl ps => ∃ q : Str, ps = #[.str q 0] ∧ TabF F H a q
  | o => H a = some o
def noTbl (o : HO) : Prop := ∀ ps, o ≠ .tbl ps
/-- what may be ours -/
def ownO (o : HO) : Prop := noTbl o ∧ ∀ φ, o ≠ .ext φ
theorem HF.at {F H : Hp} {a : Addr} {o : HO} (h : HF F H a o) (n : noTbl o) : H a = some o := by
  cases o with
  | tbl ps => exact absurd rfl (n ps)
  | _ => exact h
theorem HF.of {F H : Hp} {a : Addr} {o : HO} (h : H a = some o) (n : noTbl o) : HF F H a o := by
  cases o with
  | tbl ps => exact absurd rfl (n ps)
  | _ => exact h
theorem HF.ex {F H : Hp} {a : Addr} {o : HO} (h : HF F H a o) : ∃ u, H a = some u := by
  cases o with
  | tbl ps =>
    obtain ⟨_, _, ps, e, _⟩ := h
    exact ⟨_, e⟩
  | _ => exact ⟨_, h⟩
theorem HF.up {F F' H H' : Hp} {a : Addr} {o : HO} (h : HF F H a o) (s : Sub F F') (k : H' a = H a) : HF F' H' a o := by
  cases o with
  | tbl ps =>
    obtain ⟨q, e, ps, e1, e2, e3⟩ := h
    refine ⟨q, e, ps, by rw [k]; exact e1, e2, fun pos cv z => ?_⟩
    obtain ⟨c, e4, e5⟩ := e3 pos cv z
    exact ⟨c, e4, s _ _ e5⟩
  | _ => exact k.trans h
theorem HF.up' {F F' H H' : Hp} {a : Addr} {o : HO} (h : HF F H a o) (s : ∀ c φ, F c = some (.ext φ) → F' c = some (.ext φ)) (k : H' a = H a) : HF F' H' a o := by
  cases o with
  | tbl ps =>
    obtain ⟨q, e, ps, e1, e2, e3⟩ := h
    refine ⟨q, e, ps, by rw [k]; exact e1, e2, fun pos cv z => ?_⟩
    obtain ⟨c, e4, e5⟩ := e3 pos cv z
    exact ⟨c, e4, s _ _ e5⟩
  | _ => exact k.trans h
/-- what is held: F never changes, M may be changed by us -/
structure Good (F M H : Hp) : Prop where
  f : ∀ a o, F a = some o → HF F H a o
  m : Sub M H
  dis : ∀ p, F p = none ∨ M p = none
  nt : ∀ p o, M p = some o → ownO o
theorem Good.fnone {F M H : Hp} (g : Good F M H) {p : Addr} (e : H p = none) : F p = none := by
  cases q : F p with
  | none => rfl
  | some o =>
    obtain ⟨u, z⟩ := (g.f p o q).ex
    rw [z] at e; cases e
theorem Good.less {F M M' H : Hp} (g : Good F M H) (h : Sub M' M) : Good F M' H := ⟨g.f, h.trans g.m, fun p => (g.dis p).imp id fun e => h.none e, fun p o e => g.nt p o (h p o e)⟩
theorem sub_upd {F : Hp} {p : Addr} {o : HO} (h : F p = none) : Sub F (upd F p o) := fun a u e => by rw [upd_ne (ne_of_none e h)]; exact e
def SubN (F H : Hp) : Prop := ∀ a o, noTbl o → F a = some o → H a = some o
theorem Sub.n {F H : Hp} (s : Sub F H) : SubN F H := fun a o _ e => s a o e
theorem Good.fn {F M H : Hp} (g : Good F M H) : SubN F H := fun a o n e => (g.f a o e).at n
/-- a new object, frozen at once -/
theorem Good.newF {F M H : Hp} {p : Addr} {o : HO} (g : Good F M H) (h : H p = none) (n : noTbl o := by exact fun _ e => nomatch e) : Good (upd F p o) M (upd H p o) := by
  have hF : F p = none := g.fnone h
  have hM : M p = none := g.m.none h
  refine ⟨fun a u e => ?_, fun a u e => ?_, fun a => ?_, g.nt⟩
  · by_cases q : a = p
    · subst q; rw [upd_same] at e; cases e; exact HF.of upd_same n
    · rw [upd_ne q] at e; exact (g.f a u e).up (sub_upd hF) (upd_ne q)
  · have q : a ≠ p := ne_of_none e hM
    rw [upd_ne q]; exact g.m a u e
  · by_cases q : a = p
    · subst q; exact .inr hM
    · rw [upd_ne q]; exact g.dis a
/-- a new object of ours -/
theorem Good.newM {F M H : Hp} {p : Addr} {o : HO} (g : Good F M H) (h : H p = none) (n : ownO o := by exact ⟨(fun _ e => nomatch e), (fun _ e => nomatch e)⟩) : Good F (uni (sing p o) M) (upd H p o) ∧ Sep (sing p o) M (uni (sing p o) M) := by
  have hF : F p = none := g.fnone h
  have hM : M p = none := g.m.none h
  refine ⟨⟨fun a u e => ?_, fun a u e => ?_, fun a => ?_, fun a u e => ?_⟩, fun a => ?_, rfl⟩
  · exact (g.f a u e).up (.refl F) (upd_ne (ne_of_none e hF))
  · by_cases q : a = p
    · subst q; rw [uni_l sing_same] at e; rw [upd_same]; exact e
    · rw [uni_r (sing_ne q)] at e; rw [upd_ne q]; exact g.m a u e
  · by_cases q : a = p
    · subst q; exact .inl hF
    · rw [uni_r (sing_ne q)]; exact g.dis a
  · by_cases q : a = p
    · subst q; rw [uni_l sing_same] at e; cases e; exact n
    · rw [uni_r (sing_ne q)] at e; exact g.nt a u e
  · by_cases q : a = p
    · subst q; exact .inr hM
    · exact .inl (sing_ne q)
/-- an object of ours is changed -/
theorem Good.set {F M1 M H : Hp} {p : Addr} {o o' : HO} (g : Good F M H) (s : Sep (sing p o) M1 M) (n : ownO o' := by exact ⟨(fun _ e => nomatch e), (fun _ e => nomatch e)⟩) : ∃ M', Sep (sing p o') M1 M' ∧ Good F M' (upd H p o') := by
  have hM1 : M1 p = none := by
    rcases s.dis p with e | e
    · rw [sing_same] at e; cases e
    · exact e
  have hM : M p = some o := s.l p o sing_same
  have hF : F p = none := by
    rcases g.dis p with e | e
    · exact e
    · rw [hM] at e; cases e
  refine ⟨uni (sing p o') M1, ⟨fun a => ?_, rfl⟩, fun a u e => ?_, fun a u e => ?_, fun a => ?_, fun a u e => ?_⟩
  · by_cases q : a = p
    · subst q; exact .inr hM1
    · exact .inl (sing_ne q)
  · exact (g.f a u e).up (.refl F) (upd_ne (ne_of_none e hF))
  · by_cases q : a = p
    · subst q; rw [uni_l sing_same] at e; rw [upd_same]; exact e
    · rw [uni_r (sing_ne q)] at e; rw [upd_ne q]; exact g.m a u (s.r a u e)
  · by_cases q : a = p
    · subst q; exact .inl hF
    · rw [uni_r (sing_ne q)]
      rcases g.dis a with e | e
      · exact .inl e
      · exact .inr (s.none e).2
  · by_cases q : a = p
    · subst q; rw [uni_l sing_same] at e; cases e; exact n
    · rw [uni_r (sing_ne q)] at e; exact g.nt a u (s.r a u e)
/-- ours is frozen -/
theorem Good.freeze {F M1 M H A : Hp} (g : Good F M H) (s : Sep A M1 M) : Good (uni A F) M1 H ∧ Sub F (uni A F) ∧ Sub A (uni A F) := by
  have d : ∀ p, A p = none ∨ F p = none := fun p => by
    rcases g.dis p with e | e
    · exact .inr e
    · exact .inl (s.none e).1
  have sF : Sub F (uni A F) := fun a u e => by
    rcases d a with q | q
    · rw [uni_r q]; exact e
    · rw [q] at e; cases e
  refine ⟨⟨fun a u e => ?_, s.r.trans g.m, fun a => ?_, fun a u e => g.nt a u (s.r a u e)⟩, sF, fun a u e => uni_l e⟩
  · cases q : A a with
    | some w =>
      rw [uni_l q] at e
      have z := s.l a u (by rw [q]; exact e)
      exact HF.of (g.m a u z) (g.nt a u z).1
    | none => rw [uni_r q] at e; exact (g.f a u e).up sF rfl
  · rcases s.dis a with e | e
    · rcases g.dis a with q | q
      · exact .inl (uni_none.mpr ⟨e, q⟩)
      · exact .inr (s.none q).2
    · exact .inr e

/-- what was lent comes back -/
def mns (F A : Hp) : Hp := fun p => match A p with
  | some _ => none
  | none => F p
theorem mns_none {F A : Hp} {p : Addr} (h : A p = none) : mns F A p = F p := by unfold mns; rw [h]
theorem mns_some {F A : Hp} {p : Addr} {o : HO} (h : A p = some o) : mns F A p = none := by unfold mns; rw [h]
theorem Good.back {F F2 A M M' H : Hp} (g : Good F2 M' H) (s0 : Sep A M' M) (s : Sub F F2) (sA : Sub A F2) (d : ∀ p, A p = none ∨ F p = none) (own : ∀ p o, A p = some o → ownO o) : Sub F (mns F2 A) ∧ Good (mns F2 A) M H := by
  have no : ∀ {a o}, mns F2 A a = some o → A a = none ∧ F2 a = some o := fun {a o} e => by
    cases q : A a with
    | some w => rw [mns_some q] at e; cases e
    | none => rw [mns_none q] at e; exact ⟨rfl, e⟩
  refine ⟨fun a o e => ?_, fun a o e => ?_, fun a o e => ?_, fun a => ?_, fun a o e => ?_⟩
  · rcases d a with q | q
    · rw [mns_none q]; exact s a o e
    · rw [q] at e; cases e
  · obtain ⟨e1, e2⟩ := no e
    have z := g.f a o e2
    cases o with
    | tbl ps =>
      obtain ⟨q, e3, ps, e4, e5, e6⟩ := z
      refine ⟨q, e3, ps, e4, e5, fun pos cv hc => ?_⟩
      obtain ⟨c, e7, e8⟩ := e6 pos cv hc
      refine ⟨c, e7, ?_⟩
      have : A c = none := by
        cases q : A c with
        | none => rfl
        | some w =>
          have := sA c w q
          rw [e8] at this
          cases this
          exact absurd rfl ((own c _ q).2 _)
      rw [mns_none this]
      exact e8
    | _ => exact z
  · cases q : A a with
    | some w =>
      rw [s0.eq, uni_l q] at e
      cases e
      exact (g.f a _ (sA a _ q)).at (own a _ q).1
    | none => rw [s0.eq, uni_r q] at e; exact g.m a o e
  · cases q : A a with
    | some w => exact .inl (mns_some q)
    | none =>
      rw [mns_none q, s0.eq, uni_r q]
      exact g.dis a
  · rw [s0.eq] at e
    cases q : A a with
    | some w => rw [uni_l q] at e; cases e; exact own a _ q
    | none => rw [uni_r q] at e; exact g.nt a o e

/-! ### types -/
structure Ty where
  A : Type
  rep : A → V → Hp → Hp → Prop
  mono : ∀ {x v F F' m}, rep x v F m → Sub F F' → rep x v F' m
def Imm (t : Ty) : Prop := ∀ {x v F m}, t.rep x v F m → m = emp
/-- immutable values -/
abbrev imTy (A : Type) (r : A → V → Hp → Prop) (h : ∀ {x v F F'}, r x v F → Sub F F' → r x v F') : Ty := ⟨A, fun x v F m => m = emp ∧ r x v F, fun a s => ⟨a.1, h a.2 s⟩⟩
theorem imm_im {A : Type} {r : A → V → Hp → Prop} {h : ∀ {x v F F'}, r x v F → Sub F F' → r x v F'} : Imm (imTy A r h) := fun a => a.1
abbrev flat (A : Type) (g : A → V) : Ty := imTy A (fun x v _ => v = g x) fun a _ => a
abbrev tInt : Ty := flat Int V.int
abbrev tBool : Ty := flat Bool V.bl
abbrev tNone : Ty := flat Unit fun _ => V.non
def sOf (l : List Nat) : Str := ⟨l.toArray⟩
abbrev tStr : Ty := flat (List Nat) fun l => V.str (sOf l)
abbrev tChr : Ty := flat Nat fun c => V.str (sOf [c])

/-! ### data of any kind -/
inductive Dat where
  | non | bl (b : Bool) | int (i : Int) | str (s : List Nat) | lst (xs : List Dat) | tup (xs : List Dat) | dct (ks : List Key) (vs : List Dat) | opq
mutual
def DRep : Dat → V → Hp → Prop
  | .non, v, _ => v = .non
  | .bl b, v, _ => v = .bl b
  | .int i, v, _ => v = .int i
  | .str s, v, _ => v = .str (sOf s)
  | .opq, v, F => ∃ a, v = .ref a ∧ ((∃ xs, F a = some (.lst xs)) ∨ (∃ xs, F a = some (.tup xs)) ∨ ∃ kvs, F a = some (.dK kvs))
  | .lst xs, v, F => ∃ a vs, v = .ref a ∧ F a = some (.lst vs) ∧ DReps xs vs F
  | .tup xs, v, F => ∃ a vs, v = .ref a ∧ F a = some (.tup vs) ∧ DReps xs vs F
  | .dct ks xs, v, F => ∃ a o vs, v = .ref a ∧ F a = some (.frz o (.dK (ks.zip vs))) ∧ ks.length = vs.length ∧ ks.Nodup ∧ DReps xs vs F
def DReps : List Dat → List V → Hp → Prop
  | [], vs, _ => vs = []
  | x :: xs, vs, F => ∃ v r, vs = v :: r ∧ DRep x v F ∧ DReps xs r F
end
mutual
theorem DRep.mono : ∀ {x : Dat} {v : V} {F F' : Hp}, DRep x v F → Sub F F' → DRep x v F'
  | .non, _, _, _, h, _ => by unfold DRep at h ⊢; exact h
  | .bl _, _, _, _, h, _ => by unfold DRep at h ⊢; exact h
  | .int _, _, _, _, h, _ => by unfold DRep at h ⊢; exact h
  | .str _, _, _, _, h, _ => by unfold DRep at h ⊢; exact h
  | .opq, _, _, _, h, s => by
    unfold DRep at h ⊢
    obtain ⟨a, e, q⟩ := h
    exact ⟨a, e, q.imp (fun ⟨xs, z⟩ => ⟨xs, s _ _ z⟩) fun q => q.imp (fun ⟨xs, z⟩ => ⟨xs, s _ _ z⟩) fun ⟨xs, z⟩ => ⟨xs, s _ _ z⟩⟩
  | .lst xs, _, _, _, h, s => by
    unfold DRep at h ⊢
    obtain ⟨a, vs, e, q, r⟩ := h
    exact ⟨a, vs, e, s _ _ q, DReps.mono r s⟩
  | .tup xs, _, _, _, h, s => by
    unfold DRep at h ⊢
    obtain ⟨a, vs, e, q, r⟩ := h
    exact ⟨a, vs, e, s _ _ q, DReps.mono r s⟩
  | .dct ks xs, _, _, _, h, s => by
    unfold DRep at h ⊢
    obtain ⟨a, o, vs, e, q, l, nd, r⟩ := h
    exact ⟨a, o, vs, e, s _ _ q, l, nd, DReps.mono r s⟩
theorem DReps.mono : ∀ {xs : List Dat} {vs : List V} {F F' : Hp}, DReps xs vs F → Sub F F' → DReps xs vs F'
  | [], _, _, _, h, _ => by unfold DReps at h ⊢; exact h
  | x :: xs, _, _, _, h, s => by
    unfold DReps at h ⊢
    obtain ⟨v, r, e, q, k⟩ := h
    exact ⟨v, r, e, DRep.mono q s, DReps.mono k s⟩
end
abbrev tDat : Ty := imTy Dat DRep DRep.mono

/-! ### exceptions -/
structure Exn where
  cls : Str
  fs : List (Str × Dat)
def FldsOk (fs : List (Str × Dat)) (vs : List (Str × V)) (F : Hp) : Prop := ∀ f x, fs.lookup f = some x → ∃ v, vs.lookup f = some v ∧ DRep x v F
def ExnOk (mg : Str → Option Value) (ex : Exn) (cls : Value) (d : Option Addr) (F : Hp) : Prop :=
  mg ex.cls = some cls ∧ (ex.fs = [] ∨ ∃ dd vs, d = some dd ∧ F dd = some (.xd vs) ∧ FldsOk ex.fs vs F)
theorem ExnOk.mono {mg : Str → Option Value} {ex : Exn} {cls : Value} {d : Option Addr} {F F' : Hp} (h : ExnOk mg ex cls d F) (s : Sub F F') : ExnOk mg ex cls d F' := by
  refine ⟨h.1, h.2.imp id ?_⟩
  rintro ⟨dd, vs, e, q, k⟩
  refine ⟨dd, vs, e, s _ _ q, fun f x l => ?_⟩
  obtain ⟨v, e1, e2⟩ := k f x l
  exact ⟨v, e1, e2.mono s⟩

/-! ### the mirrors' monad -/
abbrev SM (O A : Type) : Type := O → Option (Except Exn A × O)
namespace SM
variable {O A B : Type}
def ret (x : A) : SM O A := fun o => some (.ok x, o)
def bind (m : SM O A) (k : A → SM O B) : SM O B := fun o => match m o with
  | none => none
  | some (.ok x, o') => k x o'
  | some (.error e, o') => some (.error e, o')
def fail : SM O A := fun _ => none
def raise (e : Exn) : SM O A := fun o => some (.error e, o)
def lift (m : Option A) : SM O A := fun o => match m with
  | some x => some (.ok x, o)
  | none => none
def lifx (m : Option (Except Exn A)) : SM O A := fun o => match m with
  | some r => some (r, o)
  | none => none
end SM

/-! ### contexts -/
abbrev Ctx : Type 1 := List (Option ((t : Ty) × t.A))
def CtxOk (Γ : Ctx) (σ : L2.St) (F : Hp) : Prop := Γ.length = σ.length ∧ ∀ (i : Nat) (t : Ty) (x : t.A), Γ[i]? = some (some ⟨t, x⟩) → ∃ v, σ[i]? = some (some v) ∧ t.rep x v F emp
theorem CtxOk.mono {Γ : Ctx} {σ : L2.St} {F F' : Hp} (h : CtxOk Γ σ F) (s : Sub F F') : CtxOk Γ σ F' := ⟨h.1, fun i t x e => by
  obtain ⟨v, e1, e2⟩ := h.2 i t x e
  exact ⟨v, e1, t.mono e2 s⟩⟩
theorem CtxOk.set {Γ : Ctx} {σ : L2.St} {F : Hp} {i : Nat} {t : Ty} {x : t.A} {v : V} (h : CtxOk Γ σ F) (r : t.rep x v F emp) : CtxOk (Γ.set i (some ⟨t, x⟩)) (σ.set i (some v)) F := by
  refine ⟨by simp [h.1], fun j u y e => ?_⟩
  by_cases q : j = i
  · subst q
    by_cases l : j < Γ.length
    · rw [List.getElem?_set_self l] at e
      obtain ⟨rfl, e2⟩ := Sigma.mk.inj (Option.some.inj (Option.some.inj e))
      cases e2
      exact ⟨v, List.getElem?_set_self (by rw [← h.1]; exact l), r⟩
    · rw [List.getElem?_eq_none (by simpa using l)] at e; cases e
  · rw [List.getElem?_set_ne (Ne.symm q)] at e ⊢
    exact h.2 j u y e
/-- a slot of which nothing is known any more -/
theorem CtxOk.out {Γ : Ctx} {σ : L2.St} {F : Hp} {i : Nat} {w : Option V} (h : CtxOk Γ σ F) : CtxOk (Γ.set i none) (σ.set i w) F := by
  refine ⟨by simp [h.1], fun j u y e => ?_⟩
  by_cases q : j = i
  · subst q
    by_cases l : j < Γ.length
    · rw [List.getElem?_set_self l] at e; cases e
    · rw [List.getElem?_eq_none (by simpa using l)] at e; cases e
  · rw [List.getElem?_set_ne (Ne.symm q)] at e ⊢
    exact h.2 j u y e
/-- less is known -/
def CtxLe (Γ' Γ : Ctx) : Prop := Γ'.length = Γ.length ∧ ∀ (i : Nat) (z : (t : Ty) × t.A), Γ'[i]? = some (some z) → Γ[i]? = some (some z)
theorem CtxLe.refl (Γ : Ctx) : CtxLe Γ Γ := ⟨rfl, fun _ _ h => h⟩
theorem CtxOk.le {Γ Γ' : Ctx} {σ : L2.St} {F : Hp} (h : CtxOk Γ σ F) (l : CtxLe Γ' Γ) : CtxOk Γ' σ F := ⟨l.1.trans h.1, fun i t x e => h.2 i t x (l.2 i _ e)⟩
theorem CtxLe.nil : CtxLe [] [] := .refl _
theorem CtxLe.same {Γ' Γ : Ctx} {z : Option ((t : Ty) × t.A)} (h : CtxLe Γ' Γ) : CtxLe (z :: Γ') (z :: Γ) := ⟨by simp [h.1], fun i w e => by
  cases i with
  | zero => exact e
  | succ i => exact h.2 i w (by simpa using e)⟩
theorem CtxLe.drop {Γ' Γ : Ctx} {z : Option ((t : Ty) × t.A)} (h : CtxLe Γ' Γ) : CtxLe (none :: Γ') (z :: Γ) := ⟨by simp [h.1], fun i w e => by
  cases i with
  | zero => cases e
  | succ i => exact h.2 i w (by simpa using e)⟩

/-! ### what we own -/
abbrev Os : Type 1 := List (Nat × Ty)
@[reducible] def OT : Os → Type
  | [] => Unit
  | p :: r => p.2.A × OT r
def OwnOk : (os : Os) → OT os → L2.St → Hp → Hp → Hp → Prop
  | [], _, _, _, M, R => M = R
  | p :: r, o, σ, F, M, R => ∃ v m M', σ[p.1]? = some (some v) ∧ p.2.rep o.1 v F m ∧ Sep m M' M ∧ OwnOk r o.2 σ F M' R
theorem OwnOk.mono : ∀ {os : Os} {o : OT os} {σ : L2.St} {F F' M R : Hp}, OwnOk os o σ F M R → Sub F F' → OwnOk os o σ F' M R
  | [], _, _, _, _, _, _, h, _ => h
  | _ :: _, _, _, _, _, _, _, ⟨v, m, M', e, r, s, k⟩, h => ⟨v, m, M', e, Ty.mono _ r h, s, k.mono h⟩
/-- the slots of what we own are the same -/
theorem OwnOk.slots : ∀ {os : Os} {o : OT os} {σ σ' : L2.St} {F M R : Hp}, OwnOk os o σ F M R → (∀ p ∈ os, σ'[p.1]? = σ[p.1]?) → OwnOk os o σ' F M R
  | [], _, _, _, _, _, _, h, _ => h
  | p :: r, _, _, _, _, _, _, ⟨v, m, M', e, q, s, k⟩, h => ⟨v, m, M', (h p List.mem_cons_self).trans e, q, s, k.slots fun z hz => h z (List.mem_cons_of_mem _ hz)⟩
/-- the rest is more -/
theorem OwnOk.frame : ∀ {os : Os} {o : OT os} {σ : L2.St} {F M R A M2 : Hp}, OwnOk os o σ F M R → Sep A M M2 → ∃ R2, Sep A R R2 ∧ OwnOk os o σ F M2 R2
  | [], _, _, _, M, R, A, M2, h, s => ⟨M2, by have h' : M = R := h; rw [← h']; exact s, rfl⟩
  | p :: r, o, σ, F, M, R, A, M2, ⟨v, m, M', e, q, s, k⟩, t => by
    obtain ⟨G, s1, s2⟩ := s.assoc t
    obtain ⟨R2, r1, r2⟩ := k.frame s1
    exact ⟨R2, r1, v, m, G, e, q, s2, r2⟩
theorem OwnOk.unframe : ∀ {os : Os} {o : OT os} {σ : L2.St} {F M R A R2 : Hp}, OwnOk os o σ F M R2 → Sep A R R2 → ∃ M1, Sep A M1 M ∧ OwnOk os o σ F M1 R
  | [], _, _, _, M, R, A, R2, h, s => ⟨R, by have h' : M = R2 := h; rw [h']; exact s, rfl⟩
  | p :: r, o, σ, F, M, R, A, R2, ⟨v, m, M', e, q, s, k⟩, t => by
    obtain ⟨M1, s1, k1⟩ := k.unframe t
    obtain ⟨G, g1, g2⟩ := s1.assoc s
    exact ⟨G, g2, v, m, M1, e, q, g1, k1⟩
/-- where an owned thing stands -/
inductive OMem : Os → Nat → Ty → Type 1
  | here {i : Nat} {t : Ty} {r : Os} : OMem ((i, t) :: r) i t
  | there {p : Nat × Ty} {i : Nat} {t : Ty} {r : Os} : OMem r i t → OMem (p :: r) i t
def OMem.get : {os : Os} → {i : Nat} → {t : Ty} → OMem os i t → OT os → t.A
  | _, _, _, .here, o => o.1
  | _, _, _, .there h, o => h.get o.2
def OMem.set : {os : Os} → {i : Nat} → {t : Ty} → OMem os i t → t.A → OT os → OT os
  | _, _, _, .here, x, o => (x, o.2)
  | _, _, _, .there h, x, o => (o.1, h.set x o.2)
theorem OMem.at : ∀ {os : Os} {i : Nat} {t : Ty} (h : OMem os i t) {o : OT os} {σ : L2.St} {F M R : Hp}, OwnOk os o σ F M R →
    ∃ v m M', σ[i]? = some (some v) ∧ t.rep (h.get o) v F m ∧ Sep m M' M ∧ ∀ x m' M2 F', Sub F F' → t.rep x v F' m' → Sep m' M' M2 → OwnOk os (h.set x o) σ F' M2 R
  | _, _, _, .here, _, _, _, _, _, ⟨v, m, M', e, q, s, k⟩ => ⟨v, m, M', e, q, s, fun x m' M2 F' f r s' => ⟨v, m', M', e, r, s', k.mono f⟩⟩
  | _, _, _, .there h, o, σ, F, M, R, ⟨v, m, M', e, q, s, k⟩ => by
    obtain ⟨v1, m1, M1, e1, q1, s1, k1⟩ := h.at k
    obtain ⟨G, g1, g2⟩ := s1.assoc s
    refine ⟨v1, m1, G, e1, q1, g2, fun x m' M2 F' f r s' => ?_⟩
    obtain ⟨Z, z1, z2⟩ := g1.assoc s'
    exact ⟨v, m, Z, e, Ty.mono _ q f, z2, k1 x m' Z F' f r z1⟩

/-! ### the judgement of expressions -/
def best (X : Cx) (e : Expr) : TE := fun σ H Q => ∃ t, PE X e t ∧ t σ H Q
theorem pe_best (X : Cx) (e : Expr) : PE X e (best X e) := ⟨fun pins s σ H Q I ⟨_, p, h⟩ => p.run pins s σ H Q I h⟩
def bestT (X : Cx) (e : Expr) : TT := fun σ H Q => ∃ t, PT X e t ∧ t σ H Q
theorem pt_best (X : Cx) (e : Expr) : PT X e (bestT X e) := ⟨fun pins s σ H Q I ⟨_, p, h⟩ => p.run pins s σ H Q I h⟩
def bestA (X : Cx) (es : List Expr) : TA := fun σ H Q => ∃ t, PA X es t ∧ t σ H Q
theorem pa_best (X : Cx) (es : List Expr) : PA X es (bestA X es) := ⟨fun pos pins s σ H Q I ⟨_, p, h⟩ => p.run pos pins s σ H Q I h⟩
def bestS (X : Cx) (st : Stmt) : TS := fun D σ H => ∃ t, PS X st t ∧ t D σ H
theorem ps_best (X : Cx) (st : Stmt) : PS X st (bestS X st) := ⟨fun pins s σ H D I ⟨_, p, h⟩ => p.run pins s σ H D I h⟩
def bestB (X : Cx) (st : List Stmt) : TS := fun D σ H => ∃ t, PSs X st t ∧ t D σ H
theorem pss_best (X : Cx) (st : List Stmt) : PSs X st (bestB X st) := ⟨fun pins s σ H D I ⟨_, p, h⟩ => p.run pins s σ H D I h⟩

/-- what is wanted behind a mirror's end -/
def Want {A O : Type} (r : Option (Except Exn A × O)) (N : A → O → Prop) (E : Exn → O → Prop) : Prop := match r with
  | none => False
  | some (.ok x, o) => N x o
  | some (.error e, o) => E e o
theorem Want.ok {A O : Type} {N : A → O → Prop} {E : Exn → O → Prop} {x : A} {o : O} (h : N x o) : Want (some (.ok x, o)) N E := h
theorem Want.bind {A B O : Type} {m : SM O A} {k : A → SM O B} {o : O} {N : B → O → Prop} {E : Exn → O → Prop} (h : Want (SM.bind m k o) N E) : Want (m o) (fun x o' => Want (k x o') N E) E := by
  unfold SM.bind at h
  cases e : m o with
  | none => rw [e] at h; exact h
  | some r =>
    obtain ⟨r, o'⟩ := r
    rw [e] at h
    cases r with
    | ok x => exact h
    | error x => exact h
theorem Want.imp {A O : Type} {r : Option (Except Exn A × O)} {N N' : A → O → Prop} {E E' : Exn → O → Prop} (h : Want r N E) (hn : ∀ x o, N x o → N' x o) (he : ∀ x o, E x o → E' x o) : Want r N' E' := by
  cases r with
  | none => exact h
  | some r =>
    obtain ⟨r, o'⟩ := r
    cases r with
    | ok x => exact hn _ _ h
    | error x => exact he _ _ h

/-- behind an expression: its value v holds x, we own o -/
def NormE (os : Os) (t : Ty) (σ : L2.St) (F R : Hp) (Q : VK) (x : t.A) (o : OT os) : Prop :=
  ∀ v F' M1 m M' H', Sub F F' → OwnOk os o σ F' M1 R → Sep m M1 M' → Good F' M' H' → t.rep x v F' m → Q v H'
def ExcE (X : Cx) (os : Os) (σ : L2.St) (F R : Hp) (W : WX) (ex : Exn) (o : OT os) : Prop :=
  ∀ cls d F' M' H', Sub F F' → OwnOk os o σ F' M' R → Good F' M' H' → ExnOk X.mg ex cls d F' → W cls d σ H'
theorem ExcE.mono {X : Cx} {os : Os} {σ : L2.St} {F F' R : Hp} {W : WX} {ex : Exn} {o : OT os} (h : ExcE X os σ F R W ex o) (s : Sub F F') : ExcE X os σ F' R W ex o := fun cls d F2 M' H' f => h cls d F2 M' H' (s.trans f)
/-- e is what the mirror m says -/
def RE (X : Cx) (Γ : Ctx) (os : Os) (e : Expr) (t : Ty) (m : SM (OT os) t.A) : Prop :=
  ∀ (σ : L2.St) (F M R H : Hp) (o : OT os) (W : WX) (Q : VK), Takes X W → CtxOk Γ σ F → OwnOk os o σ F M R → Good F M H →
    Want (m o) (NormE os t σ F R Q) (ExcE X os σ F R W) → best X e σ H Q
/-- a test -/
def NormT (os : Os) (σ : L2.St) (F R : Hp) (Q : Bool → Hp → Prop) (b : Bool) (o : OT os) : Prop :=
  ∀ F' M' H', Sub F F' → OwnOk os o σ F' M' R → Good F' M' H' → Q b H'
def RT (X : Cx) (Γ : Ctx) (os : Os) (e : Expr) (m : SM (OT os) Bool) : Prop :=
  ∀ (σ : L2.St) (F M R H : Hp) (o : OT os) (W : WX) (Q : Bool → Hp → Prop), Takes X W → CtxOk Γ σ F → OwnOk os o σ F M R → Good F M H →
    Want (m o) (NormT os σ F R Q) (ExcE X os σ F R W) → bestT X e σ H Q
/-- arguments, all immutable -/
@[reducible] def AT : List Ty → Type
  | [] => Unit
  | t :: r => t.A × AT r
def ArgsOk : (ts : List Ty) → AT ts → List V → Hp → Prop
  | [], _, vs, _ => vs = []
  | t :: r, x, vs, F => ∃ v us, vs = v :: us ∧ t.rep x.1 v F emp ∧ ArgsOk r x.2 us F
theorem ArgsOk.mono : ∀ {ts : List Ty} {x : AT ts} {vs : List V} {F F' : Hp}, ArgsOk ts x vs F → Sub F F' → ArgsOk ts x vs F'
  | [], _, _, _, _, h, _ => h
  | _ :: _, _, _, _, _, ⟨v, us, e, r, k⟩, s => ⟨v, us, e, Ty.mono _ r s, k.mono s⟩
theorem ArgsOk.length : ∀ {ts : List Ty} {x : AT ts} {vs : List V} {F : Hp}, ArgsOk ts x vs F → vs.length = ts.length
  | [], _, vs, _, h => by have h' : vs = [] := h; rw [h'] <;> rfl
  | _ :: _, _, _, _, ⟨v, us, e, r, k⟩ => by rw [e, List.length_cons, List.length_cons, k.length]
def NormA (os : Os) (ts : List Ty) (σ : L2.St) (F R : Hp) (Q : List V → Hp → Prop) (x : AT ts) (o : OT os) : Prop :=
  ∀ vs F' M' H', Sub F F' → OwnOk os o σ F' M' R → Good F' M' H' → ArgsOk ts x vs F' → Q vs H'
def RA (X : Cx) (Γ : Ctx) (os : Os) (es : List Expr) (ts : List Ty) (m : SM (OT os) (AT ts)) : Prop :=
  ∀ (σ : L2.St) (F M R H : Hp) (o : OT os) (W : WX) (Q : List V → Hp → Prop), Takes X W → CtxOk Γ σ F → OwnOk os o σ F M R → Good F M H →
    Want (m o) (NormA os ts σ F R Q) (ExcE X os σ F R W) → bestA X es σ H Q
end Mi

namespace Mi
open PySem PySem.Spec PyProof.Rows L2

/-! ### what is known of a context -/
def visK : NameKind → Bool
  | .local => true | .cell => true | .free => true | _ => false
def locK : NameKind → Bool
  | .local => true | .cell => true | _ => false
/-- of a context whose names stand in sc; B: built-in names that the module leaves alone; k: how deep calls may go -/
structure XOk (X : Cx) (N : List Str) (sc : Scope) (B : List Str) (k : Nat) : Prop where
  nN : X.N = N
  db : ∀ (j : Nat) (x : Str) (kd : NameKind), sc.names[j]? = some (x, kd) → (x == ("__debug__" : Str)) = false ∧ (x == ("__classdict__" : Str)) = false ∧ x ≠ "__name__"
  vs : ∀ (j : Nat) (x : Str) (kd : NameKind), sc.names[j]? = some (x, kd) → visK kd = true → Vis X.env.scope x
  gl : ∀ (j : Nat) (x : Str), sc.names[j]? = some (x, .globalImplicit) → Gl X x
  lc : ∀ (j : Nat) (x : Str) (kd : NameKind), sc.names[j]? = some (x, kd) → locK kd = true → Loc X.env.scope x ∧ (X.fn x = true ∨ X.env.scope.names.lookup x = some .local)
  ce : ∀ (j : Nat) (x : Str) (kd : NameKind), sc.names[j]? = some (x, kd) → kd = .cell ∨ kd = .free → X.env.scope.names.lookup x = some .cell ∨ X.env.scope.names.lookup x = some .free
  lo : ∀ (j : Nat) (x : Str) (kd : NameKind), sc.names[j]? = some (x, kd) → kd ≠ .free → X.env.scope.names.lookup x = some kd
  bk : X.env.scope.kind = .function
  nd : X.N.Nodup
  fr : ∀ (i : Nat) (x : Str), B[i]? = some x → X.mg x = none
  room : Room k X.A
  calm : X.calm = true

section
variable {X : Cx} {N : List Str} {sc : Scope} {B : List Str} {k : Nat} {Γ : Ctx} {os : Os} {pos p p2 apos : Pos}

/-! ### ends -/
theorem end_flat {A : Type} {g : A → V} {os : Os} {σ : L2.St} {F F1 M R H : Hp} {Q : VK} {x : A} {o : OT os} (h : NormE os (flat A g) σ F R Q x o) (s : Sub F F1) (w : OwnOk os o σ F1 M R) (q : Good F1 M H) : Q (g x) H :=
  h (g x) F1 M emp M H s w (sep_emp_l M) q ⟨rfl, rfl⟩

/-! ### names, constants -/
theorem re_var (xo : XOk X N sc B k) (i j : Nat) {nm : Str} {kd : NameKind} {t : Ty} {x : t.A} (hj : sc.names[j]? = some (nm, kd) := by rfl) (hk : visK kd = true := by rfl) (hN : N[i]? = some nm := by rfl) (hΓ : Γ[i]? = some (some ⟨t, x⟩) := by rfl) :
    RE X Γ os (.Name nm pos) t (SM.ret x) := by
  intro σ F M R H o W Q tk c w g h
  obtain ⟨v, e, r⟩ := c.2 i t x hΓ
  obtain ⟨d1, d2, _⟩ := xo.db j nm kd hj
  exact ⟨_, pe_var (by rw [xo.nN]; exact hN) (xo.vs j nm kd hj hk) d1 d2, v, e, h v F M emp M H (.refl F) w (sep_emp_l M) g r⟩
theorem re_int {i : Int} {j : Nat} : RE X Γ os (.Constant (.int i) j pos) tInt (SM.ret i) := fun σ F M R H o W Q tk c w g h => ⟨_, pe_int, end_flat (g := V.int) h (.refl F) w g⟩
theorem re_bool {b : Bool} {j : Nat} : RE X Γ os (.Constant (.bool b) j pos) tBool (SM.ret b) := fun σ F M R H o W Q tk c w g h => ⟨_, pe_bl, end_flat (g := V.bl) h (.refl F) w g⟩
theorem re_none {j : Nat} : RE X Γ os (.Constant .none j pos) tNone (SM.ret ()) := fun σ F M R H o W Q tk c w g h => ⟨_, pe_non, end_flat (g := fun _ => V.non) h (.refl F) w g⟩
theorem re_str {z : Str} {j : Nat} (l : List Nat) (hz : z = sOf l := by rfl) : RE X Γ os (.Constant (.str z) j pos) tStr (SM.ret l) := fun σ F M R H o W Q tk c w g h => ⟨_, pe_str, by
  subst hz
  exact end_flat (g := fun l => V.str (sOf l)) h (.refl F) w g⟩
theorem re_chr {z : Str} {j : Nat} (a : Nat) (hz : z = sOf [a] := by rfl) : RE X Γ os (.Constant (.str z) j pos) tChr (SM.ret a) := fun σ F M R H o W Q tk c w g h => ⟨_, pe_str, by
  subst hz
  exact end_flat (g := fun c => V.str (sOf [c])) h (.refl F) w g⟩

/-! ### another type for the same value -/
def Cv (t u : Ty) (f : t.A → u.A) : Prop := ∀ {x v F m}, t.rep x v F m → u.rep (f x) v F m
def SM.map {O A B : Type} (f : A → B) (m : SM O A) : SM O B := SM.bind m fun x => SM.ret (f x)
theorem re_cv {e : Expr} {t u : Ty} {f : t.A → u.A} {m : SM (OT os) t.A} (hc : Cv t u f) (h : RE X Γ os e t m) : RE X Γ os e u (SM.map f m) := fun σ F M R H o W Q tk c w g q =>
  h σ F M R H o W Q tk c w g (q.bind.imp (fun x o1 z v F' M1 mm M' H' s a b c d => z v F' M1 mm M' H' s a b c (hc d)) fun _ _ z => z)
theorem cv_chr : Cv tChr tStr (fun c => [c]) := fun h => h

/-! ### operators by their rules -/
def VOp (r : R2) (ta tb tc : Ty) (f : ta.A → tb.A → Option tc.A) : Prop := ∀ {x y z v u F M H} {Q : VK}, f x y = some z → ta.rep x v F emp → tb.rep y u F emp → Good F M H →
  (∀ v' F' mm M' H', Sub F F' → Sep mm M M' → Good F' M' H' → tc.rep z v' F' mm → Q v' H') → r v u H Q
/-- the second step of a two-place thing -/
theorem two_ends {a b : Expr} {ta tb : Ty} {ma : SM (OT os) ta.A} {mb : SM (OT os) tb.A} {C : Type} {mk : ta.A → tb.A → SM (OT os) C} {R2 : V → V → Hp → Prop} {N : C → OT os → Prop} {σ : L2.St} {F M R H : Hp} {o : OT os} {W : WX}
    (ia : Imm ta) (ib : Imm tb) (ha : RE X Γ os a ta ma) (hb : RE X Γ os b tb mb) (tk : Takes X W) (c : CtxOk Γ σ F) (w : OwnOk os o σ F M R) (g : Good F M H)
    (h : Want ((SM.bind ma fun x => SM.bind mb fun y => mk x y) o) N (ExcE X os σ F R W))
    (fin : ∀ x y o2 v u F2 M2 H2, Want (mk x y o2) N (ExcE X os σ F R W) → Sub F F2 → OwnOk os o2 σ F2 M2 R → Good F2 M2 H2 → ta.rep x v F2 emp → tb.rep y u F2 emp → R2 v u H2) :
    best X a σ H fun v H1 => best X b σ H1 fun u H2 => R2 v u H2 := by
  refine ha σ F M R H o W _ tk c w g (h.bind.imp (fun x o1 h1 => ?_) fun _ _ z => z)
  intro v F1 M1 m1 M1' H1 s1 w1 p1 g1 r1
  have e := ia r1; subst e
  have e := p1.emp_l; subst e
  refine hb σ F1 _ R H1 o1 W _ tk (c.mono s1) w1 g1 (h1.bind.imp (fun y o2 h2 => ?_) fun _ _ z => z.mono s1)
  intro u F2 M2 m2 M2' H2 s2 w2 p2 g2 r2
  have e := ib r2; subst e
  have e := p2.emp_l; subst e
  exact fin x y o2 v u F2 _ H2 h2 (s1.trans s2) w2 g2 (ta.mono r1 s2) r2
theorem lift_fin {tc : Ty} {r : Option tc.A} {o2 : OT os} {σ : L2.St} {F R F2 M2 : Hp} {W : WX} {Q : VK} {k : Prop} (h : Want (SM.lift r o2) (NormE os tc σ F R Q) (ExcE X os σ F R W)) (s : Sub F F2) (w : OwnOk os o2 σ F2 M2 R) 
    (fin : ∀ z, r = some z → (∀ v' F' mm M' H', Sub F2 F' → Sep mm M2 M' → Good F' M' H' → tc.rep z v' F' mm → Q v' H') → k) : k := by
  unfold SM.lift at h
  cases e : r with
  | none => rw [e] at h; exact h.elim
  | some z =>
    rw [e] at h
    exact fin z e fun v' F' mm M' H' s' p' g' r' => h v' F' M2 mm M' H' (s.trans s') (w.mono s') p' g' r'
theorem re_op {op : Operator} {r : R2} {ta tb tc : Ty} {f : ta.A → tb.A → Option tc.A} {a b : Expr} {ma : SM (OT os) ta.A} {mb : SM (OT os) tb.A} (ho : OpR X (binaryOp op) r) (hv : VOp r ta tb tc f) (ia : Imm ta) (ib : Imm tb)
    (ha : RE X Γ os a ta ma) (hb : RE X Γ os b tb mb) : RE X Γ os (.BinOp a op b pos) tc (SM.bind ma fun x => SM.bind mb fun y => SM.lift (f x y)) := by
  intro σ F M R H o W Q tk c w g h
  refine ⟨_, pe_op ho (pe_best X a) (pe_best X b), ?_⟩
  exact two_ends ia ib ha hb tk c w g h fun x y o2 v u F2 M2 H2 h2 s2 w2 g2 r1 r2 => lift_fin h2 s2 w2 fun z e q => hv e r1 r2 g2 q
theorem re_cmp {op : CmpOp} {r : R2} {ta tb tc : Ty} {f : ta.A → tb.A → Option tc.A} {a b : Expr} {ma : SM (OT os) ta.A} {mb : SM (OT os) tb.A} (ho : OpR X (compareOp op) r) (hv : VOp r ta tb tc f) (ia : Imm ta) (ib : Imm tb)
    (ha : RE X Γ os a ta ma) (hb : RE X Γ os b tb mb) (hm : behindInMarks op b = false := by first | exact nobehind _ (by decide) (by decide) | rfl) : RE X Γ os (.Compare a [op] [b] pos) tc (SM.bind ma fun x => SM.bind mb fun y => SM.lift (f x y)) := by
  intro σ F M R H o W Q tk c w g h
  refine ⟨_, pe_cmpR ho (pe_best X a) (pe_best X b) hm, ?_⟩
  exact two_ends ia ib ha hb tk c w g h fun x y o2 v u F2 M2 H2 h2 s2 w2 g2 r1 r2 => lift_fin h2 s2 w2 fun z e q => hv e r1 r2 g2 q
theorem re_ix {r : R2} {ta tb tc : Ty} {f : ta.A → tb.A → Option tc.A} {a b : Expr} {ma : SM (OT os) ta.A} {mb : SM (OT os) tb.A} (ho : IxR X r) (hv : VOp r ta tb tc f) (ia : Imm ta) (ib : Imm tb)
    (ha : RE X Γ os a ta ma) (hb : RE X Γ os b tb mb) (hs : PlainIx b := by exact fun _ _ => rfl) : RE X Γ os (.Subscript a b pos) tc (SM.bind ma fun x => SM.bind mb fun y => SM.lift (f x y)) := by
  intro σ F M R H o W Q tk c w g h
  refine ⟨_, pe_ix ho (pe_best X a) (pe_best X b) hs, ?_⟩
  exact two_ends ia ib ha hb tk c w g h fun x y o2 v u F2 M2 H2 h2 s2 w2 g2 r1 r2 => lift_fin h2 s2 w2 fun z e q => hv e r1 r2 g2 q
def VUn (r : V → Hp → VK → Prop) (ta tc : Ty) (f : ta.A → Option tc.A) : Prop := ∀ {x z v F M H} {Q : VK}, f x = some z → ta.rep x v F emp → Good F M H →
  (∀ v' F' mm M' H', Sub F F' → Sep mm M M' → Good F' M' H' → tc.rep z v' F' mm → Q v' H') → r v H Q
theorem one_end {a : Expr} {ta : Ty} {ma : SM (OT os) ta.A} {C : Type} {mk : ta.A → SM (OT os) C} {R1 : V → Hp → Prop} {N : C → OT os → Prop} {σ : L2.St} {F M R H : Hp} {o : OT os} {W : WX}
    (ia : Imm ta) (ha : RE X Γ os a ta ma) (tk : Takes X W) (c : CtxOk Γ σ F) (w : OwnOk os o σ F M R) (g : Good F M H)
    (h : Want ((SM.bind ma fun x => mk x) o) N (ExcE X os σ F R W))
    (fin : ∀ x o2 v F2 M2 H2, Want (mk x o2) N (ExcE X os σ F R W) → Sub F F2 → OwnOk os o2 σ F2 M2 R → Good F2 M2 H2 → ta.rep x v F2 emp → R1 v H2) :
    best X a σ H R1 := by
  refine ha σ F M R H o W _ tk c w g (h.bind.imp (fun x o1 h1 => ?_) fun _ _ z => z)
  intro v F1 M1 m1 M1' H1 s1 w1 p1 g1 r1
  have e := ia r1; subst e
  have e := p1.emp_l; subst e
  exact fin x o1 v F1 _ H1 h1 s1 w1 g1 r1
theorem re_un {op : UnaryOp} {r : V → Hp → VK → Prop} {ta tc : Ty} {f : ta.A → Option tc.A} {a : Expr} {ma : SM (OT os) ta.A} (ho : UnR X (unaryOp op) r) (hv : VUn r ta tc f) (ia : Imm ta)
    (ha : RE X Γ os a ta ma) : RE X Γ os (.UnaryOp op a pos) tc (SM.bind ma fun x => SM.lift (f x)) := by
  intro σ F M R H o W Q tk c w g h
  refine ⟨_, pe_un ho (pe_best X a), ?_⟩
  exact one_end ia ha tk c w g h fun x o2 v F2 M2 H2 h2 s2 w2 g2 r1 => lift_fin h2 s2 w2 fun z e q => hv e r1 g2 q

/-- flat results -/
theorem fl {A : Type} {gA : A → V} {z : A} {F M H : Hp} {Q : VK} (q : ∀ v' F' mm M' H', Sub F F' → Sep mm M M' → Good F' M' H' → (flat A gA).rep z v' F' mm → Q v' H') (g : Good F M H) : Q (gA z) H :=
  q (gA z) F emp M H (.refl F) (sep_emp_l M) g ⟨rfl, rfl⟩
theorem imF {A : Type} {gA : A → V} : Imm (flat A gA) := fun a => a.1

/-! ### ints -/
theorem v_I0 {gg : Int → Int → Int} : VOp (rI0 fun i j => .int (gg i j)) tInt tInt tInt (fun i j => some (gg i j)) := by
  intro x y z v u F M H Q e ⟨_, rx⟩ ⟨_, ry⟩ g q
  cases e
  exact ⟨x, y, rx, ry, fl (gA := V.int) q g⟩
theorem v_IB {gg : Int → Int → Bool} : VOp (rI0 fun i j => .bl (gg i j)) tInt tInt tBool (fun i j => some (gg i j)) := by
  intro x y z v u F M H Q e ⟨_, rx⟩ ⟨_, ry⟩ g q
  cases e
  exact ⟨x, y, rx, ry, fl (gA := V.bl) q g⟩
theorem v_I {C : Int → Int → Prop} [∀ i j, Decidable (C i j)] {gg : Int → Int → Int} : VOp (rI C fun i j => .int (gg i j)) tInt tInt tInt (fun i j => if C i j then some (gg i j) else none) := by
  intro x y z v u F M H Q e ⟨_, rx⟩ ⟨_, ry⟩ g q
  have e' : (if C x y then some (gg x y) else none) = some z := e
  by_cases hc : C x y
  · rw [if_pos hc] at e'
    cases e'
    exact ⟨x, y, rx, ry, hc, fl (gA := V.int) q g⟩
  · rw [if_neg hc] at e'; cases e'
instance {i j : Int} : Decidable (CMul i j) := by unfold CMul; exact inferInstance
instance {i j : Int} : Decidable (CPow i j) := by unfold CPow; exact inferInstance
variable {a b e : Expr}
theorem re_add {ma mb : SM (OT os) Int} (ha : RE X Γ os a tInt ma) (hb : RE X Γ os b tInt mb) : RE X Γ os (.BinOp a .Add b pos) tInt (SM.bind ma fun x => SM.bind mb fun y => SM.lift (some (x + y))) := re_op op_add v_I0 imF imF ha hb
theorem re_sub {ma mb : SM (OT os) Int} (ha : RE X Γ os a tInt ma) (hb : RE X Γ os b tInt mb) : RE X Γ os (.BinOp a .Sub b pos) tInt (SM.bind ma fun x => SM.bind mb fun y => SM.lift (some (x - y))) := re_op op_sub v_I0 imF imF ha hb
theorem re_mul {ma mb : SM (OT os) Int} (ha : RE X Γ os a tInt ma) (hb : RE X Γ os b tInt mb) : RE X Γ os (.BinOp a .Mult b pos) tInt (SM.bind ma fun x => SM.bind mb fun y => SM.lift (if CMul x y then some (x * y) else none)) := re_op op_mul v_I imF imF ha hb
theorem re_mod {ma mb : SM (OT os) Int} (ha : RE X Γ os a tInt ma) (hb : RE X Γ os b tInt mb) : RE X Γ os (.BinOp a .Mod b pos) tInt (SM.bind ma fun x => SM.bind mb fun y => SM.lift (if 0 < y then some (x % y) else none)) := re_op op_mod v_I imF imF ha hb
theorem re_pow {ma mb : SM (OT os) Int} (ha : RE X Γ os a tInt ma) (hb : RE X Γ os b tInt mb) : RE X Γ os (.BinOp a .Pow b pos) tInt (SM.bind ma fun x => SM.bind mb fun y => SM.lift (if CPow x y then some (x ^ y.toNat) else none)) := re_op op_pow v_I imF imF ha hb
theorem re_lt {ma mb : SM (OT os) Int} (ha : RE X Γ os a tInt ma) (hb : RE X Γ os b tInt mb) : RE X Γ os (.Compare a [.Lt] [b] pos) tBool (SM.bind ma fun x => SM.bind mb fun y => SM.lift (some (decide (x < y)))) := re_cmp op_lt v_IB imF imF ha hb
theorem re_le {ma mb : SM (OT os) Int} (ha : RE X Γ os a tInt ma) (hb : RE X Γ os b tInt mb) : RE X Γ os (.Compare a [.LtE] [b] pos) tBool (SM.bind ma fun x => SM.bind mb fun y => SM.lift (some (decide (x ≤ y)))) := re_cmp op_le v_IB imF imF ha hb
theorem re_gt {ma mb : SM (OT os) Int} (ha : RE X Γ os a tInt ma) (hb : RE X Γ os b tInt mb) : RE X Γ os (.Compare a [.Gt] [b] pos) tBool (SM.bind ma fun x => SM.bind mb fun y => SM.lift (some (decide (y < x)))) := re_cmp op_gt v_IB imF imF ha hb
theorem re_ge {ma mb : SM (OT os) Int} (ha : RE X Γ os a tInt ma) (hb : RE X Γ os b tInt mb) : RE X Γ os (.Compare a [.GtE] [b] pos) tBool (SM.bind ma fun x => SM.bind mb fun y => SM.lift (some (decide (y ≤ x)))) := re_cmp op_ge v_IB imF imF ha hb
theorem re_neg {ma : SM (OT os) Int} (ha : RE X Γ os a tInt ma) : RE X Γ os (.UnaryOp .USub a pos) tInt (SM.bind ma fun x => SM.lift (some (-x))) := re_un un_neg (ta := tInt) (tc := tInt) (f := fun x => some (-x)) (fun {x z v F M H Q} e rx g q => by
  cases e
  exact ⟨x, rx.2, fl (gA := V.int) q g⟩) imF ha

/-! ### == of flat values -/
/-- flat types whose values compare by what they hold -/
structure Sca (A : Type) (gA : A → V) : Prop where
  sc : ∀ x y, scal (gA x) (gA y) = true
  inj : ∀ {x y}, gA x = gA y → x = y
theorem sca_int : Sca Int V.int := ⟨fun _ _ => rfl, fun h => V.int.inj h⟩
theorem sca_bool : Sca Bool V.bl := ⟨fun _ _ => rfl, fun h => V.bl.inj h⟩
theorem sOf_inj {l k : List Nat} (h : sOf l = sOf k) : l = k := by
  have e : l.toArray = k.toArray := Str.mk.inj h
  simpa using e
theorem sca_str : Sca (List Nat) fun l => V.str (sOf l) := ⟨fun _ _ => rfl, fun h => sOf_inj (V.str.inj h)⟩
theorem sca_chr : Sca Nat fun c => V.str (sOf [c]) := ⟨fun _ _ => rfl, fun h => (List.cons.inj (sOf_inj (V.str.inj h))).1⟩
theorem Sca.dec {A : Type} {gA : A → V} [DecidableEq A] (s : Sca A gA) (x y : A) : decide (gA x = gA y) = decide (x = y) := by
  by_cases h : x = y
  · subst h; simp
  · rw [decide_eq_false h, decide_eq_false fun q => h (s.inj q)]
theorem v_eq {A : Type} {gA : A → V} [DecidableEq A] (s : Sca A gA) : VOp rEq (flat A gA) (flat A gA) tBool (fun x y => some (decide (x = y))) := by
  intro x y z v u F M H Q e ⟨_, rx⟩ ⟨_, ry⟩ g q
  cases e
  subst rx ry
  refine ⟨s.sc x y, ?_⟩
  rw [s.dec]
  exact fl (gA := V.bl) q g
theorem v_ne {A : Type} {gA : A → V} [DecidableEq A] (s : Sca A gA) : VOp rNe (flat A gA) (flat A gA) tBool (fun x y => some (!decide (x = y))) := by
  intro x y z v u F M H Q e ⟨_, rx⟩ ⟨_, ry⟩ g q
  cases e
  subst rx ry
  refine ⟨s.sc x y, ?_⟩
  rw [s.dec]
  exact fl (gA := V.bl) q g
theorem re_eq {A : Type} {gA : A → V} [DecidableEq A] (s : Sca A gA) {ma mb : SM (OT os) A} (ha : RE X Γ os a (flat A gA) ma) (hb : RE X Γ os b (flat A gA) mb) :
    RE X Γ os (.Compare a [.Eq] [b] pos) tBool (SM.bind ma fun x => SM.bind mb fun y => SM.lift (some (decide (x = y)))) := re_cmp op_eq (v_eq s) imF imF ha hb
theorem re_ne {A : Type} {gA : A → V} [DecidableEq A] (s : Sca A gA) {ma mb : SM (OT os) A} (ha : RE X Γ os a (flat A gA) ma) (hb : RE X Γ os b (flat A gA) mb) :
    RE X Γ os (.Compare a [.NotEq] [b] pos) tBool (SM.bind ma fun x => SM.bind mb fun y => SM.lift (some (!decide (x = y)))) := re_cmp op_ne (v_ne s) imF imF ha hb

/-! ### tests, and, or, not, if -/
theorem rt_val {m : SM (OT os) Bool} (h : RE X Γ os e tBool m) (he : ∀ whole, isTrue e X.env whole = (do let v ← whole; standAt e.pos; holding [v] (truthy v)) := by intro _; rfl) : RT X Γ os e m := by
  intro σ F M R H o W Q tk c w g q
  refine ⟨_, pt_val (pe_best X e) he, h σ F M R H o W _ tk c w g (q.imp (fun x o1 z => ?_) fun _ _ z => z)⟩
  intro v F' M1 mm M' H' s1 w1 p1 g1 ⟨e1, r1⟩
  subst e1
  have e := p1.emp_l; subst e
  exact ⟨x, r1, z F' _ H' s1 w1 g1⟩
/-- a comparison as a test -/
theorem rt_cmp {op : CmpOp} {r : R2} {ta tb : Ty} {f : ta.A → tb.A → Option Bool} {ma : SM (OT os) ta.A} {mb : SM (OT os) tb.A} (ho : OpR X (compareOp op) r) (hv : VOp r ta tb tBool f) (ia : Imm ta) (ib : Imm tb)
    (ha : RE X Γ os a ta ma) (hb : RE X Γ os b tb mb) (hm : behindInMarks op b = false := by first | exact nobehind _ (by decide) (by decide) | rfl) : RT X Γ os (.Compare a [op] [b] pos) (SM.bind ma fun x => SM.bind mb fun y => SM.lift (f x y)) := by
  intro σ F M R H o W Q tk c w g h
  refine ⟨_, pt_cmpR ho (pe_best X a) (pe_best X b) hm, ?_⟩
  refine two_ends ia ib ha hb tk c w g h fun x y o2 v u F2 M2 H2 h2 s2 w2 g2 r1 r2 => ?_
  unfold SM.lift at h2
  cases e : f x y with
  | none => rw [e] at h2; exact h2.elim
  | some z =>
    rw [e] at h2
    refine hv e r1 r2 g2 fun v' F' mm M' H' s' p' g' ⟨e1, r'⟩ => ?_
    subst e1
    have e := p'.emp_l; subst e
    exact ⟨z, r', h2 F' _ H' (s2.trans s') (w2.mono s') g'⟩
theorem rt_not {m : SM (OT os) Bool} (h : RT X Γ os a m) : RT X Γ os (.UnaryOp .Not a pos) (SM.bind m fun b => SM.ret (!b)) := by
  intro σ F M R H o W Q tk c w g q
  exact ⟨_, pt_not (pt_best X a), h σ F M R H o W _ tk c w g (q.bind.imp (fun x o1 z => z) fun _ _ z => z)⟩
def bestW (X : Cx) (e : Expr) : TT := fun σ H Q => ∃ t, PW X e t ∧ t σ H Q
theorem pw_best (X : Cx) (e : Expr) : PW X e (bestW X e) := ⟨fun wh pins s σ H Q I ⟨_, p, h⟩ => p.run wh pins s σ H Q I h⟩
def RW (X : Cx) (Γ : Ctx) (os : Os) (e : Expr) (m : SM (OT os) Bool) : Prop :=
  ∀ (σ : L2.St) (F M R H : Hp) (o : OT os) (W : WX) (Q : Bool → Hp → Prop), Takes X W → CtxOk Γ σ F → OwnOk os o σ F M R → Good F M H →
    Want (m o) (NormT os σ F R Q) (ExcE X os σ F R W) → bestW X e σ H Q
theorem RW.rt {m : SM (OT os) Bool} (h : RW X Γ os e m) : RT X Γ os e m := fun σ F M R H o W Q tk c w g q => ⟨_, (pw_best X e).pt, h σ F M R H o W Q tk c w g q⟩
def SM.andB {O : Type} (m n : SM O Bool) : SM O Bool := SM.bind m fun b => if b = true then n else SM.ret false
def SM.orB {O : Type} (m n : SM O Bool) : SM O Bool := SM.bind m fun b => if b = true then SM.ret true else n
variable {rest : List Expr}
theorem rw_and1 {m : SM (OT os) Bool} (h : RT X Γ os a m) : RW X Γ os (.BoolOp .And [a] pos) m := fun σ F M R H o W Q tk c w g q => ⟨_, pw_and1 (pt_best X a), h σ F M R H o W Q tk c w g q⟩
theorem rw_or1 {m : SM (OT os) Bool} (h : RT X Γ os a m) : RW X Γ os (.BoolOp .Or [a] pos) m := fun σ F M R H o W Q tk c w g q => ⟨_, pw_or1 (pt_best X a), h σ F M R H o W Q tk c w g q⟩
theorem rw_and {m n : SM (OT os) Bool} (h : RT X Γ os a m) (hb : RW X Γ os (.BoolOp .And (b :: rest) pos) n) : RW X Γ os (.BoolOp .And (a :: b :: rest) pos) (SM.andB m n) := by
  intro σ F M R H o W Q tk c w g q
  refine ⟨_, pw_and (pt_best X a) (pw_best X _), h σ F M R H o W _ tk c w g (q.bind.imp (fun x o1 z => ?_) fun _ _ z => z)⟩
  intro F' M' H' s w' g'
  cases x with
  | true => exact hb σ F' M' R H' o1 W Q tk (c.mono s) w' g' (z.imp (fun x o2 z F2 M2 H2 s2 => z F2 M2 H2 (s.trans s2)) fun _ _ z => z.mono s)
  | false => exact z F' M' H' s w' g'
theorem rw_or {m n : SM (OT os) Bool} (h : RT X Γ os a m) (hb : RW X Γ os (.BoolOp .Or (b :: rest) pos) n) : RW X Γ os (.BoolOp .Or (a :: b :: rest) pos) (SM.orB m n) := by
  intro σ F M R H o W Q tk c w g q
  refine ⟨_, pw_or (pt_best X a) (pw_best X _), h σ F M R H o W _ tk c w g (q.bind.imp (fun x o1 z => ?_) fun _ _ z => z)⟩
  intro F' M' H' s w' g'
  cases x with
  | false => exact hb σ F' M' R H' o1 W Q tk (c.mono s) w' g' (z.imp (fun x o2 z F2 M2 H2 s2 => z F2 M2 H2 (s.trans s2)) fun _ _ z => z.mono s)
  | true => exact z F' M' H' s w' g'
/-- .. as values -/
theorem re_one {op : BoolOp} {t : Ty} {m : SM (OT os) t.A} (h : RE X Γ os a t m) : RE X Γ os (.BoolOp op [a] pos) t m := fun σ F M R H o W Q tk c w g q => ⟨_, pe_one (pe_best X a), h σ F M R H o W Q tk c w g q⟩
theorem NormE.mono {t : Ty} {σ : L2.St} {F F' R : Hp} {Q : VK} {x : t.A} {o : OT os} (h : NormE os t σ F R Q x o) (s : Sub F F') : NormE os t σ F' R Q x o := fun v F2 M1 mm M2 H2 s2 => h v F2 M1 mm M2 H2 (s.trans s2)
theorem re_and {m n : SM (OT os) Bool} (h : RE X Γ os a tBool m) (hb : RE X Γ os (.BoolOp .And (b :: rest) pos) tBool n) : RE X Γ os (.BoolOp .And (a :: b :: rest) pos) tBool (SM.andB m n) := by
  intro σ F M R H o W Q tk c w g q
  refine ⟨_, L2.pe_and (pe_best X a) (pe_best X _), h σ F M R H o W _ tk c w g (q.bind.imp (fun x o1 z => ?_) fun _ _ z => z)⟩
  intro v F' M1 mm M' H' s w' p' g' ⟨e1, r1⟩
  subst e1
  have e := p'.emp_l; subst e
  refine ⟨x, r1, ?_⟩
  cases x with
  | true => exact hb σ F' _ R H' o1 W Q tk (c.mono s) w' g' (z.imp (fun x o2 z => z.mono s) fun _ _ z => z.mono s)
  | false => exact end_flat (g := V.bl) (show NormE os tBool σ F R Q false o1 from z) s w' g'
theorem re_or {m n : SM (OT os) Bool} (h : RE X Γ os a tBool m) (hb : RE X Γ os (.BoolOp .Or (b :: rest) pos) tBool n) : RE X Γ os (.BoolOp .Or (a :: b :: rest) pos) tBool (SM.orB m n) := by
  intro σ F M R H o W Q tk c w g q
  refine ⟨_, L2.pe_or (pe_best X a) (pe_best X _), h σ F M R H o W _ tk c w g (q.bind.imp (fun x o1 z => ?_) fun _ _ z => z)⟩
  intro v F' M1 mm M' H' s w' p' g' ⟨e1, r1⟩
  subst e1
  have e := p'.emp_l; subst e
  refine ⟨x, r1, ?_⟩
  cases x with
  | false => exact hb σ F' _ R H' o1 W Q tk (c.mono s) w' g' (z.imp (fun x o2 z => z.mono s) fun _ _ z => z.mono s)
  | true => exact end_flat (g := V.bl) (show NormE os tBool σ F R Q true o1 from z) s w' g'
theorem re_not {m : SM (OT os) Bool} (h : RE X Γ os a tBool m) : RE X Γ os (.UnaryOp .Not a pos) tBool (SM.bind m fun b => SM.ret (!b)) := by
  intro σ F M R H o W Q tk c w g q
  refine ⟨_, L2.pe_not (pe_best X a), h σ F M R H o W _ tk c w g (q.bind.imp (fun x o1 z => ?_) fun _ _ z => z)⟩
  intro v F' M1 mm M' H' s w' p' g' ⟨e1, r1⟩
  subst e1
  have e := p'.emp_l; subst e
  exact ⟨x, r1, end_flat (g := V.bl) (show NormE os tBool σ F R Q (!x) o1 from z) s w' g'⟩
def SM.ite {O A : Type} (m : SM O Bool) (n k : SM O A) : SM O A := SM.bind m fun b => if b = true then n else k
theorem re_if {c : Expr} {t : Ty} {mc : SM (OT os) Bool} {ma mb : SM (OT os) t.A} (hc : RT X Γ os c mc) (ha : RE X Γ os a t ma) (hb : RE X Γ os b t mb) : RE X Γ os (.IfExp c a b pos) t (SM.ite mc ma mb) := by
  intro σ F M R H o W Q tk cc w g q
  refine ⟨_, pe_ifExp (pt_best X c) (pe_best X a) (pe_best X b), hc σ F M R H o W _ tk cc w g (q.bind.imp (fun x o1 z => ?_) fun _ _ z => z)⟩
  intro F' M' H' s w' g'
  cases x with
  | true => exact ha σ F' M' R H' o1 W Q tk (cc.mono s) w' g' (z.imp (fun x o2 z => z.mono s) fun _ _ z => z.mono s)
  | false => exact hb σ F' M' R H' o1 W Q tk (cc.mono s) w' g' (z.imp (fun x o2 z => z.mono s) fun _ _ z => z.mono s)

/-! ### arguments -/
theorem ra_nil : RA X Γ os [] [] (SM.ret ()) := fun σ F M R H o W Q tk c w g q => ⟨_, pa_nil, q [] F M H (.refl F) w g rfl⟩
theorem ra_cons {t : Ty} {ts : List Ty} {es : List Expr} {m : SM (OT os) t.A} {n : SM (OT os) (AT ts)} (it : Imm t) (h : RE X Γ os e t m) (hr : RA X Γ os es ts n)
    (he : starEach (e :: es) X.env = (false, eval e X.env) :: starEach es X.env := by rfl) : RA X Γ os (e :: es) (t :: ts) (SM.bind m fun x => SM.bind n fun y => SM.ret (x, y)) := by
  intro σ F M R H o W Q tk c w g q
  refine ⟨_, pa_cons (pe_best X e) (pa_best X es) he, h σ F M R H o W _ tk c w g (q.bind.imp (fun x o1 z => ?_) fun _ _ z => z)⟩
  intro v F' M1 mm M' H' s w' p' g' r
  have e := it r; subst e
  have e := p'.emp_l; subst e
  refine hr σ F' _ R H' o1 W _ tk (c.mono s) w' g' (z.bind.imp (fun y o2 z => ?_) fun _ _ z => z.mono s)
  intro us F2 M2 H2 s2 w2 g2 r2
  exact z (v :: us) F2 M2 H2 (s.trans s2) w2 g2 ⟨v, us, rfl, t.mono r s2, r2⟩

/-! ### built-ins by name -/
def VCall (r : List V → Hp → VK → Prop) (ts : List Ty) (tc : Ty) (f : AT ts → Option tc.A) : Prop := ∀ {x z vs F M H} {Q : VK}, f x = some z → ArgsOk ts x vs F → Good F M H →
  (∀ v' F' mm M' H', Sub F F' → Sep mm M M' → Good F' M' H' → tc.rep z v' F' mm → Q v' H') → r vs H Q
theorem args_end {es : List Expr} {ts : List Ty} {m : SM (OT os) (AT ts)} {C : Type} {mk : AT ts → SM (OT os) C} {R1 : List V → Hp → Prop} {N : C → OT os → Prop} {σ : L2.St} {F M R H : Hp} {o : OT os} {W : WX}
    (ha : RA X Γ os es ts m) (tk : Takes X W) (c : CtxOk Γ σ F) (w : OwnOk os o σ F M R) (g : Good F M H)
    (h : Want ((SM.bind m fun x => mk x) o) N (ExcE X os σ F R W))
    (fin : ∀ x o2 vs F2 M2 H2, Want (mk x o2) N (ExcE X os σ F R W) → Sub F F2 → OwnOk os o2 σ F2 M2 R → Good F2 M2 H2 → ArgsOk ts x vs F2 → R1 vs H2) :
    bestA X es σ H R1 :=
  ha σ F M R H o W _ tk c w g (h.bind.imp (fun x o1 h1 vs F' M' H' s w' g' r => fin x o1 vs F' M' H' h1 s w' g' r) fun _ _ z => z)
theorem re_callB {nm : Str} {id : String} {r : List V → Hp → VK → Prop} {ts : List Ty} {tc : Ty} {f : AT ts → Option tc.A} {es : List Expr} {m : SM (OT os) (AT ts)} (hc : CallR X (.builtin id) r) (hv : VCall r ts tc f)
    (hg : Gl X nm) (hm : X.mg nm = none) (hb : bootBuiltins nm = some (.builtin id)) (ha : RA X Γ os (e :: es) ts m) (hn : nm ≠ "__name__" := by decide) (hdb : (nm == ("__debug__" : Str)) = false := by decide)
    (he : starEach (e :: es) X.env = (false, eval e X.env) :: starEach es X.env := by rfl) (hpl : (backTo pos (starEach es X.env)).any (·.1) = false := by rfl) :
    RE X Γ os (.Call (.Name nm p) (e :: es) [] pos) tc (SM.bind m fun x => SM.lift (f x)) := by
  intro σ F M R H o W Q tk c w g h
  refine ⟨_, pe_callB hc hg hm hb (pa_best X (e :: es)) hn hdb he hpl, ?_⟩
  exact args_end ha tk c w g h fun x o2 vs F2 M2 H2 h2 s2 w2 g2 r2 => lift_fin h2 s2 w2 fun z ez q => hv ez r2 g2 q
theorem re_callTy {nm : Str} {T : String} {r : List V → Hp → VK → Prop} {ts : List Ty} {tc : Ty} {f : AT ts → Option tc.A} {es : List Expr} {m : SM (OT os) (AT ts)} (hc : CallR X (.type T) r) (hv : VCall r ts tc f)
    (hg : Gl X nm) (hm : X.mg nm = none) (hb : bootBuiltins nm = some (.type T)) (ha : RA X Γ os (e :: es) ts m) (hn : nm ≠ "__name__" := by decide) (hdb : (nm == ("__debug__" : Str)) = false := by decide)
    (he : starEach (e :: es) X.env = (false, eval e X.env) :: starEach es X.env := by rfl) (hpl : (backTo pos (starEach es X.env)).any (·.1) = false := by rfl) :
    RE X Γ os (.Call (.Name nm p) (e :: es) [] pos) tc (SM.bind m fun x => SM.lift (f x)) := by
  intro σ F M R H o W Q tk c w g h
  refine ⟨_, pe_callTy hc hg hm hb (pa_best X (e :: es)) hn hdb he hpl, ?_⟩
  exact args_end ha tk c w g h fun x o2 vs F2 M2 H2 h2 s2 w2 g2 r2 => lift_fin h2 s2 w2 fun z ez q => hv ez r2 g2 q
/-- a method of a built-in type, with arguments -/
theorem re_bm {name : Str} {T id : String} {r : V → List V → Hp → VK → Prop} {to : Ty} {ts : List Ty} {tc : Ty} {f : to.A → AT ts → Option tc.A} {ob : Expr} {es : List Expr} {mo : SM (OT os) to.A} {m : SM (OT os) (AT ts)}
    (pa : PlainAttrs T) (slot : Slot T name id) (hty : typeOf (.builtin id) = pure (.type "method_descriptor")) (hm : MtR X id r)
    (ht : ∀ {x v F M H}, to.rep x v F emp → Good F M H → tyV X.K T v H)
    (hv : ∀ {x y z v vs F M H} {Q : VK}, f x y = some z → to.rep x v F emp → ArgsOk ts y vs F → Good F M H → (∀ v' F' mm M' H', Sub F F' → Sep mm M M' → Good F' M' H' → tc.rep z v' F' mm → Q v' H') → r v vs H Q)
    (io : Imm to) (ho : RE X Γ os ob to mo) (ha : RA X Γ os (e :: es) ts m)
    (hbase : attributeBase ob name X.env (eval ob X.env) = eval ob X.env := by rfl) (hline : (apos.endLine == pos.line) = true := by rfl)
    (he : starEach (e :: es) X.env = (false, eval e X.env) :: starEach es X.env := by rfl) (hpl : (backTo pos (starEach es X.env)).any (·.1) = false := by rfl)
    (hfew : ((backTo pos (starEach (e :: es) X.env)).all (fun x => !x.1) && (backToKw pos (keywordEach [] X.env)).all (fun x => x.1.isSome)
      && decide ((e :: es).length + ([] : List Keyword).length + (if ([] : List Keyword).isEmpty then 0 else 1) < 30)) = true := by rfl) :
    RE X Γ os (.Call (.Attribute ob name apos) (e :: es) [] pos) tc (SM.bind mo fun x => SM.bind m fun y => SM.lift (f x y)) := by
  intro σ F M R H o W Q tk c w g h
  refine ⟨_, pe_bm pa slot hty hm (pe_best X ob) (pa_best X (e :: es)) hbase hfew hline he hpl, ?_⟩
  refine one_end io ho tk c w g h fun x o2 v F2 M2 H2 h2 s2 w2 g2 r1 => ⟨ht r1 g2, ?_⟩
  refine args_end ha tk (c.mono s2) w2 g2 (h2.imp (fun _ _ z => NormE.mono z s2) fun _ _ z => z.mono s2) fun y o3 vs F3 M3 H3 h3 s3 w3 g3 r3 => lift_fin h3 s3 w3 fun z ez q => hv ez (to.mono r1 s3) r3 g3 q
end
end Mi

namespace Mi
open PySem PySem.Spec PyProof.Rows L2

/-! ### statements -/
/-- a def: slots that no statement stores, what its caller owns of its arguments, what it hands back -/
structure FX where
  kp : List Nat
  ps : Os
  tr : Ty
/-- the loop around: what a turn changes -/
structure LC where
  B : Type
  G : B → Ctx
  os : Os
def LC.none : LC := ⟨Empty, fun _ => [], []⟩
inductive Out (N L T P : Type) where
  | nxt (n : N)
  | brk (l : L)
  | cnt (l : L)
  | ret (x : T) (p : P)
  | exc (e : Exn) (p : P)
def Keep (kp : List Nat) (σ σ' : L2.St) : Prop := σ'.length = σ.length ∧ ∀ i ∈ kp, σ'[i]? = σ[i]?
theorem Keep.refl {kp : List Nat} {σ : L2.St} : Keep kp σ σ := ⟨rfl, fun _ _ => rfl⟩
theorem Keep.trans {kp : List Nat} {a b c : L2.St} (h : Keep kp a b) (k : Keep kp b c) : Keep kp a c := ⟨k.1.trans h.1, fun i hi => (k.2 i hi).trans (h.2 i hi)⟩
/-- some of what is owned -/
inductive OSub : Os → Os → Type 1
  | nil : OSub [] []
  | keep {p : Nat × Ty} {a b : Os} : OSub a b → OSub (p :: a) (p :: b)
  | skip {p : Nat × Ty} {a b : Os} : OSub a b → OSub (p :: a) b
def OSub.map : {a b : Os} → OSub a b → OT a → OT b
  | _, _, .nil, o => o
  | _, _, .keep h, o => (o.1, h.map o.2)
  | _, _, .skip h, o => h.map o.2
theorem OSub.own : ∀ {a b : Os} (h : OSub a b) {o : OT a} {σ : L2.St} {F M R : Hp}, OwnOk a o σ F M R → ∃ M0, Sub M0 M ∧ OwnOk b (h.map o) σ F M0 R
  | _, _, .nil, _, _, _, M, _, h => ⟨M, .refl _, h⟩
  | _, _, .keep k, o, σ, F, M, R, ⟨v, m, M', e, q, s, w⟩ => by
    obtain ⟨M0, s0, w0⟩ := k.own w
    refine ⟨uni m M0, fun a u h => ?_, v, m, M0, e, q, ⟨fun p => ?_, rfl⟩, w0⟩
    · cases z : m a with
      | some y => rw [uni_l z] at h; exact s.l a u (by rw [z]; exact h)
      | none => rw [uni_r z] at h; exact s.r a u (s0 a u h)
    · rcases s.dis p with z | z
      · exact .inl z
      · exact .inr (s0.none z)
  | _, _, .skip k, o, σ, F, M, R, ⟨v, m, M', e, q, s, w⟩ => by
    obtain ⟨M0, s0, w0⟩ := k.own w
    exact ⟨M0, s0.trans s.r, w0⟩
def OSub.all : (a : Os) → OSub a a
  | [] => .nil
  | _ :: r => .keep (OSub.all r)

section
variable {X : Cx} {G : FX} {L : LC} {β : Type} {Γn : β → Ctx} {osn : Os}
abbrev OutT (G : FX) (L : LC) (β : Type) (osn : Os) : Type := Option (Out (β × OT osn) (L.B × OT L.os) G.tr.A (OT G.ps))
def NxtS (G : FX) (Γn : β → Ctx) (osn : Os) (σ : L2.St) (F R : Hp) (K : L2.St → Hp → Prop) (n : β × OT osn) : Prop :=
  ∀ σ' F' M' H', Sub F F' → Keep G.kp σ σ' → CtxOk (Γn n.1) σ' F' → OwnOk osn n.2 σ' F' M' R → Good F' M' H' → K σ' H'
def RetS (G : FX) (σ : L2.St) (F R : Hp) (K : VK) (x : G.tr.A) (p : OT G.ps) : Prop :=
  ∀ v σ' F' M1 mm M' H', Sub F F' → Keep G.kp σ σ' → OwnOk G.ps p σ' F' M1 R → Sep mm M1 M' → Good F' M' H' → G.tr.rep x v F' mm → K v H'
def ExcS (X : Cx) (G : FX) (σ : L2.St) (F R : Hp) (W : WX) (e : Exn) (p : OT G.ps) : Prop :=
  ∀ cls d σ' F' M' H', Sub F F' → Keep G.kp σ σ' → OwnOk G.ps p σ' F' M' R → Good F' M' H' → ExnOk X.mg e cls d F' → W cls d σ' H'
def WantS (X : Cx) (G : FX) (L : LC) (Γn : β → Ctx) (osn : Os) (σ : L2.St) (F R : Hp) (W : WX) (D : Ends) (r : OutT G L β osn) : Prop := match r with
  | none => False
  | some (.nxt n) => NxtS G Γn osn σ F R D.nx n
  | some (.brk l) => NxtS G L.G L.os σ F R D.bk l
  | some (.cnt l) => NxtS G L.G L.os σ F R D.ct l
  | some (.ret x p) => RetS G σ F R D.rt x p
  | some (.exc e p) => ExcS X G σ F R W e p
theorem NxtS.mono {σ σ1 : L2.St} {F F1 R : Hp} {K : L2.St → Hp → Prop} {n : β × OT osn} (h : NxtS G Γn osn σ F R K n) (s : Sub F F1) (k : Keep G.kp σ σ1) : NxtS G Γn osn σ1 F1 R K n :=
  fun σ' F' M' H' s' k' => h σ' F' M' H' (s.trans s') (k.trans k')
theorem WantS.mono {σ σ1 : L2.St} {F F1 R : Hp} {W : WX} {D : Ends} {r : OutT G L β osn} (h : WantS X G L Γn osn σ F R W D r) (s : Sub F F1) (k : Keep G.kp σ σ1) : WantS X G L Γn osn σ1 F1 R W D r := by
  cases r with
  | none => exact h
  | some r =>
    cases r with
    | nxt n => exact NxtS.mono h s k
    | brk n => exact NxtS.mono h s k
    | cnt n => exact NxtS.mono h s k
    | ret x p => exact fun v σ' F' M1 mm M' H' s' k' => h v σ' F' M1 mm M' H' (s.trans s') (k.trans k')
    | exc e p => exact fun cls d σ' F' M' H' s' k' => h cls d σ' F' M' H' (s.trans s') (k.trans k')
def RB (X : Cx) (G : FX) (L : LC) (Γ : Ctx) (os : Os) (sts : List Stmt) {β : Type} (Γn : β → Ctx) (osn : Os) (m : OT os → OutT G L β osn) : Prop :=
  ∀ (σ : L2.St) (F M R H : Hp) (o : OT os) (W : WX) (D : Ends), Takes X W → CtxOk Γ σ F → OwnOk os o σ F M R → Good F M H → WantS X G L Γn osn σ F R W D (m o) → bestB X sts D σ H
def RS (X : Cx) (G : FX) (L : LC) (Γ : Ctx) (os : Os) (st : Stmt) {β : Type} (Γn : β → Ctx) (osn : Os) (m : OT os → OutT G L β osn) : Prop :=
  ∀ (σ : L2.St) (F M R H : Hp) (o : OT os) (W : WX) (D : Ends), Takes X W → CtxOk Γ σ F → OwnOk os o σ F M R → Good F M H → WantS X G L Γn osn σ F R W D (m o) → bestS X st D σ H

variable {Γ : Ctx} {os : Os} {st : Stmt} {rest : List Stmt} {pos p p2 : Pos} {e : Expr} {t : Ty} {N : List Str} {sc : Scope} {B : List Str} {k : Nat}
theorem rb_nil (b : β) (hle : CtxLe (Γn b) Γ) (h : OSub os osn) : RB X G L Γ os [] Γn osn (fun o => some (.nxt (b, h.map o))) := by
  intro σ F M R H o W D tk c w g q
  obtain ⟨M0, s0, w0⟩ := h.own w
  exact ⟨_, pss_nil, q σ F M0 H (.refl F) .refl (c.le hle) w0 (g.less s0)⟩
def Out.bind {β γ : Type} {G : FX} {L : LC} {om on : Os} (r : OutT G L β om) (k : β → OT om → OutT G L γ on) : OutT G L γ on := match r with
  | none => none
  | some (.nxt n) => k n.1 n.2
  | some (.brk l) => some (.brk l)
  | some (.cnt l) => some (.cnt l)
  | some (.ret x p) => some (.ret x p)
  | some (.exc e p) => some (.exc e p)
theorem rb_cons {γ : Type} {Γm : γ → Ctx} {om : Os} {m1 : OT os → OutT G L γ om} {m2 : γ → OT om → OutT G L β osn} (h1 : RS X G L Γ os st Γm om m1) (h2 : ∀ b, RB X G L (Γm b) om rest Γn osn (m2 b)) :
    RB X G L Γ os (st :: rest) Γn osn (fun o => Out.bind (m1 o) m2) := by
  intro σ F M R H o W D tk c w g q
  refine ⟨_, pss_cons (ps_best X st) (pss_best X rest), ?_⟩
  refine h1 σ F M R H o W { D with nx := bestB X rest D } tk c w g ?_
  have q' : WantS X G L Γn osn σ F R W D (Out.bind (m1 o) m2) := q
  cases z : m1 o with
  | none => rw [z] at q'; exact q'
  | some r =>
    rw [z] at q'
    cases r with
    | nxt n => exact fun σ' F' M' H' s k' c' w' g' => h2 n.1 σ' F' M' R H' n.2 W D tk c' w' g' (q'.mono s k')
    | brk n => exact q'
    | cnt n => exact q'
    | ret x p => exact q'
    | exc e p => exact q'
theorem rb_one {m : OT os → OutT G L β osn} (h : RS X G L Γ os st Γn osn m) : RB X G L Γ os [st] Γn osn m := fun σ F M R H o W D tk c w g q => ⟨_, pss_one (ps_best X st), h σ F M R H o W D tk c w g q⟩
/-- what is expressed, then what follows -/
def bindX {A : Type} {G : FX} {L : LC} {β : Type} {os osn : Os} (h : OSub os G.ps) (r : Option (Except Exn A × OT os)) (k : A → OT os → OutT G L β osn) : OutT G L β osn := match r with
  | none => none
  | some (.ok x, o) => k x o
  | some (.error e, o) => some (.exc e (h.map o))
theorem WantS.bindX {A : Type} {h : OSub os G.ps} {r : Option (Except Exn A × OT os)} {kk : A → OT os → OutT G L β osn} {σ : L2.St} {F R : Hp} {W : WX} {D : Ends} (q : WantS X G L Γn osn σ F R W D (bindX h r kk)) :
    Want r (fun x o => WantS X G L Γn osn σ F R W D (kk x o)) (ExcE X os σ F R W) := by
  cases r with
  | none => exact q
  | some r =>
    obtain ⟨r, o⟩ := r
    cases r with
    | ok x => exact q
    | error e =>
      intro cls d F' M' H' s w g x
      obtain ⟨M0, s0, w0⟩ := h.own w
      exact q cls d σ F' M0 H' s .refl w0 (g.less s0) x
def noSlot (i : Nat) (os : Os) : Bool := os.all fun p => p.1 != i
theorem noSlot_ne {i : Nat} {os : Os} (h : noSlot i os = true) : ∀ p ∈ os, p.1 ≠ i := fun p hp => by
  have z := List.all_eq_true.mp h p hp
  simpa using z
theorem keep_set {kp : List Nat} {i : Nat} {σ : L2.St} {w : Option V} (h : kp.all (· != i) = true) : Keep kp σ (σ.set i w) := ⟨by simp, fun j hj => by
  have z := List.all_eq_true.mp h j hj
  have z' : j ≠ i := by simpa using z
  rw [List.getElem?_set_ne (Ne.symm z')]⟩
theorem OwnOk.set {o : OT os} {σ : L2.St} {F M R : Hp} {i : Nat} {v : Option V} (w : OwnOk os o σ F M R) (h : noSlot i os = true) : OwnOk os o (σ.set i v) F M R :=
  w.slots fun p hp => List.getElem?_set_ne (Ne.symm (noSlot_ne h p hp))
/-- x = e; .. -/
theorem rb_asg (xo : XOk X N sc B k) (hS : OSub os G.ps) (i j : Nat) {nm : Str} {kd : NameKind} {me : SM (OT os) t.A} {kk : t.A → OT os → OutT G L β osn} (it : Imm t) (he : RE X Γ os e t me)
    (hk : ∀ x, RB X G L (Γ.set i (some ⟨t, x⟩)) os rest Γn osn (kk x))
    (hj : sc.names[j]? = some (nm, kd) := by rfl) (hkd : locK kd = true := by rfl) (hN : N[i]? = some nm := by rfl) (hf : noSlot i os = true := by rfl) (hkp : G.kp.all (· != i) = true := by rfl)
    (hs : swapsWith e (some (.Name nm p)) pos.line X.env = pure false := by rfl) : RB X G L Γ os (.Assign [.Name nm p] e pos :: rest) Γn osn (fun o => bindX hS (me o) kk) := by
  intro σ F M R H o W D tk c w g q
  obtain ⟨l1, l2⟩ := xo.lc j nm kd hj hkd
  refine ⟨_, pss_cons (ps_set (i := i) xo.nd (by rw [xo.nN]; exact hN) l1 (pe_best X e) hs l2) (pss_best X rest), ?_⟩
  refine he σ F M R H o W _ tk c w g (q.bindX.imp (fun x o1 z => ?_) fun _ _ z => z)
  intro v F' M1 mm M' H' s' w' p' g' r'
  have e := it r'; subst e
  have e := p'.emp_l; subst e
  exact hk x (σ.set i (some v)) F' _ R H' o1 W D tk ((c.mono s').set r') (w'.set hf) g' (z.mono s' (keep_set hkp))
/-- x = e; .., e a new thing that we own -/
theorem rb_asgO (xo : XOk X N sc B k) (hS : OSub os G.ps) (i j : Nat) {nm : Str} {kd : NameKind} {me : SM (OT os) t.A} {kk : OT ((i, t) :: os) → OutT G L β osn} (he : RE X Γ os e t me)
    (hk : RB X G L (Γ.set i none) ((i, t) :: os) rest Γn osn kk)
    (hlt : Nat.ble (i + 1) Γ.length = true := by rfl)
    (hj : sc.names[j]? = some (nm, kd) := by rfl) (hkd : locK kd = true := by rfl) (hN : N[i]? = some nm := by rfl) (hf : noSlot i os = true := by rfl) (hkp : G.kp.all (· != i) = true := by rfl)
    (hs : swapsWith e (some (.Name nm p)) pos.line X.env = pure false := by rfl) : RB X G L Γ os (.Assign [.Name nm p] e pos :: rest) Γn osn (fun o => bindX hS (me o) fun x o => kk (x, o)) := by
  intro σ F M R H o W D tk c w g q
  obtain ⟨l1, l2⟩ := xo.lc j nm kd hj hkd
  refine ⟨_, pss_cons (ps_set (i := i) xo.nd (by rw [xo.nN]; exact hN) l1 (pe_best X e) hs l2) (pss_best X rest), ?_⟩
  refine he σ F M R H o W _ tk c w g (q.bindX.imp (fun x o1 z => ?_) fun _ _ z => z)
  intro v F' M1 mm M' H' s' w' p' g' r'
  exact hk (σ.set i (some v)) F' M' R H' (x, o1) W D tk ((c.mono s').out) ⟨v, mm, M1, List.getElem?_set_self (by rw [← c.1]; exact Nat.le_of_ble_eq_true hlt), r', p', w'.set hf⟩ g' (z.mono s' (keep_set hkp))
/-- an expression whose value is dropped -/
theorem rb_expr (hS : OSub os G.ps) {me : SM (OT os) t.A} {kk : OT os → OutT G L β osn} (he : RE X Γ os e t me) (hk : RB X G L Γ os rest Γn osn kk) (hs : swapsWith e none pos.line X.env = pure false := by rfl) :
    RB X G L Γ os (.Expr e pos :: rest) Γn osn (fun o => bindX hS (me o) fun _ o => kk o) := by
  intro σ F M R H o W D tk c w g q
  refine ⟨_, pss_cons (ps_expr (pe_best X e) hs) (pss_best X rest), ?_⟩
  refine he σ F M R H o W _ tk c w g (q.bindX.imp (fun x o1 z => ?_) fun _ _ z => z)
  intro v F' M1 mm M' H' s' w' p' g' r'
  exact hk σ F' M1 R H' o1 W D tk (c.mono s') w' (g'.less p'.r) (z.mono s' .refl)
theorem rs_ret (hS : OSub os G.ps) {me : SM (OT os) G.tr.A} (he : RE X Γ os e G.tr me) : RS X G L Γ os (.Return (some e) pos) Γn osn (fun o => bindX hS (me o) fun x o => some (.ret x (hS.map o))) := by
  intro σ F M R H o W D tk c w g q
  refine ⟨_, ps_ret (pe_best X e), ?_⟩
  refine he σ F M R H o W _ tk c w g (q.bindX.imp (fun x o1 z => ?_) fun _ _ z => z)
  intro v F' M1 mm M' H' s' w' p' g' r'
  obtain ⟨M0, s0, w0⟩ := hS.own w'
  refine z v σ F' M0 mm (uni mm M0) H' s' .refl w0 ⟨fun a => ?_, rfl⟩ (g'.less fun a u h => ?_) r'
  · exact (p'.dis a).imp id fun y => s0.none y
  · cases y : mm a with
    | some u' => rw [uni_l y] at h; exact p'.l a u (by rw [y]; exact h)
    | none => rw [uni_r y] at h; exact p'.r a u (s0 a u h)
theorem rs_if (hS : OSub os G.ps) {c : Expr} {sa sb : List Stmt} {mc : SM (OT os) Bool} {ma mb : OT os → OutT G L β osn} (hc : RT X Γ os c mc) (ha : RB X G L Γ os sa Γn osn ma) (hb : RB X G L Γ os sb Γn osn mb) :
    RS X G L Γ os (.If c sa sb pos) Γn osn (fun o => bindX hS (mc o) fun b o => if b = true then ma o else mb o) := by
  intro σ F M R H o W D tk cc w g q
  refine ⟨_, ps_if (pt_best X c) (pss_best X sa) (pss_best X sb), ?_⟩
  refine hc σ F M R H o W _ tk cc w g (q.bindX.imp (fun x o1 z => ?_) fun _ _ z => z)
  intro F' M' H' s' w' g'
  cases x with
  | true => exact ha σ F' M' R H' o1 W D tk (cc.mono s') w' g' (WantS.mono z s' .refl)
  | false => exact hb σ F' M' R H' o1 W D tk (cc.mono s') w' g' (WantS.mono z s' .refl)
theorem rs_pass (b : β) (hle : CtxLe (Γn b) Γ) (h : OSub os osn) : RS X G L Γ os (.Pass pos) Γn osn (fun o => some (.nxt (b, h.map o))) := by
  intro σ F M R H o W D tk c w g q
  obtain ⟨M0, s0, w0⟩ := h.own w
  exact ⟨_, ps_pass, q σ F M0 H (.refl F) .refl (c.le hle) w0 (g.less s0)⟩
theorem rs_brk (b : L.B) (hle : CtxLe (L.G b) Γ) (h : OSub os L.os) : RS X G L Γ os (.Break pos) Γn osn (fun o => some (.brk (b, h.map o))) := by
  intro σ F M R H o W D tk c w g q
  obtain ⟨M0, s0, w0⟩ := h.own w
  exact ⟨_, ps_break, q σ F M0 H (.refl F) .refl (c.le hle) w0 (g.less s0)⟩
theorem rs_cnt (b : L.B) (hle : CtxLe (L.G b) Γ) (h : OSub os L.os) : RS X G L Γ os (.Continue pos) Γn osn (fun o => some (.cnt (b, h.map o))) := by
  intro σ F M R H o W D tk c w g q
  obtain ⟨M0, s0, w0⟩ := h.own w
  exact ⟨_, ps_continue, q σ F M0 H (.refl F) .refl (c.le hle) w0 (g.less s0)⟩

/-- a turn's end, then what follows -/
def Out.turn {β : Type} {G : FX} {L : LC} {os : Os} (r : Option (Out (β × OT os) (β × OT os) G.tr.A (OT G.ps))) (k : β → OT os → OutT G L β os) : OutT G L β os := match r with
  | none => none
  | some (.nxt z) => k z.1 z.2
  | some (.cnt z) => k z.1 z.2
  | some (.brk z) => some (.nxt z)
  | some (.ret x p) => some (.ret x p)
  | some (.exc e p) => some (.exc e p)
/-! ### while -/
def whileS {β : Type} {G : FX} {L : LC} {os : Os} (hS : OSub os G.ps) (c : β → SM (OT os) Bool) (body : β → OT os → Option (Out (β × OT os) (β × OT os) G.tr.A (OT G.ps))) : Nat → β → OT os → OutT G L β os
  | 0, _, _ => none
  | n + 1, b, o => bindX hS (c b o) fun y o => if y = true then Out.turn (body b o) (whileS hS c body n) else some (.nxt (b, o))
theorem rs_while (hS : OSub os G.ps) (hp : PassesOwn (model X.prog X.w) X.A X.env X.xe) (n : Nat) {c : Expr} {body : List Stmt} {ΓL : β → Ctx} {b0 : β} {mc : β → SM (OT os) Bool} {mb : β → OT os → Option (Out (β × OT os) (β × OT os) G.tr.A (OT G.ps))}
    (hle : CtxLe (ΓL b0) Γ) (hc : ∀ b, RT X (ΓL b) os c (mc b)) (hb : ∀ b, RB X G ⟨β, ΓL, os⟩ (ΓL b) os body ΓL os (mb b)) :
    RS X G L Γ os (.While c body [] pos) ΓL os (fun o => whileS hS mc mb n b0 o) := by
  intro σ F M R H o W D tk cc w g q
  refine ⟨_, ps_while hp (pt_best X c) (pss_best X body), ?_⟩
  refine ⟨fun m σ' H' => ∃ b o' F' M', Sub F F' ∧ Keep G.kp σ σ' ∧ CtxOk (ΓL b) σ' F' ∧ OwnOk os o' σ' F' M' R ∧ Good F' M' H' ∧ WantS X G L ΓL os σ' F' R W D (whileS hS mc mb m b o'), ⟨n, b0, o, F, M, .refl F, .refl, cc.le hle, w, g, q⟩, ?_⟩
  rintro m σ1 H1 ⟨b, o1, F1, M1, s1, k1, c1, w1, g1, q1⟩
  cases m with
  | zero => exact q1.elim
  | succ m =>
    refine hc b σ1 F1 M1 R H1 o1 W _ tk c1 w1 g1 ((show WantS X G L ΓL os σ1 F1 R W D (bindX hS (mc b o1) _) from q1).bindX.imp (fun y o2 z => ?_) fun _ _ z => z)
    intro F2 M2 H2 s2 w2 g2
    cases y with
    | false =>
      exact (show NxtS G ΓL os σ1 F1 R D.nx (b, o2) from z) σ1 F2 M2 H2 s2 .refl (c1.mono s2) w2 g2
    | true =>
      show ∃ N : L2.St → Hp → Prop, (∀ σ' H', N σ' H' → ∃ m', m' < m + 1 ∧ ∃ b o' F' M', Sub F F' ∧ Keep G.kp σ σ' ∧ CtxOk (ΓL b) σ' F' ∧ OwnOk os o' σ' F' M' R ∧ Good F' M' H' ∧ WantS X G L ΓL os σ' F' R W D (whileS hS mc mb m' b o')) ∧
        bestB X body { D with nx := N, ct := N, bk := D.nx } σ1 H2
      refine ⟨fun σ' H' => ∃ b o' F' M', Sub F F' ∧ Keep G.kp σ σ' ∧ CtxOk (ΓL b) σ' F' ∧ OwnOk os o' σ' F' M' R ∧ Good F' M' H' ∧ WantS X G L ΓL os σ' F' R W D (whileS hS mc mb m b o'), fun σ' H' h => ⟨m, Nat.lt_succ_self m, h⟩, ?_⟩
      refine hb b σ1 F2 M2 R H2 o2 W _ tk (c1.mono s2) w2 g2 ?_
      have z' : WantS X G L ΓL os σ1 F1 R W D (Out.turn (mb b o2) (whileS hS mc mb m)) := z
      cases u : mb b o2 with
      | none => rw [u] at z'; exact z'
      | some r =>
        rw [u] at z'
        cases r with
        | nxt n => exact fun σ' F' M' H' s k' c' w' g' => ⟨n.1, n.2, F', M', (s1.trans s2).trans s, k1.trans k', c', w', g', WantS.mono z' (s2.trans s) k'⟩
        | cnt n => exact fun σ' F' M' H' s k' c' w' g' => ⟨n.1, n.2, F', M', (s1.trans s2).trans s, k1.trans k', c', w', g', WantS.mono z' (s2.trans s) k'⟩
        | brk n => exact NxtS.mono (show NxtS G ΓL os σ1 F1 R D.nx n from z') s2 .refl
        | ret x p => exact fun v σ' F' M1 mm M' H' s' k' => z' v σ' F' M1 mm M' H' (s2.trans s') k'
        | exc e p => exact fun cls d σ' F' M' H' s' k' => z' cls d σ' F' M' H' (s2.trans s') k'

/-! ### for -/
/-- what is walked: the items xs come, one a turn, whatever is laid meanwhile -/
def Yld (J : It) (t : Ty) (xs : List t.A) (F : Hp) : Prop := ∀ F' M H, Sub F F' → Good F' M H → ∀ i, (xs.length ≤ i → J.stop i H) ∧
  ∀ x, xs[i]? = some x → J.go i H ∧ ∀ v H', J.yld i H v H' → ∃ F2, Sub F' F2 ∧ Good F2 M H' ∧ t.rep x v F2 emp
def bestI (X : Cx) (tg iter : Expr) : TI := fun σ H R => ∃ w, PI X tg iter w ∧ w σ H R
theorem pi_best (X : Cx) (tg iter : Expr) : PI X tg iter (bestI X tg iter) := ⟨fun pins s σ H R I ⟨_, p, h⟩ => p.run pins s σ H R I h⟩
def NormI (os : Os) (t : Ty) (σ : L2.St) (F R : Hp) (K : It → Hp → Prop) (xs : List t.A) (o : OT os) : Prop :=
  ∀ J F' M' H', Sub F F' → OwnOk os o σ F' M' R → Good F' M' H' → Yld J t xs F' → K J H'
def RI (X : Cx) (Γ : Ctx) (os : Os) (tg iter : Expr) (t : Ty) (m : SM (OT os) (List t.A)) : Prop :=
  ∀ (σ : L2.St) (F M R H : Hp) (o : OT os) (W : WX) (K : It → Hp → Prop), Takes X W → CtxOk Γ σ F → OwnOk os o σ F M R → Good F M H →
    Want (m o) (NormI os t σ F R K) (ExcE X os σ F R W) → bestI X tg iter σ H K
/-- a target that takes an item of type t: the slots that it stores -/
def RG (X : Cx) (kp : List Nat) (Γ : Ctx) (os : Os) (tg : Expr) (t : Ty) (Γx : t.A → Ctx) : Prop :=
  ∃ g, PG X tg g ∧ ∀ (σ : L2.St) (F M R H : Hp) (o : OT os) (x : t.A) (v : V) (K : L2.St → Hp → Prop), CtxOk Γ σ F → OwnOk os o σ F M R → Good F M H → t.rep x v F emp →
    (∀ σ', Keep kp σ σ' → CtxOk (Γx x) σ' F → OwnOk os o σ' F M R → K σ' H) → g v σ H K
theorem rg_name (xo : XOk X N sc B k) (i j : Nat) {kp : List Nat} {nm : Str} {kd : NameKind} (hj : sc.names[j]? = some (nm, kd) := by rfl) (hkd : locK kd = true := by rfl) (hN : N[i]? = some nm := by rfl) (hf : noSlot i os = true := by rfl) (hkp : kp.all (· != i) = true := by rfl) :
    RG X kp Γ os (.Name nm p) t (fun x => Γ.set i (some ⟨t, x⟩)) := by
  obtain ⟨l1, l2⟩ := xo.lc j nm kd hj hkd
  refine ⟨_, pg_name (i := i) xo.nd (by rw [xo.nN]; exact hN) l1 l2, fun σ F M R H o x v K c w g r h => ?_⟩
  exact h _ (keep_set hkp) (c.set r) (w.set hf)
def forS {α β : Type} {G : FX} {L : LC} {os : Os} (body : α → β → OT os → Option (Out (β × OT os) (β × OT os) G.tr.A (OT G.ps))) : List α → β → OT os → OutT G L β os
  | [], b, o => some (.nxt (b, o))
  | x :: xs, b, o => Out.turn (body x b o) (forS body xs)
theorem rs_for (hS : OSub os G.ps) (hp : PassesOwn (model X.prog X.w) X.A X.env X.xe) (hc : X.calm = true) {tg iter : Expr} {body : List Stmt} {ΓL : β → Ctx} {b0 : β} {mi : SM (OT os) (List t.A)} {Γx : β → t.A → Ctx}
    {mb : t.A → β → OT os → Option (Out (β × OT os) (β × OT os) G.tr.A (OT G.ps))}
    (hle : CtxLe (ΓL b0) Γ) (hi : RI X Γ os tg iter t mi) (hg : ∀ b, RG X G.kp (ΓL b) os tg t (Γx b)) (hb : ∀ x b, RB X G ⟨β, ΓL, os⟩ (Γx b x) os body ΓL os (mb x b))
    (hs : ∀ x, foldedSetIterable iter X.env x = pure x := by intro _; rfl) :
    RS X G L Γ os (.For tg iter body [] pos) ΓL os (fun o => bindX hS (mi o) fun xs o => forS mb xs b0 o) := by
  intro σ F M R H o W D tk cc w g q
  -- one target for every turn
  let gg : TG := fun v σ H K => ∃ g', PG X tg g' ∧ g' v σ H K
  have hgg : PG X tg gg := ⟨fun pins s σ H v u Q I r ⟨_, p, h⟩ => p.run pins s σ H v u Q I r h⟩
  refine ⟨_, ps_for hp hc (pi_best X tg iter) hgg (pss_best X body) hs, ?_⟩
  refine hi σ F M R H o W _ tk cc w g (q.bindX.imp (fun xs o1 z => ?_) fun _ _ z => z)
  intro J F1 M1 H1 s1 w1 g1 y1
  refine ⟨fun i m σ' H' => m = xs.length - i ∧ i ≤ xs.length ∧ ∃ b o' F' M', Sub F1 F' ∧ Keep G.kp σ σ' ∧ CtxOk (ΓL b) σ' F' ∧ OwnOk os o' σ' F' M' R ∧ Good F' M' H' ∧ WantS X G L ΓL os σ' F' R W D (forS mb (xs.drop i) b o'),
    ⟨_, rfl, Nat.zero_le _, b0, o1, F1, M1, .refl F1, .refl, (cc.mono s1).le hle, w1, g1, WantS.mono z s1 .refl⟩, ?_⟩
  rintro i m σ2 H2 ⟨rfl, hi2, b, o2, F2, M2, s2, k2, c2, w2, g2, q2⟩
  obtain ⟨st, go⟩ := y1 F2 M2 H2 s2 g2 i
  by_cases hlt : i < xs.length
  · have hx : xs[i]? = some xs[i] := List.getElem?_eq_getElem hlt
    obtain ⟨go1, go2⟩ := go xs[i] hx
    refine .inr ⟨go1, fun σ' H' => i + 1 ≤ xs.length ∧ ∃ b o' F' M', Sub F1 F' ∧ Keep G.kp σ σ' ∧ CtxOk (ΓL b) σ' F' ∧ OwnOk os o' σ' F' M' R ∧ Good F' M' H' ∧ WantS X G L ΓL os σ' F' R W D (forS mb (xs.drop (i + 1)) b o'),
      fun σ' H' h => ⟨xs.length - (i + 1), by omega, rfl, h.1, h.2⟩, fun v H3 hy => ?_⟩
    obtain ⟨F3, s3, g3, r3⟩ := go2 v H3 hy
    obtain ⟨g', pg, hg'⟩ := hg b
    refine ⟨g', pg, hg' σ2 F3 M2 R H3 o2 xs[i] v _ (c2.mono s3) (w2.mono s3) g3 r3 fun σ4 k4 c4 w4 => ?_⟩
    rw [List.drop_eq_getElem_cons hlt] at q2
    refine hb xs[i] b σ4 F3 M2 R H3 o2 W _ tk c4 w4 g3 ?_
    have q2' : WantS X G L ΓL os σ2 F2 R W D (Out.turn (mb xs[i] b o2) (forS mb (xs.drop (i + 1)))) := q2
    cases u : mb xs[i] b o2 with
    | none => rw [u] at q2'; exact q2'
    | some r =>
      rw [u] at q2'
      cases r with
      | nxt n => exact fun σ' F' M' H' s k' c' w' g' => ⟨hlt, n.1, n.2, F', M', (s2.trans s3).trans s, (k2.trans k4).trans k', c', w', g', WantS.mono q2' (s3.trans s) (k4.trans k')⟩
      | cnt n => exact fun σ' F' M' H' s k' c' w' g' => ⟨hlt, n.1, n.2, F', M', (s2.trans s3).trans s, (k2.trans k4).trans k', c', w', g', WantS.mono q2' (s3.trans s) (k4.trans k')⟩
      | brk n => exact NxtS.mono (show NxtS G ΓL os σ2 F2 R D.nx n from q2') s3 k4
      | ret x p => exact fun v σ' F' M1 mm M' H' s' k' => q2' v σ' F' M1 mm M' H' (s3.trans s') (k4.trans k')
      | exc e p => exact fun cls d σ' F' M' H' s' k' => q2' cls d σ' F' M' H' (s3.trans s') (k4.trans k')
  · have e : i = xs.length := by omega
    subst e
    rw [List.drop_length] at q2
    exact .inl ⟨st (Nat.le_refl _), (show NxtS G ΓL os σ2 F2 R D.nx (b, o2) from q2) σ2 F2 M2 H2 (.refl F2) .refl c2 w2 g2⟩
end
end Mi

namespace Mi
open PySem PySem.Spec PyProof.Rows L2

/-! ### defs -/
structure Md where
  P : Program
  w : World
  K : PySem.W.Frag
  mg : Str → Option Value
  base : Heap
def _root_.L2.Cx.md (X : Cx) : Md := ⟨X.prog, X.w, X.K, X.mg, X.base⟩
/-- what a statement asks of its context -/
structure XS (X : Cx) : Prop where
  own : PassesOwn (model X.prog X.w) X.A X.env X.xe
  hs : X.stack = X.env :: X.outer
  hf : X.env.frame = some X.env.locals
/-- a def that owns nothing of its arguments -/
def spP (mg : Str → Option Value) (ts : List Ty) (tr : Ty) (fn : AT ts → Option (Except Exn tr.A)) : Sp := fun vs H Q E => ∃ x F R, ArgsOk ts x vs F ∧ Good F R H ∧
  (match fn x with
  | none => False
  | some (.ok y) => ∀ v F' mm M' H', Sub F F' → Sep mm R M' → Good F' M' H' → tr.rep y v F' mm → Q v H'
  | some (.error ex) => ∀ cls d F' H', Sub F F' → Good F' R H' → ExnOk mg ex cls d F' → E cls d H')
/-- a def whose first argument is lent to it -/
def spO (mg : Str → Option Value) (t0 : Ty) (ts : List Ty) (tr : Ty) (fn : t0.A → AT ts → Option (Except Exn tr.A × t0.A)) : Sp := fun vs H Q E => ∃ v0 us y0 x F m0 R M, vs = v0 :: us ∧ t0.rep y0 v0 F m0 ∧ Sep m0 R M ∧ ArgsOk ts x us F ∧ Good F M H ∧
  (match fn y0 x with
  | none => False
  | some (.ok y, z) => ∀ v F' m' M1 mm M' H', Sub F F' → t0.rep z v0 F' m' → Sep m' R M1 → Sep mm M1 M' → Good F' M' H' → tr.rep y v F' mm → Q v H'
  | some (.error ex, z) => ∀ cls d F' m' M1 H', Sub F F' → t0.rep z v0 F' m' → Sep m' R M1 → Good F' M1 H' → ExnOk mg ex cls d F' → E cls d H')
structure LkF (M : Md) (nm : Str) (ps : List Str) (sp : Sp) (j : Nat) (f : Addr) (fd : FuncData) : Prop where
  mg : M.mg nm = some (.ref f)
  kp : PySem.W.keepIn M.K (.ref f) = true
  bd : Binds M.K fd ps []
  ok : FnOk M.P M.w M.K M.mg M.base (L2.CX M.P M.w) j f fd ps sp
def LkP (M : Md) (nm : Str) (ps : List Str) (ts : List Ty) (tr : Ty) (fn : AT ts → Option (Except Exn tr.A)) (j : Nat) : Prop := ∃ f fd, LkF M nm ps (spP M.mg ts tr fn) j f fd
def LkO (M : Md) (nm : Str) (ps : List Str) (t0 : Ty) (ts : List Ty) (tr : Ty) (fn : t0.A → AT ts → Option (Except Exn tr.A × t0.A)) (j : Nat) : Prop := ∃ f fd, LkF M nm ps (spO M.mg t0 ts tr fn) j f fd
section
variable {X : Cx} {N : List Str} {sc : Scope} {B : List Str} {k : Nat} {Γ : Ctx} {os : Os} {pos p : Pos} {e : Expr} {es : List Expr}
def WE' (W : WX) : L2.St → XK := fun σ cls d H => W cls d σ H
theorem re_call (xo : XOk X N sc B k) {nm : Str} {ps : List Str} {ts : List Ty} {tr : Ty} {fn : AT ts → Option (Except Exn tr.A)} {j : Nat} {m : SM (OT os) (AT ts)} (l : LkP X.md nm ps ts tr fn j) (g : Nat)
    (ha : RA X Γ os (e :: es) ts m) (hg : sc.names[g]? = some (nm, .globalImplicit) := by rfl) (hj : j ≤ k := by decide)
    (he : starEach (e :: es) X.env = (false, eval e X.env) :: starEach es X.env := by rfl) (hpl : (backTo pos (starEach es X.env)).any (·.1) = false := by rfl) :
    RE X Γ os (.Call (.Name nm p) (e :: es) [] pos) tr (SM.bind m fun x => SM.lifx (fn x)) := by
  obtain ⟨f, fd, lf⟩ := l
  intro σ F M R H o W Q tk c w gd h
  refine ⟨_, pe_callSD (E := WE W) (F := lf.ok) (xo.room.mono hj) (xo.gl g nm hg) lf.mg lf.kp lf.bd .nil (fun σ => passAt tk σ) (pa_best X (e :: es)) (xo.db g nm _ hg).1 he hpl, ?_⟩
  refine args_end ha tk c w gd h fun x o2 vs F2 M2 H2 h2 s2 w2 g2 r2 => ?_
  refine ⟨x, F2, M2, by rw [List.append_nil]; exact r2, g2, ?_⟩
  unfold SM.lifx at h2
  cases z : fn x with
  | none => rw [z] at h2; exact h2
  | some r =>
    rw [z] at h2
    cases r with
    | ok y => exact fun v F' mm M' H' s' p' g' r' => (show NormE os tr σ F R Q y o2 from h2) v F' M2 mm M' H' (s2.trans s') (w2.mono s') p' g' r'
    | error ex => exact fun cls d F' H' s' g' x' => (show ExcE X os σ F R W ex o2 from h2) cls d F' M2 H' (s2.trans s') (w2.mono s') g' x'
/-- f() -/
theorem re_call0 (xo : XOk X N sc B k) {nm : Str} {ps : List Str} {tr : Ty} {fn : AT [] → Option (Except Exn tr.A)} {j : Nat} (l : LkP X.md nm ps [] tr fn j) (g : Nat)
    (hg : sc.names[g]? = some (nm, .globalImplicit) := by rfl) (hj : j ≤ k := by decide) :
    RE X Γ os (.Call (.Name nm p) [] [] pos) tr (SM.lifx (fn ())) := by
  obtain ⟨f, fd, lf⟩ := l
  intro σ F M R H o W Q tk c w gd h
  -- the exceptions' wish stands at the slots: one reading for all slots by pe_call0 is had at one of them
  have pe : PE X (.Call (.Name nm p) [] [] pos) (fun σ' H' Q' => σ' = σ ∧ spP X.mg [] tr fn [] H' Q' (WE W σ)) := by
    refine ⟨fun pins s σ' H' Q' I q => ?_⟩
    obtain ⟨rfl, q⟩ := q
    refine wpAny_Call_Name_kw (ld_glob I (xo.gl g nm hg) lf.mg ?_ (xo.db g nm _ hg).1)
    exact PySem.W.callWith_K0 I.kIn lf.kp (run_fnSD (us := []) (vs := []) (E := WE W) lf.ok (xo.room.mono hj) lf.bd .nil (passAt tk σ') I .nil (by rw [List.append_nil]; exact q))
  refine ⟨_, pe, rfl, (), F, M, rfl, gd, ?_⟩
  unfold SM.lifx at h
  cases z : fn () with
  | none => rw [z] at h; exact h
  | some r =>
    rw [z] at h
    cases r with
    | ok y => exact fun v F' mm M' H' s' p' g' r' => (show NormE os tr σ F R Q y o from h) v F' M mm M' H' s' (w.mono s') p' g' r'
    | error ex => exact fun cls d F' H' s' g' x' => (show ExcE X os σ F R W ex o from h) cls d F' M H' s' (w.mono s') g' x'
/-- lent: what it holds afterwards is kept -/
def SM.callO {os : Os} {i : Nat} {t0 : Ty} {A B : Type} (hm : OMem os i t0) (fn : t0.A → A → Option (Except Exn B × t0.A)) (x : A) : SM (OT os) B := fun o => match fn (hm.get o) x with
  | none => none
  | some (r, z) => some (r, hm.set z o)
/-- f(b, e, ..), b a name that we own and lend -/
theorem re_callO (xo : XOk X N sc B k) {nm nb : Str} {ps : List Str} {t0 : Ty} {ts : List Ty} {tr : Ty} {fn : t0.A → AT ts → Option (Except Exn tr.A × t0.A)} {j i jb : Nat} {kd : NameKind} {pb : Pos} {m : SM (OT os) (AT ts)} (l : LkO X.md nm ps t0 ts tr fn j) (g : Nat)
    (hm : OMem os i t0) (ib : Nat) (ha : RA X Γ os es ts m) (hib : ib = jb := by rfl)
    (hjb : sc.names[jb]? = some (nb, kd) := by rfl) (hkb : visK kd = true := by rfl) (hN : N[i]? = some nb := by rfl)
    (hg : sc.names[g]? = some (nm, .globalImplicit) := by rfl) (hj : j ≤ k := by decide)
    (he : starEach (.Name nb pb :: es) X.env = (false, eval (.Name nb pb) X.env) :: starEach es X.env := by rfl) (hpl : (backTo pos (starEach es X.env)).any (·.1) = false := by rfl) :
    RE X Γ os (.Call (.Name nm p) (.Name nb pb :: es) [] pos) tr (SM.bind m fun x => SM.callO hm fn x) := by
  obtain ⟨f, fd, lf⟩ := l
  intro σ F M R H o W Q tk c w gd h
  refine ⟨_, pe_callSD (E := WE W) (F := lf.ok) (xo.room.mono hj) (xo.gl g nm hg) lf.mg lf.kp lf.bd .nil (fun σ => passAt tk σ) (pa_cons (pe_var (by rw [xo.nN]; exact hN) (xo.vs jb nb kd hjb hkb) (xo.db jb nb kd hjb).1 (xo.db jb nb kd hjb).2.1) (pa_best X es) he) (xo.db g nm _ hg).1 he hpl, ?_⟩
  obtain ⟨v0, m0, M0, e0, r0, s0, _⟩ := hm.at w
  refine ⟨v0, e0, ?_⟩
  refine args_end ha tk c w gd h fun x o2 vs F2 M2 H2 h2 s2 w2 g2 r2 => ?_
  obtain ⟨v1, m1, M1, e1, r1, s1, up⟩ := hm.at w2
  rw [e0] at e1
  cases e1
  refine ⟨v0, vs, hm.get o2, x, F2, m1, M1, M2, by rw [List.append_nil], r1, s1, r2, g2, ?_⟩
  have h3 := h2
  unfold SM.callO at h3
  cases z : fn (hm.get o2) x with
  | none => rw [z] at h3; exact h3
  | some r =>
    obtain ⟨r, y0⟩ := r
    rw [z] at h3
    cases r with
    | ok y => exact fun v F' m' M3 mm M' H' s' q' p1 p2 g' r' => (show NormE os tr σ F R Q y (hm.set y0 o2) from h3) v F' M3 mm M' H' (s2.trans s') (up y0 m' M3 F' s' q' p1) p2 g' r'
    | error ex => exact fun cls d F' m' M3 H' s' q' p1 g' x' => (show ExcE X os σ F R W ex (hm.set y0 o2) from h3) cls d F' M3 H' (s2.trans s') (up y0 m' M3 F' s' q' p1) g' x'
end

/-! ### a def's body -/
def argCtx : (ts : List Ty) → AT ts → Ctx
  | [], _ => []
  | t :: r, x => some ⟨t, x.1⟩ :: argCtx r x.2
theorem argCtx_length : ∀ {ts : List Ty} {x : AT ts}, (argCtx ts x).length = ts.length
  | [], _ => rfl
  | _ :: _, _ => by unfold argCtx; rw [List.length_cons, argCtx_length, List.length_cons]
theorem ctx_args : ∀ {ts : List Ty} {x : AT ts} {vs : List V} {F : Hp} {n : Nat}, ArgsOk ts x vs F → CtxOk (argCtx ts x ++ List.replicate n none) (vs.map some ++ List.replicate n none) F
  | [], _, vs, F, n, h => by
    have h' : vs = [] := h
    subst h'
    refine ⟨by simp [argCtx], fun i t y e => ?_⟩
    have e' : (List.replicate n (none : Option ((t : Ty) × t.A)))[i]? = some (some ⟨t, y⟩) := e
    rw [List.getElem?_replicate] at e'
    split at e' <;> cases e'
  | t :: r, x, vs, F, n, ⟨v, us, e, q, k⟩ => by
    subst e
    have ih := ctx_args (n := n) k
    refine ⟨by have z := ih.1; simp only [argCtx, List.map_cons, List.cons_append, List.length_cons]; rw [z], fun i u y e => ?_⟩
    cases i with
    | zero =>
      have e' : some (some (⟨t, x.1⟩ : (t : Ty) × t.A)) = some (some ⟨u, y⟩) := e
      obtain ⟨rfl, e2⟩ := Sigma.mk.inj (Option.some.inj (Option.some.inj e'))
      cases e2
      exact ⟨v, rfl, q⟩
    | succ i => exact ih.2 i u y e
/-- z: what a def hands back that ends without return -/
def runZ {G : FX} {L : LC} {β : Type} {osn : Os} (z : Option G.tr.A) (r : OutT G L β osn) : Option (Except Exn G.tr.A) := match r with
  | some (.ret x _) => some (.ok x)
  | some (.exc e _) => some (.error e)
  | some (.nxt _) => z.map .ok
  | _ => none
def runO {t0 tr : Ty} {i : Nat} {kp : List Nat} {L : LC} {β : Type} {osn : Os} (r : OutT ⟨kp, [(i, t0)], tr⟩ L β osn) : Option (Except Exn tr.A × t0.A) := match r with
  | some (.ret x p) => some (.ok x, p.1)
  | some (.exc e p) => some (.error e, p.1)
  | _ => none
def dropAll : (a : Os) → OSub a []
  | [] => .nil
  | _ :: r => .skip (dropAll r)
def fnScB (N ps : List Str) (sc : Scope) : Bool := decide (sc.kind = .function) && (!sc.isCoroutine && (!sc.isGenerator && (decide N.Nodup && (decide (N.take ps.length = ps) && ((ps.all fun x => match sc.names.lookup x with
  | some .local => true | some .cell => true | _ => false) && ((sc.names.all fun y => decide (y.2 ≠ .free)) && ((sc.names.all fun y => decide (sc.names.lookup y.1 = some y.2)) && sc.names.all fun y => (!(y.1 == ("__debug__" : Str)) && (!(y.1 == ("__classdict__" : Str)) && decide (y.1 ≠ "__name__"))))))))))
theorem fnScB_ok {N ps : List Str} {sc : Scope} (h : fnScB N ps sc = true) : FnScope N ps sc ∧ (∀ y ∈ sc.names, sc.names.lookup y.1 = some y.2) ∧ ∀ y ∈ sc.names, (y.1 == ("__debug__" : Str)) = false ∧ (y.1 == ("__classdict__" : Str)) = false ∧ y.1 ≠ "__name__" := by
  unfold fnScB at h
  simp only [Bool.and_eq_true, decide_eq_true_eq, Bool.not_eq_true', List.all_eq_true] at h
  obtain ⟨h1, h2, h3, h4, h5, h6, h7, h8, h9⟩ := h
  refine ⟨⟨h1, h2, h3, h4, h5, fun x hx => ?_, h7⟩, h8, h9⟩
  have z := h6 x hx
  split at z
  · exact .inl (by assumption)
  · exact .inr (by assumption)
  · cases z
section
variable {M : Md} {x qual : Str} {params : Arguments} {body : List Stmt} {scope : Scope} {f : Addr} {fd : FuncData} {N ps : List Str} {B : List Str} {k : Nat}
theorem xo_body (S : FnScope N ps scope) (hu : ∀ y ∈ scope.names, scope.names.lookup y.1 = some y.2) (hd : ∀ y ∈ scope.names, (y.1 == ("__debug__" : Str)) = false ∧ (y.1 == ("__classdict__" : Str)) = false ∧ y.1 ≠ "__name__") (hB : ∀ (i : Nat) (x : Str), B[i]? = some x → M.mg x = none) {cdv : Value} {A : Around} {outer : List Env} {s : Shared} {H : Hp} {E : XK}
    (hr : Room k (A.deeper (envOfC qual scope s.heap.objs.size f cdv))) : XOk (cxOf (L2.CX M.P M.w) M.P M.w M.K M.mg M.base N qual scope f cdv A outer s H E) N scope B k := by
  have kind : ∀ (x : Str) (kd : NameKind), scope.names.lookup x = some kd → (envOfC qual scope s.heap.objs.size f cdv).kindOf x = some kd := fun x kd h => h
  refine ⟨rfl, fun j x kd h => hd _ (List.mem_of_getElem? h), fun j x kd h hk => ?_, fun j x h => ?_, fun j x kd h hk => ?_, fun j x kd h hk => ?_, fun j x kd h _ => hu _ (List.mem_of_getElem? h), S.kind, S.nd, hB, hr, rfl⟩
  · have e := hu _ (List.mem_of_getElem? h)
    cases kd <;> first | exact .inl e | exact .inr (.inl e) | exact .inr (.inr e) | cases hk
  · exact kind x _ (hu _ (List.mem_of_getElem? h))
  · have e := hu _ (List.mem_of_getElem? h)
    cases kd <;> first | exact ⟨.inl e, .inl rfl⟩ | exact ⟨.inr e, .inl rfl⟩ | cases hk
  · have e := hu _ (List.mem_of_getElem? h)
    rcases hk with rfl | rfl
    · exact .inl e
    · exact .inr e
theorem xs_body {cdv : Value} {A : Around} {outer : List Env} {s : Shared} {H : Hp} {E : XK} : XS (cxOf (L2.CX M.P M.w) M.P M.w M.K M.mg M.base N qual scope f cdv A outer s H E) := ⟨passes_of rfl, rfl, rfl⟩
theorem takes_body {cdv : Value} {A : Around} {outer : List Env} {s : Shared} {H : Hp} {E : XK} : Takes (cxOf (L2.CX M.P M.w) M.P M.w M.K M.mg M.base N qual scope f cdv A outer s H E) (fun cls d _ H => E cls d H) := takes_of rfl rfl rfl rfl
/-- a def that owns nothing: by its body -/
theorem fn_P (F : FunD M.K x qual params body scope [] [] f fd) {Lks : Md → Prop} (lks : Lks M) {ts : List Ty} {tr : Ty} {β : Type} {Γn : β → Ctx} {osn : Os} {m : AT ts → OT [] → OutT ⟨[], [], tr⟩ LC.none β osn} {z : Option tr.A}
    (hB : ∀ (i : Nat) (x : Str), B[i]? = some x → M.mg x = none) (hsc : fnScB N ps scope = true) (hl : ts.length = ps.length)
    (hb : ∀ X, Lks X.md → XOk X N scope B k → XS X → ∀ x, RB X ⟨[], [], tr⟩ LC.none (argCtx ts x ++ List.replicate (N.length - ts.length) none) [] body Γn osn (m x))
    (hz : ∀ y, z = some y → ∀ F, tr.rep y .non F emp) :
    FnOk M.P M.w M.K M.mg M.base (L2.CX M.P M.w) (k + 1) f fd ps (spP M.mg ts tr fun x => runZ z (m x ())) := by
  obtain ⟨S, hu, hd⟩ := fnScB_ok hsc
  refine F.ok S (fun vs H Q E h => ?_) fun cdv A outer s H vs Q E hr h => ?_
  · obtain ⟨_, _, _, h, _⟩ := h
    rw [h.length, hl]
  · obtain ⟨x, F, R, ha, g, h⟩ := h
    refine ⟨_, pss_best _ body, ?_⟩
    have c := ctx_args (n := N.length - vs.length) ha
    have hlen := ha.length
    rw [hlen] at c
    refine hb (cxOf (L2.CX M.P M.w) M.P M.w M.K M.mg M.base N qual scope f cdv A outer s H E) lks (xo_body S hu hd hB hr) xs_body x (L2.start N vs) F R R H () (fun cls d _ H => E cls d H) _ takes_body ?_ rfl g ?_
    · unfold L2.start
      rw [hlen]
      exact c
    · revert h
      show (match runZ z (m x ()) with
        | none => False
        | some (.ok y) => _
        | some (.error ex) => _) → WantS _ _ _ _ _ _ _ _ _ _ (m x ())
      cases q : m x () with
      | none => exact fun h => h.elim
      | some r =>
        cases r with
        | nxt n =>
          cases z with
          | none => exact fun h => h.elim
          | some y =>
            intro h σ' F' M' H' s' k' c' w' g'
            obtain ⟨M0, s0, w0⟩ := (dropAll osn).own w'
            have w0' : M0 = R := w0
            subst w0'
            exact h .non F' emp _ H' s' (sep_emp_l _) (g'.less s0) (hz y rfl F')
        | brk n => exact fun h => h.elim
        | cnt n => exact fun h => h.elim
        | ret y p =>
          intro h v σ' F' M1 mm M' H' s' k' w' p' g' r'
          have e : M1 = R := w'
          subst e
          exact h v F' mm M' H' s' p' g' r'
        | exc e p =>
          intro h cls d σ' F' M' H' s' k' w' g' x'
          have e : M' = R := w'
          subst e
          exact h cls d F' H' s' g' x'
/-- a def whose first argument is lent -/
theorem fn_O (F : FunD M.K x qual params body scope [] [] f fd) {Lks : Md → Prop} (lks : Lks M) {t0 : Ty} {ts : List Ty} {tr : Ty} {β : Type} {Γn : β → Ctx} {osn : Os} {m : AT ts → OT [(0, t0)] → OutT ⟨[0], [(0, t0)], tr⟩ LC.none β osn}
    (hB : ∀ (i : Nat) (x : Str), B[i]? = some x → M.mg x = none) (hsc : fnScB N ps scope = true) (hl : ts.length + 1 = ps.length)
    (hb : ∀ X, Lks X.md → XOk X N scope B k → XS X → ∀ x, RB X ⟨[0], [(0, t0)], tr⟩ LC.none (none :: (argCtx ts x ++ List.replicate (N.length - (ts.length + 1)) none)) [(0, t0)] body Γn osn (m x)) :
    FnOk M.P M.w M.K M.mg M.base (L2.CX M.P M.w) (k + 1) f fd ps (spO M.mg t0 ts tr fun y x => runO (m x (y, ()))) := by
  obtain ⟨S, hu, hd⟩ := fnScB_ok hsc
  refine F.ok S (fun vs H Q E h => ?_) fun cdv A outer s H vs Q E hr h => ?_
  · obtain ⟨_, us, _, _, _, _, _, _, rfl, _, _, h, _⟩ := h
    rw [List.length_cons, h.length, hl]
  · obtain ⟨v0, us, y0, x, F, m0, R, M1, rfl, r0, s0, ha, g, h⟩ := h
    refine ⟨_, pss_best _ body, ?_⟩
    have hlen := ha.length
    have c := ctx_args (n := N.length - (us.length + 1)) ha
    have c2 : CtxOk (none :: (argCtx ts x ++ List.replicate (N.length - (ts.length + 1)) none)) (L2.start N (v0 :: us)) F := by
      unfold L2.start
      rw [List.length_cons, hlen]
      rw [hlen] at c
      refine ⟨by have z := c.1; simp only [List.map_cons, List.cons_append, List.length_cons]; rw [z], fun i u y e => ?_⟩
      cases i with
      | zero => cases e
      | succ i => exact c.2 i u y e
    refine hb (cxOf (L2.CX M.P M.w) M.P M.w M.K M.mg M.base N qual scope f cdv A outer s H E) lks (xo_body S hu hd hB hr) xs_body x (L2.start N (v0 :: us)) F M1 R H (y0, ()) (fun cls d _ H => E cls d H) _ takes_body c2 ⟨v0, m0, R, rfl, r0, s0, rfl⟩ g ?_
    revert h
    show (match runO (m x (y0, ())) with
      | none => False
      | some (.ok y, z) => _
      | some (.error ex, z) => _) → WantS _ _ _ _ _ _ _ _ _ _ (m x (y0, ()))
    cases q : m x (y0, ()) with
    | none => exact fun h => h.elim
    | some r =>
      cases r with
      | nxt n => exact fun h => h.elim
      | brk n => exact fun h => h.elim
      | cnt n => exact fun h => h.elim
      | ret y p =>
        intro h v σ' F' M2 mm M' H' s' k' w' p' g' r'
        obtain ⟨v1, m1, M3, e1, r1, s1, w1⟩ := w'
        have e : M3 = R := w1
        subst e
        have k0 := k'.2 0 (by simp)
        rw [show (L2.start N (v0 :: us))[0]? = some (some v0) from rfl] at k0
        have e2 : σ'[0]? = some (some v1) := e1
        rw [k0] at e2
        cases e2
        exact h v F' m1 M2 mm M' H' s' r1 s1 p' g' r'
      | exc e p =>
        intro h cls d σ' F' M' H' s' k' w' g' x'
        obtain ⟨v1, m1, M3, e1, r1, s1, w1⟩ := w'
        have e : M3 = R := w1
        subst e
        have k0 := k'.2 0 (by simp)
        rw [show (L2.start N (v0 :: us))[0]? = some (some v0) from rfl] at k0
        have e2 : σ'[0]? = some (some v1) := e1
        rw [k0] at e2
        cases e2
        exact h cls d F' m1 M' H' s' r1 s1 g' x'
end
end Mi

namespace Mi
open PySem PySem.Spec PyProof.Rows L2

abbrev gI (x : Str) : Str × NameKind := (x, .globalImplicit)
/-! ### lists, tuples -/
def AllR (t : Ty) : List t.A → List V → Hp → Prop
  | [], vs, _ => vs = []
  | x :: xs, vs, F => ∃ v r, vs = v :: r ∧ t.rep x v F emp ∧ AllR t xs r F
theorem AllR.mono {t : Ty} : ∀ {xs : List t.A} {vs : List V} {F F' : Hp}, AllR t xs vs F → Sub F F' → AllR t xs vs F'
  | [], _, _, _, h, _ => h
  | _ :: _, _, _, _, ⟨v, r, e, q, k⟩, s => ⟨v, r, e, t.mono q s, k.mono s⟩
theorem AllR.length {t : Ty} : ∀ {xs : List t.A} {vs : List V} {F : Hp}, AllR t xs vs F → vs.length = xs.length
  | [], vs, _, h => by have h' : vs = [] := h; rw [h'] <;> rfl
  | _ :: _, _, _, ⟨v, r, e, q, k⟩ => by rw [e, List.length_cons, List.length_cons, k.length]
theorem AllR.get {t : Ty} : ∀ {xs : List t.A} {vs : List V} {F : Hp} {i : Nat} {x : t.A}, AllR t xs vs F → xs[i]? = some x → ∃ v, vs[i]? = some v ∧ t.rep x v F emp
  | [], _, _, _, _, _, e => by simp at e
  | y :: xs, _, _, 0, x, ⟨v, r, e, q, k⟩, h => by subst e; simp at h; subst h; exact ⟨v, rfl, q⟩
  | y :: xs, _, _, i + 1, x, ⟨v, r, e, q, k⟩, h => by
    subst e
    obtain ⟨w, e1, e2⟩ := k.get (i := i) (x := x) (by simpa using h)
    exact ⟨w, by simpa using e1, e2⟩
theorem AllR.app {t : Ty} : ∀ {xs ys : List t.A} {vs us : List V} {F : Hp}, AllR t xs vs F → AllR t ys us F → AllR t (xs ++ ys) (vs ++ us) F
  | [], _, vs, _, _, h, k => by have h' : vs = [] := h; subst h'; exact k
  | _ :: _, _, _, _, _, ⟨v, r, e, q, z⟩, k => by subst e; exact ⟨v, _, rfl, q, z.app k⟩
theorem AllR.snoc {t : Ty} {xs : List t.A} {vs : List V} {F : Hp} {x : t.A} {v : V} (h : AllR t xs vs F) (r : t.rep x v F emp) : AllR t (xs ++ [x]) (vs ++ [v]) F := h.app ⟨v, [], rfl, r, rfl⟩
theorem AllR.drop {t : Ty} : ∀ {xs : List t.A} {vs : List V} {F : Hp} (n : Nat), AllR t xs vs F → AllR t (xs.drop n) (vs.drop n) F
  | _, _, _, 0, h => h
  | [], vs, _, n + 1, h => by have h' : vs = [] := h; subst h'; exact rfl
  | _ :: _, _, _, n + 1, ⟨v, r, e, q, k⟩ => by subst e; exact k.drop n
theorem AllR.take {t : Ty} : ∀ {xs : List t.A} {vs : List V} {F : Hp} (n : Nat), AllR t xs vs F → AllR t (xs.take n) (vs.take n) F
  | _, _, _, 0, h => rfl
  | [], vs, _, n + 1, h => by have h' : vs = [] := h; subst h'; exact rfl
  | _ :: _, _, _, n + 1, ⟨v, r, e, q, k⟩ => by subst e; exact ⟨v, _, rfl, q, k.take n⟩
theorem AllR.set {t : Ty} : ∀ {xs : List t.A} {vs : List V} {F : Hp} (n : Nat) {x : t.A} {v : V}, AllR t xs vs F → t.rep x v F emp → AllR t (xs.set n x) (vs.set n v) F
  | [], vs, _, n, _, _, h, _ => by have h' : vs = [] := h; subst h'; exact rfl
  | _ :: _, _, _, 0, x, v, ⟨w, r, e, q, k⟩, h => by subst e; exact ⟨v, _, rfl, h, k⟩
  | _ :: _, _, _, n + 1, x, v, ⟨w, r, e, q, k⟩, h => by subst e; exact ⟨w, _, rfl, q, k.set n h⟩
abbrev tLst (t : Ty) : Ty := imTy (List t.A) (fun xs v F => ∃ a vs, v = .ref a ∧ F a = some (.lst vs) ∧ AllR t xs vs F) fun ⟨a, vs, e, q, r⟩ s => ⟨a, vs, e, s _ _ q, r.mono s⟩
/-- a list that we own -/
abbrev tOwn (t : Ty) : Ty := ⟨List t.A, fun xs v F m => ∃ a vs, v = .ref a ∧ m = sing a (.lst vs) ∧ AllR t xs vs F, fun ⟨a, vs, e, q, r⟩ s => ⟨a, vs, e, q, r.mono s⟩⟩
abbrev tTup (ts : List Ty) : Ty := imTy (AT ts) (fun x v F => ∃ a vs, v = .ref a ∧ F a = some (.tup vs) ∧ ArgsOk ts x vs F) fun ⟨a, vs, e, q, r⟩ s => ⟨a, vs, e, s _ _ q, r.mono s⟩
theorem im_lst {t : Ty} : Imm (tLst t) := fun a => a.1
theorem im_tup {ts : List Ty} : Imm (tTup ts) := fun a => a.1

/-! ### freezing -/
def Frz (t u : Ty) (f : t.A → u.A) : Prop := ∀ {x v F m}, t.rep x v F m → (∀ p, m p = none ∨ F p = none) → u.rep (f x) v (uni m F) emp
theorem sub_uni {m F : Hp} (d : ∀ p, m p = none ∨ F p = none) : Sub F (uni m F) := fun a o h => by
  rcases d a with e | e
  · rw [uni_r e]; exact h
  · rw [h] at e; cases e
theorem frz_own {t : Ty} : Frz (tOwn t) (tLst t) id := fun {x v F m} ⟨a, vs, e, q, r⟩ d => by
  subst q
  exact ⟨rfl, a, vs, e, uni_l sing_same, r.mono (sub_uni d)⟩
section
variable {X : Cx} {N : List Str} {sc : Scope} {B : List Str} {k : Nat} {Γ : Ctx} {os : Os} {pos p p2 apos : Pos} {e a b : Expr} {es : List Expr} {t u : Ty}
theorem re_frz {f : t.A → u.A} {m : SM (OT os) t.A} (z : Frz t u f) (h : RE X Γ os e t m) : RE X Γ os e u (SM.map f m) := by
  intro σ F M R H o W Q tk c w g q
  refine h σ F M R H o W Q tk c w g (q.bind.imp (fun x o1 y v F' M1 mm M' H' s w' p' g' r' => ?_) fun _ _ z => z)
  obtain ⟨g2, s2, _⟩ := g'.freeze p'
  have d : ∀ q, mm q = none ∨ F' q = none := fun q => by
    rcases g'.dis q with z | z
    · exact .inr z
    · exact .inl (p'.none z).1
  exact (show NormE os u σ F R Q (f x) o1 from y) v (uni mm F') M1 emp M1 H' (s.trans s2) (w'.mono s2) (sep_emp_l M1) g2 (z r' d)
/-- a value that leans on no object -/
def Flat (t : Ty) : Prop := ∀ {x v F m}, t.rep x v F m → m = emp ∧ ∀ F', t.rep x v F' emp
theorem flat_im {A : Type} {g : A → V} : Flat (flat A g) := fun h => ⟨h.1, fun _ => ⟨rfl, h.2⟩⟩
/-- what is owned is read only -/
def SM.borrow {os : Os} {i : Nat} {t0 : Ty} {A B : Type} (h : OMem os i t0) (f : t0.A → A) (m : A → SM (OT []) B) : SM (OT os) B := fun o => match m (f (h.get o)) () with
  | some (.ok y, _) => some (.ok y, o)
  | _ => none
/-- what we own is read only, by an expression whose value leans on no object -/
theorem re_borrow {i : Nat} {t0 t1 : Ty} {f : t0.A → t1.A} {m : t1.A → SM (OT []) t.A} (h : OMem os i t0) (z : Frz t0 t1 f) (ft : Flat t) (he : ∀ x, RE X (Γ.set i (some ⟨t1, x⟩)) [] e t (m x)) :
    RE X Γ os e t (SM.borrow h f m) := by
  intro σ F M R H o W Q tk c w g q
  obtain ⟨v, m0, M', e0, r0, s0, _⟩ := h.at w
  have d : ∀ q, m0 q = none ∨ F q = none := fun q => by
    rcases g.dis q with z | z
    · exact .inr z
    · exact .inl (s0.none z).1
  obtain ⟨g2, s2, s3⟩ := g.freeze s0
  have c2 : CtxOk (Γ.set i (some ⟨t1, f (h.get o)⟩)) σ (uni m0 F) := by
    have c3 := (c.mono s2).set (i := i) (t := t1) (x := f (h.get o)) (v := v) (z r0 d)
    have e3 : σ.set i (some v) = σ := by
      apply List.ext_getElem?
      intro j
      by_cases hj : j = i
      · subst hj
        have hl : j < σ.length := (List.getElem?_eq_some_iff.mp e0).1
        rw [List.getElem?_set_self hl, e0]
      · rw [List.getElem?_set_ne (Ne.symm hj)]
    rw [e3] at c3
    exact c3
  have q' := q
  unfold SM.borrow at q'
  refine he _ σ (uni m0 F) M' M' H () W Q tk c2 rfl g2 ?_
  cases r : m (f (h.get o)) () with
  | none => rw [r] at q'; exact q'.elim
  | some y =>
    obtain ⟨y, o1⟩ := y
    rw [r] at q'
    cases y with
    | error x => exact q'.elim
    | ok y =>
      intro v2 F2 M1 mm M2 H2 s4 w4 p4 g4 r4
      have e4 : M1 = M' := w4
      subst e4
      obtain ⟨e5, r5⟩ := ft r4
      subst e5
      have e6 := p4.emp_l
      subst e6
      obtain ⟨s5, g5⟩ := g4.back s0 (s2.trans s4) (fun a u e => s4 _ _ (s3 a u e)) d (fun a u e => g.nt a u (s0.l a u e))
      exact (show NormE os t σ F R Q y o from q') v2 (mns F2 m0) M emp M H2 s5 (w.mono s5) (sep_emp_l M) g5 (r5 _)

/-! ### displays -/
def NormL (os : Os) (t : Ty) (n : Nat) (σ : L2.St) (F R : Hp) (Q : List V → Hp → Prop) (xs : List t.A) (o : OT os) : Prop :=
  ∀ vs F' M' H', Sub F F' → OwnOk os o σ F' M' R → Good F' M' H' → AllR t xs vs F' → vs.length = n → Q vs H'
def RAL (X : Cx) (Γ : Ctx) (os : Os) (es : List Expr) (t : Ty) (m : SM (OT os) (List t.A)) : Prop :=
  ∀ (σ : L2.St) (F M R H : Hp) (o : OT os) (W : WX) (Q : List V → Hp → Prop), Takes X W → CtxOk Γ σ F → OwnOk os o σ F M R → Good F M H →
    Want (m o) (NormL os t es.length σ F R Q) (ExcE X os σ F R W) → bestA X es σ H Q
theorem ral_nil : RAL X Γ os [] t (SM.ret []) := fun σ F M R H o W Q tk c w g q => ⟨_, pa_nil, q [] F M H (.refl F) w g rfl rfl⟩
theorem ral_cons {m : SM (OT os) t.A} {n : SM (OT os) (List t.A)} (it : Imm t) (h : RE X Γ os e t m) (hr : RAL X Γ os es t n)
    (he : starEach (e :: es) X.env = (false, eval e X.env) :: starEach es X.env := by rfl) : RAL X Γ os (e :: es) t (SM.bind m fun x => SM.bind n fun y => SM.ret (x :: y)) := by
  intro σ F M R H o W Q tk c w g q
  refine ⟨_, pa_cons (pe_best X e) (pa_best X es) he, h σ F M R H o W _ tk c w g (q.bind.imp (fun x o1 z => ?_) fun _ _ z => z)⟩
  intro v F' M1 mm M' H' s w' p' g' r
  have e := it r; subst e
  have e := p'.emp_l; subst e
  refine hr σ F' _ R H' o1 W _ tk (c.mono s) w' g' (z.bind.imp (fun y o2 z => ?_) fun _ _ z => z.mono s)
  intro us F2 M2 H2 s2 w2 g2 r2 l2
  exact z (v :: us) F2 M2 H2 (s.trans s2) w2 g2 ⟨v, us, rfl, t.mono r s2, r2⟩ (by rw [List.length_cons, List.length_cons, l2])
theorem re_list {m : SM (OT os) (List t.A)} (h : RAL X Γ os es t m) (hl : es.length ≤ 1000 := by exact by decide) : RE X Γ os (.List es pos) (tOwn t) m := by
  intro σ F M R H o W Q tk c w g q
  refine ⟨_, pe_lst (pa_best X es), h σ F M R H o W _ tk c w g (q.imp (fun xs o1 z => ?_) fun _ _ z => z)⟩
  intro vs F' M' H' s w' g' r l
  refine ⟨Nat.le_of_lt (small1000 (by omega)), fun p hp => ?_⟩
  obtain ⟨g2, s2⟩ := g'.newM (o := .lst vs) hp
  exact z (.ref p) F' M' _ _ _ s w' s2 g2 ⟨p, vs, rfl, rfl, r⟩
theorem re_tup {ts : List Ty} {x1 : Nat} {m : SM (OT os) (AT ts)} (h : RA X Γ os es ts m) (hl : ts.length ≤ 1000 := by exact by decide) : RE X Γ os (.Tuple es x1 pos) (tTup ts) m := by
  intro σ F M R H o W Q tk c w g q
  refine ⟨_, pe_tup (pa_best X es), h σ F M R H o W _ tk c w g (q.imp (fun xs o1 z => ?_) fun _ _ z => z)⟩
  intro vs F' M' H' s w' g' r
  refine ⟨Nat.le_of_lt (small1000 (by rw [r.length]; exact hl)), fun p hp => ?_⟩
  have hF : F' p = none := g'.fnone hp
  have s2 := sub_upd (o := .tup vs) hF
  exact z (.ref p) (upd F' p (.tup vs)) M' emp M' _ (s.trans s2) (w'.mono s2) (sep_emp_l M') (g'.newF hp) ⟨rfl, p, vs, rfl, upd_same, r.mono s2⟩

/-! ### items, slices, length -/
def cut {α : Type} (l : List α) (lo hi : Option Int) : List α := (l.drop (HT.sIx l.length 0 lo)).take (HT.sIx l.length l.length hi - HT.sIx l.length 0 lo)
theorem atI_map {t : Ty} {xs : List t.A} {vs : List V} {F : Hp} {i : Int} {x : t.A} (h : AllR t xs vs F) (e : atI xs i = some x) : ∃ v, atI vs i = some v ∧ t.rep x v F emp := by
  unfold atI at e ⊢
  rw [h.length]
  cases q : ixN xs.length i with
  | none => rw [q] at e; cases e
  | some j =>
    rw [q] at e
    exact h.get e
theorem re_ixL {m : SM (OT os) (List t.A)} {n : SM (OT os) Int} (it : Imm t) (ha : RE X Γ os a (tLst t) m) (hb : RE X Γ os b tInt n) (hs : PlainIx b := by exact fun _ _ => rfl) :
    RE X Γ os (.Subscript a b pos) t (SM.bind m fun x => SM.bind n fun y => SM.lift (atI x y)) := by
  refine re_ix (ta := tLst t) (tb := tInt) (tc := t) (f := atI) ix_list (fun {x y z v u F M H Q} e hx hy g q => ?_) im_lst imF ha hb hs
  obtain ⟨_, a, vs, ea, fa, r⟩ := hx
  obtain ⟨w, e1, e2⟩ := atI_map r e
  exact ⟨a, vs, y, w, ea, hy.2, .inl (.inl (g.f _ _ fa)), e1, q w F emp M H (.refl F) (sep_emp_l M) g (it e2 ▸ e2)⟩
theorem toL {l : List Nat} : (sOf l).cps.toList = l := rfl
theorem lenS {l : List Nat} : (sOf l).length = l.length := rfl
theorem re_ixS {m : SM (OT os) (List Nat)} {n : SM (OT os) Int} (ha : RE X Γ os a tStr m) (hb : RE X Γ os b tInt n) (hs : PlainIx b := by exact fun _ _ => rfl) :
    RE X Γ os (.Subscript a b pos) tChr (SM.bind m fun x => SM.bind n fun y => SM.lift (if x.length ≤ sizeLine then atI x y else none)) := by
  refine re_ix (ta := tStr) (tb := tInt) (tc := tChr) (f := fun x y => if x.length ≤ sizeLine then atI x y else none) ix_str (fun {x y z v u F M H Q} e hx hy g q => ?_) imF imF ha hb hs
  obtain ⟨_, ea⟩ := hx
  obtain ⟨_, ru⟩ := hy
  have e' : (if x.length ≤ sizeLine then atI x y else none) = some z := e
  by_cases h : x.length ≤ sizeLine
  · rw [if_pos h] at e'
    exact ⟨sOf x, y, z, ea, ru, h, e', fl (gA := fun c => V.str (sOf [c])) q g⟩
  · rw [if_neg h] at e'; cases e'
def NormO (os : Os) (σ : L2.St) (F R : Hp) (Q : Option Int → Hp → Prop) (x : Option Int) (o : OT os) : Prop :=
  ∀ F' M' H', Sub F F' → OwnOk os o σ F' M' R → Good F' M' H' → Q x H'
def bestO (X : Cx) (e : Option Expr) : TO := fun σ H Q => ∃ t, PO X e t ∧ t σ H Q
theorem po_best (X : Cx) (e : Option Expr) : PO X e (bestO X e) := ⟨fun pins s σ H Q I ⟨_, p, h⟩ => p.run pins s σ H Q I h⟩
def RO (X : Cx) (Γ : Ctx) (os : Os) (e : Option Expr) (m : SM (OT os) (Option Int)) : Prop :=
  ∀ (σ : L2.St) (F M R H : Hp) (o : OT os) (W : WX) (Q : Option Int → Hp → Prop), Takes X W → CtxOk Γ σ F → OwnOk os o σ F M R → Good F M H →
    Want (m o) (NormO os σ F R Q) (ExcE X os σ F R W) → bestO X e σ H Q
theorem ro_none : RO X Γ os none (SM.ret none) := fun σ F M R H o W Q tk c w g q => ⟨_, po_none, q F M H (.refl F) w g⟩
theorem ro_some {m : SM (OT os) Int} (h : RE X Γ os e tInt m) : RO X Γ os (some e) (SM.map some m) := fun σ F M R H o W Q tk c w g q =>
  ⟨_, po_some (pe_best X e), h σ F M R H o W _ tk c w g (q.bind.imp (fun x o1 z v F' M1 mm M' H' s w' p' g' r' => by
    obtain ⟨e1, e2⟩ := r'
    subst e1
    have e := p'.emp_l; subst e
    exact ⟨x, e2, z F' _ H' s w' g'⟩) fun _ _ z => z)⟩
theorem re_sl {ts : Ty} {tr : Ty} {r : V → Option Int → Option Int → Hp → VK → Prop} {f : ts.A → Option Int → Option Int → Option tr.A} {lo hi : Option Expr} {m : SM (OT os) ts.A} {ml mh : SM (OT os) (Option Int)} (hr : SlR X r) (is : Imm ts)
    (hv : ∀ {x l h z v F M H} {Q : VK}, f x l h = some z → ts.rep x v F emp → Good F M H → (∀ v' F' mm M' H', Sub F F' → Sep mm M M' → Good F' M' H' → tr.rep z v' F' mm → Q v' H') → r v l h H Q)
    (ha : RE X Γ os a ts m) (hl : RO X Γ os lo ml) (hh : RO X Γ os hi mh) : RE X Γ os (.Subscript a (.Slice lo hi none p2) pos) tr (SM.bind m fun x => SM.bind ml fun l => SM.bind mh fun h => SM.lift (f x l h)) := by
  intro σ F M R H o W Q tk c w g q
  refine ⟨_, pe_slice hr (pe_best X a) (po_best X lo) (po_best X hi), ?_⟩
  refine one_end is ha tk c w g q fun x o2 v F2 M2 H2 h2 s2 w2 g2 r2 => ?_
  refine hl σ F2 M2 R H2 o2 W _ tk (c.mono s2) w2 g2 (h2.bind.imp (fun l o3 h3 => ?_) fun _ _ z => z.mono s2)
  intro F3 M3 H3 s3 w3 g3
  refine hh σ F3 M3 R H3 o3 W _ tk ((c.mono s2).mono s3) w3 g3 (h3.bind.imp (fun h o4 h4 => ?_) fun _ _ z => z.mono (s2.trans s3))
  intro F4 M4 H4 s4 w4 g4
  exact lift_fin h4 ((s2.trans s3).trans s4) w4 fun z ez qq => hv ez (ts.mono r2 (s3.trans s4)) g4 qq
theorem cutS_of (l : List Nat) (lo hi : Option Int) : cutS (sOf l) lo hi = sOf (cut l lo hi) := rfl
theorem re_slS {lo hi : Option Expr} {m : SM (OT os) (List Nat)} {ml mh : SM (OT os) (Option Int)} (ha : RE X Γ os a tStr m) (hl : RO X Γ os lo ml) (hh : RO X Γ os hi mh) :
    RE X Γ os (.Subscript a (.Slice lo hi none p2) pos) tStr (SM.bind m fun x => SM.bind ml fun l => SM.bind mh fun h => SM.lift (if x.length ≤ sizeLine then some (cut x l h) else none)) := by
  refine re_sl (ts := tStr) (tr := tStr) (f := fun x l h => if x.length ≤ sizeLine then some (cut x l h) else none) sl_str imF (fun {x l h z v F M H Q} e hx g q => ?_) ha hl hh
  obtain ⟨_, rx⟩ := hx
  have e' : (if x.length ≤ sizeLine then some (cut x l h) else none) = some z := e
  by_cases hz : x.length ≤ sizeLine
  · rw [if_pos hz] at e'
    cases e'
    refine ⟨sOf x, rx, hz, ?_⟩
    rw [cutS_of]
    exact fl (gA := fun l => V.str (sOf l)) q g
  · rw [if_neg hz] at e'; cases e'
theorem re_slL {lo hi : Option Expr} {m : SM (OT os) (List t.A)} {ml mh : SM (OT os) (Option Int)} (ha : RE X Γ os a (tLst t) m) (hl : RO X Γ os lo ml) (hh : RO X Γ os hi mh) :
    RE X Γ os (.Subscript a (.Slice lo hi none p2) pos) (tOwn t) (SM.bind m fun x => SM.bind ml fun l => SM.bind mh fun h => SM.lift (some (cut x l h))) := by
  refine re_sl (ts := tLst t) (tr := tOwn t) (f := fun x l h => some (cut x l h)) sl_list im_lst (fun {x l h z v F M H Q} e hx g q => ?_) ha hl hh
  obtain ⟨_, a, vs, ea, fa, r⟩ := hx
  cases e
  refine ⟨a, vs, ea, .inl (.inl (g.f _ _ fa)), fun p hp => ?_⟩
  obtain ⟨g2, s2⟩ := g.newM (o := .lst (cutV vs l h)) hp
  refine q (.ref p) F _ _ _ (.refl F) s2 g2 ⟨p, _, rfl, rfl, ?_⟩
  unfold cutV cut
  rw [r.length]
  exact (r.drop _).take _
variable {ga ma : Nat}
theorem v_lenL : VCall (fun xs H Q => ∃ p ys, xs = [.ref p] ∧ (SqL X.K H p ys ∨ SqT X.K H p ys) ∧ Q (.int ys.length) H) [tLst t] tInt (fun x => some (x.1.length : Int)) := by
  intro x z vs F M H Q e ⟨v, us, e1, ⟨_, a, ys, ea, fa, r⟩, e2⟩ g q
  cases e
  have e2' : us = [] := e2
  subst e2' e1 ea
  refine ⟨a, ys, rfl, .inl (.inl (.inl (g.f _ _ fa))), ?_⟩
  rw [r.length]
  exact fl (gA := V.int) q g
theorem v_lenS : VCall (fun xs H Q => ∃ z, xs = [.str z] ∧ z.length ≤ sizeLine ∧ Q (.int z.length) H) [tStr] tInt (fun x => if x.1.length ≤ sizeLine then some (x.1.length : Int) else none) := by
  intro x z vs F M H Q e ⟨v, us, e1, ⟨_, ea⟩, e2⟩ g q
  have e2' : us = [] := e2
  have ea' : v = V.str (sOf x.1) := ea
  subst e2' e1 ea'
  have e' : (if x.1.length ≤ sizeLine then some (x.1.length : Int) else none) = some z := e
  by_cases h : x.1.length ≤ sizeLine
  · rw [if_pos h] at e'
    cases e'
    exact ⟨sOf x.1, rfl, h, fl (gA := V.int) q g⟩
  · rw [if_neg h] at e'; cases e'
theorem re_lenL (xo : XOk X N sc B k) {m : SM (OT os) (AT [tLst t])} (ga ma : Nat) (ha : RA X Γ os [e] [tLst t] m) (hg : sc.names[ga]? = some (gI "len") := by rfl) (hm : B[ma]? = some "len" := by rfl)
    (he : starEach [e] X.env = (false, eval e X.env) :: starEach [] X.env := by rfl) :
    RE X Γ os (.Call (.Name "len" p) [e] [] pos) tInt (SM.bind m fun x => SM.lift (some (x.1.length : Int))) := re_callB call_len_seq v_lenL (xo.gl ga _ hg) (xo.fr ma _ hm) boot_len ha (by decide) (by decide) he rfl
theorem re_lenS (xo : XOk X N sc B k) {m : SM (OT os) (AT [tStr])} (ga ma : Nat) (ha : RA X Γ os [e] [tStr] m) (hg : sc.names[ga]? = some (gI "len") := by rfl) (hm : B[ma]? = some "len" := by rfl)
    (he : starEach [e] X.env = (false, eval e X.env) :: starEach [] X.env := by rfl) :
    RE X Γ os (.Call (.Name "len" p) [e] [] pos) tInt (SM.bind m fun x => SM.lift (if x.1.length ≤ sizeLine then some (x.1.length : Int) else none)) := re_callB call_len_str v_lenS (xo.gl ga _ hg) (xo.fr ma _ hm) boot_len ha (by decide) (by decide) he rfl

/-! ### texts -/
theorem sOf_app (a b : List Nat) : sOf a ++ sOf b = sOf (a ++ b) := by
  show (⟨(sOf a).cps ++ (sOf b).cps⟩ : Str) = _
  unfold sOf
  simp
theorem re_addS {m n : SM (OT os) (List Nat)} (ha : RE X Γ os a tStr m) (hb : RE X Γ os b tStr n) :
    RE X Γ os (.BinOp a .Add b pos) tStr (SM.bind m fun x => SM.bind n fun y => SM.lift (if x.length + y.length ≤ sizeLine then some (x ++ y) else none)) := by
  refine re_op (ta := tStr) (tb := tStr) (tc := tStr) (f := fun x y => if x.length + y.length ≤ sizeLine then some (x ++ y) else none) op_add_str (fun {x y z v u F M H Q} e hx hy g q => ?_) imF imF ha hb
  obtain ⟨_, rx⟩ := hx
  obtain ⟨_, ry⟩ := hy
  have e' : (if x.length + y.length ≤ sizeLine then some (x ++ y) else none) = some z := e
  by_cases h : x.length + y.length ≤ sizeLine
  · rw [if_pos h] at e'
    cases e'
    refine ⟨sOf x, sOf y, rx, ry, h, ?_⟩
    rw [sOf_app]
    exact fl (gA := fun l => V.str (sOf l)) q g
  · rw [if_neg h] at e'; cases e'
theorem v_inC : VOp (fun x y H Q => ∃ (c : Nat) (z : Str), x = .str ⟨#[c]⟩ ∧ y = .str z ∧ Q (.bl (decide (c ∈ z.cps.toList))) H) tChr tStr tBool (fun c l => some (decide (c ∈ l))) := by
  intro x y z v u F M H Q e ⟨_, rx⟩ ⟨_, ry⟩ g q
  cases e
  exact ⟨x, sOf y, rx, ry, fl (gA := V.bl) q g⟩
theorem v_niC : VOp (fun x y H Q => ∃ (c : Nat) (z : Str), x = .str ⟨#[c]⟩ ∧ y = .str z ∧ Q (.bl (!decide (c ∈ z.cps.toList))) H) tChr tStr tBool (fun c l => some (!decide (c ∈ l))) := by
  intro x y z v u F M H Q e ⟨_, rx⟩ ⟨_, ry⟩ g q
  cases e
  exact ⟨x, sOf y, rx, ry, fl (gA := V.bl) q g⟩
theorem re_inC {m : SM (OT os) Nat} {n : SM (OT os) (List Nat)} (ha : RE X Γ os a tChr m) (hb : RE X Γ os b tStr n) (hm : behindInMarks .In b = false := by rfl) : RE X Γ os (.Compare a [.In] [b] pos) tBool (SM.bind m fun x => SM.bind n fun y => SM.lift (some (decide (x ∈ y)))) := re_cmp op_in_sign v_inC imF imF ha hb hm
theorem re_niC {m : SM (OT os) Nat} {n : SM (OT os) (List Nat)} (ha : RE X Γ os a tChr m) (hb : RE X Γ os b tStr n) (hm : behindInMarks .NotIn b = false := by rfl) : RE X Γ os (.Compare a [.NotIn] [b] pos) tBool (SM.bind m fun x => SM.bind n fun y => SM.lift (some (!decide (x ∈ y)))) := re_cmp op_notIn_sign v_niC imF imF ha hb hm

/-! ### what is walked -/
theorem ri_list {tg : Expr} {m : SM (OT os) (List t.A)} (h : RE X Γ os e (tLst t) m) : RI X Γ os tg e t m := by
  intro σ F M R H o W K tk c w g q
  refine ⟨_, pi_list (pe_best X e), h σ F M R H o W _ tk c w g (q.imp (fun xs o1 z => ?_) fun _ _ z => z)⟩
  intro v F' M1 mm M' H' s w' p' g' ⟨e1, a, vs, ea, fa, r⟩
  subst e1
  have e := p'.emp_l; subst e
  refine ⟨a, ea, ⟨vs, .inl (.inl (g'.f _ _ fa))⟩, z _ F' _ H' s w' g' fun F2 M2 H2 s2 g2 i => ?_⟩
  have ha : H2 a = some (.lst vs) := g2.f _ _ (s2 _ _ fa)
  refine ⟨fun hi => ⟨vs, .inl (.inl ha), by rw [r.length]; exact hi⟩, fun x hx => ?_⟩
  obtain ⟨w1, e1, e2⟩ := r.get hx
  exact ⟨⟨vs, w1, .inl (.inl ha), e1⟩, fun v' H3 ⟨h3, hv⟩ => by
    subst h3
    have q := hv vs (.inl (.inl ha))
    rw [e1] at q
    cases q
    exact ⟨F2, .refl F2, g2, t.mono e2 s2⟩⟩
theorem ri_str {tg : Expr} {m : SM (OT os) (List Nat)} (h : RE X Γ os e tStr m) : RI X Γ os tg e tChr m := by
  intro σ F M R H o W K tk c w g q
  refine ⟨_, pi_str (pe_best X e), h σ F M R H o W _ tk c w g (q.imp (fun xs o1 z => ?_) fun _ _ z => z)⟩
  intro v F' M1 mm M' H' s w' p' g' ⟨e1, ev⟩
  subst e1
  have e := p'.emp_l; subst e
  refine ⟨sOf xs, ev, z _ F' _ H' s w' g' fun F2 M2 H2 s2 g2 i => ?_⟩
  refine ⟨fun hi => show xs.toArray.size ≤ i by simpa using hi, fun x hx => ?_⟩
  have hlt : i < xs.length := (List.getElem?_eq_some_iff.mp hx).1
  refine ⟨show i < xs.toArray.size by simpa using hlt, fun v' H3 ⟨h3, c', hc, hv⟩ => ?_⟩
  subst h3 hv
  have hc' : xs[i]? = some c' := by
    have z : xs.toArray[i]? = some c' := hc
    simpa using z
  rw [hx] at hc'
  cases hc'
  exact ⟨F2, .refl F2, g2, rfl, rfl⟩
def small62 (i : Int) : Prop := -(2 ^ 62) ≤ i ∧ i < 2 ^ 62
instance {i : Int} : Decidable (small62 i) := by unfold small62; exact inferInstance
def rng (lo hi : Int) : List Int := (List.range (hi - lo).toNat).map fun (k : Nat) => lo + (k : Int)
theorem yld_rng {lo hi : Int} {F : Hp} : Yld (Itr lo (hi - lo).toNat) tInt (rng lo hi) F := by
  intro F2 M2 H2 s2 g2 i
  refine ⟨fun hi => show (_ : Nat) ≤ i by simpa [rng] using hi, fun x hx => ?_⟩
  have hlt : i < (hi - lo).toNat := by
    have z := (List.getElem?_eq_some_iff.mp hx).1
    simpa [rng] using z
  refine ⟨hlt, fun v' H3 ⟨h3, hv⟩ => ?_⟩
  subst h3 hv
  unfold rng at hx
  rw [List.getElem?_map, List.getElem?_range hlt] at hx
  cases hx
  exact ⟨F2, .refl F2, g2, rfl, rfl⟩
theorem ri_range1 (xo : XOk X N sc B k) {tg : Expr} (ga ma : Nat) {m : SM (OT os) (AT [tInt])} (h : RA X Γ os [e] [tInt] m) (hg : sc.names[ga]? = some (gI "range") := by rfl) (hm : B[ma]? = some "range" := by rfl)
    (hs : starEach [e] X.env = [(false, eval e X.env)] := by rfl) : RI X Γ os tg (.Call (.Name "range" p) [e] [] pos) tInt (SM.bind m fun x => SM.lift (if small62 x.1 then some (rng 0 x.1) else none)) := by
  intro σ F M R H o W K tk c w g q
  refine ⟨_, pi_range1 (xo.gl ga _ hg) (xo.fr ma _ hm) (pa_best X [e]) hs, ?_⟩
  refine args_end h tk c w g q fun x o2 vs F2 M2 H2 h2 s2 w2 g2 ⟨v, us, e1, ⟨_, e2⟩, e3⟩ => ?_
  have e3' : us = [] := e3
  have e2' : v = V.int x.1 := e2
  subst e3' e1 e2'
  unfold SM.lift at h2
  by_cases hz : small62 x.1
  · rw [if_pos hz] at h2
    refine ⟨x.1, rfl, hz.1, hz.2, (show NormI os tInt σ F R K (rng 0 x.1) o2 from h2) _ F2 M2 H2 s2 w2 g2 ?_⟩
    have y := yld_rng (lo := 0) (hi := x.1) (F := F2)
    rw [show (x.1 - 0).toNat = x.1.toNat by rw [Int.sub_zero]] at y
    exact y
  · rw [if_neg hz] at h2; exact h2.elim
theorem ri_range2 (xo : XOk X N sc B k) {tg e2 : Expr} (ga ma : Nat) {m : SM (OT os) (AT [tInt, tInt])} (h : RA X Γ os [e, e2] [tInt, tInt] m) (hg : sc.names[ga]? = some (gI "range") := by rfl) (hm : B[ma]? = some "range" := by rfl)
    (hs : starEach [e, e2] X.env = [(false, eval e X.env), (false, eval e2 X.env)] := by rfl) (hs2 : starEach [e2] X.env = [(false, eval e2 X.env)] := by rfl) :
    RI X Γ os tg (.Call (.Name "range" p) [e, e2] [] pos) tInt (SM.bind m fun x => SM.lift (if small62 x.1 ∧ small62 x.2.1 then some (rng x.1 x.2.1) else none)) := by
  intro σ F M R H o W K tk c w g q
  refine ⟨_, pi_range2 (xo.gl ga _ hg) (xo.fr ma _ hm) (pa_best X [e, e2]) hs hs2, ?_⟩
  refine args_end h tk c w g q fun x o2 vs F2 M2 H2 h2 s2 w2 g2 ⟨v, us, e1, ⟨_, ev⟩, v2, us2, e3, ⟨_, ev2⟩, e4⟩ => ?_
  have e4' : us2 = [] := e4
  have ev' : v = V.int x.1 := ev
  have ev2' : v2 = V.int x.2.1 := ev2
  subst e4' e3 e1 ev' ev2'
  unfold SM.lift at h2
  by_cases hz : small62 x.1 ∧ small62 x.2.1
  · rw [if_pos hz] at h2
    exact ⟨x.1, x.2.1, rfl, ⟨hz.1.1, hz.1.2, hz.2.1, hz.2.2⟩, (show NormI os tInt σ F R K (rng x.1 x.2.1) o2 from h2) _ F2 M2 H2 s2 w2 g2 yld_rng⟩
  · rw [if_neg hz] at h2; exact h2.elim
end
end Mi

namespace Mi
open PySem PySem.Spec PyProof.Rows L2
section
variable {X : Cx} {N : List Str} {sc : Scope} {B : List Str} {k : Nat} {Γ : Ctx} {os : Os} {pos p p2 apos : Pos} {e a b : Expr} {es : List Expr} {t u : Ty}

/-! ### more of ints -/
instance {i j : Int} : Decidable (CDivW i j) := by unfold CDivW; exact inferInstance
theorem re_fdiv {ma mb : SM (OT os) Int} (ha : RE X Γ os a tInt ma) (hb : RE X Γ os b tInt mb) : RE X Γ os (.BinOp a .FloorDiv b pos) tInt (SM.bind ma fun x => SM.bind mb fun y => SM.lift (if CDivW x y then some (x / y) else none)) := re_op op_fdivW v_I imF imF ha hb
theorem v_II2 {gg : Int → Int → Int} : VCall (fun xs H Q => ∃ i j, xs = [.int i, .int j] ∧ Q (.int (gg i j)) H) [tInt, tInt] tInt (fun x => some (gg x.1 x.2.1)) := by
  intro x z vs F M H Q e h g q
  obtain ⟨v, us, e1, ⟨_, ev⟩, v2, us2, e3, ⟨_, ev2⟩, e4⟩ := h
  cases e
  have e4' : us2 = [] := e4
  have ev' : v = V.int x.1 := ev
  have ev2' : v2 = V.int x.2.1 := ev2
  subst e4' e3 e1 ev' ev2'
  exact ⟨x.1, x.2.1, rfl, fl (gA := V.int) q g⟩
theorem re_max2 (xo : XOk X N sc B k) {m : SM (OT os) (AT [tInt, tInt])} (ga ma : Nat) (ha : RA X Γ os [a, b] [tInt, tInt] m) (hg : sc.names[ga]? = some (gI "max") := by rfl) (hm : B[ma]? = some "max" := by rfl)
    (he : starEach [a, b] X.env = (false, eval a X.env) :: starEach [b] X.env := by rfl) (hpl : (backTo pos (starEach [b] X.env)).any (·.1) = false := by rfl) :
    RE X Γ os (.Call (.Name "max" p) [a, b] [] pos) tInt (SM.bind m fun x => SM.lift (some (if x.2.1 > x.1 then x.2.1 else x.1))) := re_callB (call_max2 xo.calm) (v_II2 (gg := fun i j => if j > i then j else i)) (xo.gl ga _ hg) (xo.fr ma _ hm) boot_max ha (by decide) (by decide) he hpl
theorem re_min2 (xo : XOk X N sc B k) {m : SM (OT os) (AT [tInt, tInt])} (ga ma : Nat) (ha : RA X Γ os [a, b] [tInt, tInt] m) (hg : sc.names[ga]? = some (gI "min") := by rfl) (hm : B[ma]? = some "min" := by rfl)
    (he : starEach [a, b] X.env = (false, eval a X.env) :: starEach [b] X.env := by rfl) (hpl : (backTo pos (starEach [b] X.env)).any (·.1) = false := by rfl) :
    RE X Γ os (.Call (.Name "min" p) [a, b] [] pos) tInt (SM.bind m fun x => SM.lift (some (if x.2.1 < x.1 then x.2.1 else x.1))) := re_callB (call_min2 xo.calm) (v_II2 (gg := fun i j => if j < i then j else i)) (xo.gl ga _ hg) (xo.fr ma _ hm) boot_min ha (by decide) (by decide) he hpl

/-! ### a list that we own is changed -/
variable {G : FX} {L : LC} {β : Type} {Γn : β → Ctx} {osn : Os} {rest : List Stmt}
/-- xs[i] = e -/
theorem rb_setL (xo : XOk X N sc B k) (hS : OSub os G.ps) {i : Nat} (h : OMem os i (tOwn t)) (jn : Nat) {nm : Str} {kd : NameKind} {me : SM (OT os) t.A} {mi : SM (OT os) Int} {kk : OT os → OutT G L β osn} (it : Imm t) (he : RE X Γ os e t me) (hi : RE X Γ os a tInt mi) (hk : RB X G L Γ os rest Γn osn kk)
    (hjb : sc.names[jn]? = some (nm, kd) := by rfl) (hkb : visK kd = true := by rfl) (hN : N[i]? = some nm := by rfl)
    (hs : swapsWithSole [.Subscript (.Name nm p) a p2] e pos.line X.env = pure false := by rfl) (hw : swappedStores [.Subscript (.Name nm p) a p2] e X.env = pure none := by rfl)
    (h1 : (assignEach [.Subscript (.Name nm p) a p2] X.env).map (·.2) = [assign (.Subscript (.Name nm p) a p2) X.env] := by rfl)
    (ha : ∀ v, assign (.Subscript (.Name nm p) a p2) X.env v = (do
      let ov ← holding [v] (eval (.Name nm p) X.env)
      let iv ← holding [v, ov] (eval a X.env)
      standAt p2
      holding [v, ov, iv] (setItem ov iv v)
      release [v, ov, iv] []) := by intro _; rfl) :
    RB X G L Γ os (.Assign [.Subscript (.Name nm p) a p2] e pos :: rest) Γn osn (fun o => bindX hS (me o) fun x o => bindX hS (mi o) fun y o => match ixN (h.get o).length y with
      | some n => kk (h.set ((h.get o).set n x) o)
      | none => none) := by
  intro σ F M R H o W D tk c w g q
  refine ⟨_, pss_cons (ps_asg (pe_best X e) (pg_sub (pe_var (by rw [xo.nN]; exact hN) (xo.vs jn nm kd hjb hkb) (xo.db jn nm kd hjb).1 (xo.db jn nm kd hjb).2.1) (pe_best X a) set_list ha) hs hw h1) (pss_best X rest), ?_⟩
  refine he σ F M R H o W _ tk c w g (q.bindX.imp (fun x o1 z => ?_) fun _ _ z => z)
  intro v F1 M1 mm M1' H1 s1 w1 p1 g1 r1
  have e := it r1; subst e
  have e := p1.emp_l; subst e
  obtain ⟨v0, m0, M0, e0, r0, s0, _⟩ := h.at w1
  refine ⟨v0, e0, ?_⟩
  refine hi σ F1 _ R H1 o1 W _ tk (c.mono s1) w1 g1 ((WantS.bindX z).imp (fun y o2 z2 => ?_) fun _ _ z => z.mono s1)
  intro v' F2 M2 mm2 M2' H2 s2 w2 p2 g2 r2
  obtain ⟨e, ey⟩ := r2
  subst e
  have e := p2.emp_l; subst e
  obtain ⟨v1, m1, M3, e1, ⟨a, vs, ea, em, ra⟩, s3, up⟩ := h.at w2
  rw [e0] at e1
  cases e1
  have z2' : WantS X G L Γn osn σ F R W D (match ixN (h.get o2).length y with
      | some n => kk (h.set ((h.get o2).set n x) o2)
      | none => none) := z2
  cases hix : ixN (h.get o2).length y with
  | none => rw [hix] at z2'; exact z2'.elim
  | some n =>
    rw [hix] at z2'
    subst em ea
    have hH : H2 a = some (.lst vs) := g2.m _ _ (s3.l _ _ sing_same)
    refine ⟨a, vs, y, n, rfl, ey, hH, by rw [ra.length]; exact hix, ?_⟩
    obtain ⟨M4, s4, g4⟩ := g2.set (o' := .lst (vs.set n v)) s3
    exact hk σ F2 M4 R _ _ W D tk (c.mono (s1.trans s2)) (up _ _ M4 F2 (.refl F2) ⟨a, _, rfl, rfl, ra.set n (t.mono r1 s2)⟩ s4) g4 (z2'.mono (s1.trans s2) .refl)
end
end Mi
namespace Mi
open PySem PySem.Spec PyProof.Rows L2
section
variable {X : Cx} {N : List Str} {sc : Scope} {B : List Str} {k : Nat} {Γ : Ctx} {os : Os} {pos p p2 apos : Pos} {e a b : Expr}
/-- the script -/
abbrev tScr (K : PySem.W.Frag) : Ty := imTy (List Int) (fun xs v F => ∃ a, v = .ref a ∧ SqL K F a (xs.map V.int)) fun ⟨a, e, r⟩ s => ⟨a, e, r.imp (fun r => r.imp (s _ _) fun ⟨o, h⟩ => ⟨o, s _ _ h⟩) id⟩
theorem im_scr {K : PySem.W.Frag} : Imm (tScr K) := fun a => a.1
theorem sql_good {K : PySem.W.Frag} {F M H : Hp} {a : Addr} {xs : List V} (g : Good F M H) (h : SqL K F a xs) : SqL K H a xs := h.imp (fun r => r.imp (fun e => (g.f _ _ e).at fun _ e => nomatch e) fun ⟨o, h⟩ => ⟨o, g.f _ _ h⟩) id
theorem rd_good {F M H : Hp} {a : Addr} {u : HO} (g : Good F M H) (h : Rd F a u) (n : noTbl u := by exact fun _ e => nomatch e) : Rd H a u := h.imp (fun e => (g.f _ _ e).at n) fun ⟨o, h⟩ => ⟨o, g.f _ _ h⟩
variable {K : PySem.W.Frag}
theorem v_lenX : VCall (fun xs H Q => ∃ p ys, xs = [.ref p] ∧ (SqL K H p ys ∨ SqT K H p ys) ∧ Q (.int ys.length) H) [tScr K] tInt (fun x => some (x.1.length : Int)) := by
  intro x z vs F M H Q e ⟨v, us, e1, ⟨_, a, ea, fa⟩, e2⟩ g q
  cases e
  have e2' : us = [] := e2
  subst e2' e1 ea
  refine ⟨a, x.1.map V.int, rfl, .inl (sql_good g fa), ?_⟩
  rw [List.length_map]
  exact fl (gA := V.int) q g
theorem re_lenX (xo : XOk X N sc B k) (xk : X.K = K) {m : SM (OT os) (AT [tScr K])} (ga ma : Nat) (ha : RA X Γ os [e] [tScr K] m) (hg : sc.names[ga]? = some (gI "len") := by rfl) (hm : B[ma]? = some "len" := by rfl)
    (he : starEach [e] X.env = (false, eval e X.env) :: starEach [] X.env := by rfl) :
    RE X Γ os (.Call (.Name "len" p) [e] [] pos) tInt (SM.bind m fun x => SM.lift (some (x.1.length : Int))) := by
  subst xk
  exact re_callB call_len_seq v_lenX (xo.gl ga _ hg) (xo.fr ma _ hm) boot_len ha (by decide) (by decide) he rfl
theorem re_ixX (xk : X.K = K) {m : SM (OT os) (List Int)} {n : SM (OT os) Int} (ha : RE X Γ os a (tScr K) m) (hb : RE X Γ os b tInt n) (hs : PlainIx b := by exact fun _ _ => rfl) :
    RE X Γ os (.Subscript a b pos) tInt (SM.bind m fun x => SM.bind n fun y => SM.lift (atI x y)) := by
  subst xk
  refine re_ix (ta := tScr X.K) (tb := tInt) (tc := tInt) (f := atI) ix_list (fun {x y z v u F M H Q} e hx hy g q => ?_) im_scr imF ha hb hs
  obtain ⟨_, a, ea, fa⟩ := hx
  refine ⟨a, _, y, .int z, ea, hy.2, sql_good g fa, ?_, fl (gA := V.int) q g⟩
  unfold atI at e ⊢
  rw [List.length_map]
  cases q : ixN x.length y with
  | none => rw [q] at e; cases e
  | some j =>
    rw [q] at e
    have e' : x[j]? = some z := e
    show (x.map V.int)[j]? = _
    rw [List.getElem?_map, e'] <;> rfl
end
end Mi

namespace Mi
open PySem PySem.Spec PyProof.Rows L2

/-! ### a comprehension's block -/
def blkB (N : List Str) (sc scope : Scope) (own : List (Str × Nat)) : Bool :=
  decide (scope.kind = .function) && (scope.names.all (fun y => decide (scope.names.lookup y.1 = some y.2)) && (own.all (fun p => decide (N[p.2]? = some p.1)) &&
  (scope.names.all (fun y => !decide (y.2 = .free) || (sc.names.any fun z => decide (z.1 = y.1) && (decide (z.2 = .cell) || decide (z.2 = .free)))) &&
  (scope.names.all (fun y => !(decide (y.2 = .local) || decide (y.2 = .cell)) || (decide (y.1 ∈ own.map (·.1)) || decide (y.1 ∉ N))) &&
  (scope.names.all fun y => (!(y.1 == ("__debug__" : Str)) && (!(y.1 == ("__classdict__" : Str)) && decide (y.1 ≠ "__name__"))))))))
section
variable {X : Cx} {N : List Str} {sc scope : Scope} {B : List Str} {k : Nat} {own : List (Str × Nat)}
theorem blkB_ok (xo : XOk X N sc B k) (h : blkB N sc scope own = true) : BlkOk X.N X.env.scope scope own ∧ ∀ y ∈ scope.names, (y.1 == ("__debug__" : Str)) = false ∧ (y.1 == ("__classdict__" : Str)) = false ∧ y.1 ≠ "__name__" := by
  unfold blkB at h
  simp only [Bool.and_eq_true, decide_eq_true_eq, Bool.not_eq_true', List.all_eq_true, Bool.or_eq_true, decide_eq_false_iff_not, List.any_eq_true] at h
  obtain ⟨h1, h2, h3, h4, h5, h6⟩ := h
  rw [xo.nN]
  refine ⟨⟨h1, h2, h3, fun y hy e => ?_, fun y hy e => ?_⟩, h6⟩
  · rcases h4 y hy with z | ⟨z, hz, e1, e2⟩
    · exact absurd e z
    · obtain ⟨j, hj⟩ := List.getElem?_of_mem hz
      have q := xo.ce j z.1 z.2 hj e2
      rw [e1] at q
      exact q
  · rcases h5 y hy with z | z
    · exact absurd e (by
        have z' := z
        simp only [Bool.or_eq_false_iff, decide_eq_false_iff_not] at z'
        rintro (q | q)
        · exact z'.1 q
        · exact z'.2 q)
    · exact z
theorem lookup_relS_free {sc : Scope} : ∀ {names : List (Str × NameKind)} {x : Str}, names.lookup x = some .free →
    (names.map fun (n, k) => if (k == NameKind.free && sc.kind == .function && sc.names.lookup n == some .cell) then (n, NameKind.cell) else (n, k)).lookup x = some .free ∨
    (names.map fun (n, k) => if (k == NameKind.free && sc.kind == .function && sc.names.lookup n == some .cell) then (n, NameKind.cell) else (n, k)).lookup x = some .cell
  | [], x, h => by simp at h
  | (n, k₀) :: r, x, h => by
    have ih := @lookup_relS_free sc r x
    show List.lookup x ((if (k₀ == NameKind.free && sc.kind == .function && sc.names.lookup n == some .cell) = true then (n, NameKind.cell) else (n, k₀)) :: (r.map _)) = some .free ∨ List.lookup x ((if (k₀ == NameKind.free && sc.kind == .function && sc.names.lookup n == some .cell) = true then (n, NameKind.cell) else (n, k₀)) :: (r.map _)) = some .cell
    cases hx : x == n with
    | true =>
      simp only [List.lookup_cons, hx] at h
      cases h
      by_cases hc : (NameKind.free == NameKind.free && sc.kind == .function && sc.names.lookup n == some .cell) = true
      · rw [if_pos hc]; simp only [List.lookup_cons, hx]; simp
      · rw [if_neg hc]; simp only [List.lookup_cons, hx]; simp
    | false =>
      simp only [List.lookup_cons, hx] at h
      by_cases hc : (k₀ == NameKind.free && sc.kind == .function && sc.names.lookup n == some .cell) = true
      · rw [if_pos hc]; simp only [List.lookup_cons, hx]; exact ih h
      · rw [if_neg hc]; simp only [List.lookup_cons, hx]; exact ih h
theorem xo_blk (xo : XOk X N sc B k) (h : blkB N sc scope own = true) (s : Shared) (H : Hp) (C : Addr) (cl : List (Str × Addr)) (fp : List Addr) : XOk (X.blk s H scope (compEnvC scope cl C X.env) fp) N scope B k := by
  obtain ⟨ok, hd⟩ := blkB_ok xo h
  have rl : (compEnvC scope cl C X.env).scope = relS scope X.env.scope := rfl
  have keep : ∀ (x : Str) (kd : NameKind), kd ≠ .free → scope.names.lookup x = some kd → (compEnvC scope cl C X.env).scope.names.lookup x = some kd := fun x kd hk e => by
    rw [rl]
    exact lookup_relS_keep hk e
  have free : ∀ (x : Str), scope.names.lookup x = some .free → (compEnvC scope cl C X.env).scope.names.lookup x = some .free ∨ (compEnvC scope cl C X.env).scope.names.lookup x = some .cell := fun x e => by
    rw [rl]
    exact lookup_relS_free e
  refine ⟨xo.nN, fun j x kd e => hd _ (List.mem_of_getElem? e), fun j x kd e hk => ?_, fun j x e => ?_, fun j x kd e hk => ?_, fun j x kd e hk => ?_, fun j x kd e hk => keep x kd hk (ok.uniq _ (List.mem_of_getElem? e)), ok.kind, xo.nd, xo.fr, xo.room, xo.calm⟩
  · have q := ok.uniq _ (List.mem_of_getElem? e)
    cases kd with
    | «local» => exact .inl (keep x _ (by decide) q)
    | cell => exact .inr (.inl (keep x _ (by decide) q))
    | free => exact (free x q).elim (fun z => .inr (.inr z)) fun z => .inr (.inl z)
    | _ => cases hk
  · exact keep x _ (by decide) (ok.uniq _ (List.mem_of_getElem? e))
  · have q := ok.uniq _ (List.mem_of_getElem? e)
    cases kd with
    | «local» => exact ⟨.inl (keep x _ (by decide) q), .inr (keep x _ (by decide) q)⟩
    | cell =>
      refine ⟨.inr (keep x _ (by decide) q), .inl ?_⟩
      show (scope.names.lookup x == some .cell) = true
      rw [show scope.names.lookup x = some .cell from q] <;> rfl
    | _ => cases hk
  · have q := ok.uniq _ (List.mem_of_getElem? e)
    rcases hk with rfl | rfl
    · exact .inl (keep x _ (by decide) q)
    · exact (free x q).elim .inr .inl
end
section
variable {X : Cx} {Γ : Ctx} {os : Os}
def bestTs (X : Cx) (ifs : List Expr) : TT := fun σ H Q => ∃ t, PTs X ifs t ∧ t σ H Q
def RTs (X : Cx) (Γ : Ctx) (os : Os) (ifs : List Expr) (m : SM (OT os) Bool) : Prop :=
  ∀ (σ : L2.St) (F M R H : Hp) (o : OT os) (W : WX) (Q : Bool → Hp → Prop), Takes X W → CtxOk Γ σ F → OwnOk os o σ F M R → Good F M H →
    Want (m o) (NormT os σ F R Q) (ExcE X os σ F R W) → bestTs X ifs σ H Q
theorem rts_nil : RTs X Γ os [] (SM.ret true) := fun σ F M R H o W Q tk c w g q => ⟨_, pts_nil, q F M H (.refl F) w g⟩
theorem rts_one {e : Expr} {m : SM (OT os) Bool} (h : RT X Γ os e m) : RTs X Γ os [e] m := fun σ F M R H o W Q tk c w g q => ⟨_, pts_one (pt_best X e), h σ F M R H o W Q tk c w g q⟩
/-- one turn after another; what raises is left out -/
def noX {O A : Type} (m : SM O A) : SM O A := fun o => match m o with
  | some (.ok x, o) => some (.ok x, o)
  | _ => none
def mapS {O A C : Type} (mt : A → SM O Bool) (me : A → SM O C) : List A → SM O (List C)
  | [] => SM.ret []
  | x :: xs => SM.bind (noX (mt x)) fun b => if b = true then SM.bind (noX (me x)) fun y => SM.bind (mapS mt me xs) fun ys => SM.ret (y :: ys) else mapS mt me xs
def wipeC (Γ : Ctx) : List Nat → Ctx
  | [] => Γ
  | i :: r => (wipeC Γ r).set i none
theorem CtxOk.wipe {σ : L2.St} {F : Hp} (h : CtxOk Γ σ F) : ∀ vs : List Nat, CtxOk (wipeC Γ vs) (wipe σ vs) F
  | [] => h
  | i :: r => (CtxOk.wipe h r).out
theorem wipe_ne {σ : L2.St} {i : Nat} : ∀ {vs : List Nat}, i ∉ vs → (wipe σ vs)[i]? = σ[i]?
  | [], _ => rfl
  | v :: vs, h => by
    unfold wipe
    rw [List.getElem?_set_ne fun e => h (by rw [e]; exact List.mem_cons_self)]
    exact wipe_ne fun e => h (List.mem_cons_of_mem _ e)
theorem wipe_in {σ : L2.St} {i : Nat} : ∀ {vs : List Nat}, i ∈ vs → i < σ.length → (wipe σ vs)[i]? = some none
  | [], h, _ => by cases h
  | v :: vs, h, l => by
    unfold wipe
    by_cases e : v = i
    · subst e
      exact List.getElem?_set_self (by rw [wipe_length]; exact l)
    · rw [List.getElem?_set_ne e]
      refine wipe_in ?_ l
      rcases List.mem_cons.mp h with z | z
      · exact absurd z.symm e
      · exact z
theorem wipe_same {σ σ2 : L2.St} {vs kp : List Nat} {n : Nat} (hl : σ.length = n) (h : (List.range n).all (fun i => vs.contains i || kp.contains i) = true) (k : Keep kp (wipe σ vs) σ2) : wipe σ2 vs = wipe σ vs := by
  have l2 : σ2.length = σ.length := k.1.trans (wipe_length _ _)
  apply List.ext_getElem?
  intro i
  by_cases hi : i < n
  · by_cases hv : i ∈ vs
    · rw [wipe_in hv (by rw [l2, hl]; exact hi), wipe_in hv (by rw [hl]; exact hi)]
    · have z := List.all_eq_true.mp h i (List.mem_range.mpr hi)
      simp only [Bool.or_eq_true, List.contains_iff_mem] at z
      rw [wipe_ne hv]
      exact k.2 i (z.resolve_left hv)
  · rw [List.getElem?_eq_none (by rw [wipe_length, l2, hl]; omega), List.getElem?_eq_none (by rw [wipe_length, hl]; omega)]
/-- ours besides -/
theorem Sep.swap {A B C D E : Hp} (s : Sep A B C) (t : Sep D C E) : ∃ G, Sep D B G ∧ Sep A G E := s.assoc t

variable {N : List Str} {sc scope : Scope} {B : List Str} {k : Nat} {pos : Pos} {t u : Ty} {elt tg iter : Expr} {ifs : List Expr}
/-- [elt for tg in iter if ..] -/
theorem lc_read {Lks : Md → Prop} (lks : Lks X.md) (xo : XOk X N sc B k) (own : List (Str × Nat)) (kp : List Nat) {mi : SM (OT os) (List t.A)} {Γx : t.A → Ctx} {mt : t.A → SM (OT os) Bool} {me : t.A → SM (OT os) u.A} (iu : Imm u)
    (hi : RI X Γ os tg iter t mi)
    (hg : ∀ X', XOk X' N scope B k → RG X' kp (wipeC Γ (own.map (·.2))) os tg t Γx)
    (ht : ∀ X', Lks X'.md → XOk X' N scope B k → ∀ x, RTs X' (Γx x) os ifs (mt x))
    (he : ∀ X', Lks X'.md → XOk X' N scope B k → ∀ x, RE X' (Γx x) os elt u (me x))
    (hb : blkB N sc scope own = true := by decide +kernel) (hkp : (List.range Γ.length).all (fun i => (own.map (·.2)).contains i || kp.contains i) = true := by rfl)
    (ho : (own.all fun p => noSlot p.2 os) = true := by rfl)
    (hs : ∀ x, foldedSetIterable iter X.env x = pure x := by intro _; rfl) :
    ∃ wi g tt te, PI X tg iter wi ∧ BlkOk X.N X.env.scope scope own ∧ (∀ (s : Shared) (H : Hp) (C : Addr) (cl : List (Str × Addr)) (fp : List Addr), PG (X.blk s H scope (compEnvC scope cl C X.env) fp) tg g) ∧
      (∀ (s : Shared) (H : Hp) (C : Addr) (cl : List (Str × Addr)) (fp : List Addr), PTs (X.blk s H scope (compEnvC scope cl C X.env) fp) ifs tt) ∧ (∀ (s : Shared) (H : Hp) (C : Addr) (cl : List (Str × Addr)) (fp : List Addr), PE (X.blk s H scope (compEnvC scope cl C X.env) fp) elt te) ∧
      ∀ (σ : L2.St) (F M R H : Hp) (o : OT os) (W : WX) (Q : VK), Takes X W → CtxOk Γ σ F → OwnOk os o σ F M R → Good F M H →
        Want ((SM.bind mi fun xs => if xs.length ≤ sizeLine then mapS mt me xs else SM.fail) o) (NormE os (tOwn u) σ F R Q) (ExcE X os σ F R W) → tLc wi g tt te (own.map (·.2)) σ H Q := by
  obtain ⟨ok, _⟩ := blkB_ok xo hb
  -- the family of the blocks' contexts
  let Fam : Cx → Prop := fun X' => ∃ s H C cl fp, X' = X.blk s H scope (compEnvC scope cl C X.env) fp
  have fo : ∀ X', Fam X' → XOk X' N scope B k := by rintro _ ⟨s, H, C, cl, fp, rfl⟩; exact xo_blk xo hb s H C cl fp
  have fl : ∀ X', Fam X' → Lks X'.md := by rintro _ ⟨s, H, C, cl, fp, rfl⟩; exact lks
  have ft : ∀ X', Fam X' → Takes X' (fun _ _ _ _ => False) := by
    rintro _ ⟨s, H, C, cl, fp, rfl⟩ u s' ⟨a, B, sI, pins, σ, H, cls, d, e, I, nb, up, sky, na, os, ag, w⟩
    exact w.elim
  let gg : TG := fun v σ H K => ∀ X', Fam X' → ∃ g', PG X' tg g' ∧ g' v σ H K
  let tt : TT := fun σ H Q => ∀ X', Fam X' → bestTs X' ifs σ H Q
  let te : TE := fun σ H Q => ∀ X', Fam X' → best X' elt σ H Q
  have pg : ∀ (s : Shared) (H : Hp) (C : Addr) (cl : List (Str × Addr)) (fp : List Addr), PG (X.blk s H scope (compEnvC scope cl C X.env) fp) tg gg := fun s H C cl fp =>
    ⟨fun pins s1 σ H1 v u Q I r h => by obtain ⟨g', p, z⟩ := h _ ⟨s, H, C, cl, fp, rfl⟩; exact p.run pins s1 σ H1 v u Q I r z⟩
  have pt : ∀ (s : Shared) (H : Hp) (C : Addr) (cl : List (Str × Addr)) (fp : List Addr), PTs (X.blk s H scope (compEnvC scope cl C X.env) fp) ifs tt := fun s H C cl fp =>
    ⟨fun pins s1 σ H1 Q I h => by obtain ⟨g', p, z⟩ := h _ ⟨s, H, C, cl, fp, rfl⟩; exact p.run pins s1 σ H1 Q I z⟩
  have pe : ∀ (s : Shared) (H : Hp) (C : Addr) (cl : List (Str × Addr)) (fp : List Addr), PE (X.blk s H scope (compEnvC scope cl C X.env) fp) elt te := fun s H C cl fp =>
    ⟨fun pins s1 σ H1 Q I h => by obtain ⟨g', p, z⟩ := h _ ⟨s, H, C, cl, fp, rfl⟩; exact p.run pins s1 σ H1 Q I z⟩
  refine ⟨bestI X tg iter, gg, tt, te, pi_best X tg iter, ok, pg, pt, pe, fun σ F M R H o W Q tk c w g q => ?_⟩
  refine hi σ F M R H o W _ tk c w g (q.bind.imp (fun xs o1 z => ?_) fun _ _ z => z)
  intro J F1 M1 H1 s1 w1 g1 y1 D hD
  by_cases hlen : xs.length ≤ sizeLine
  · rw [if_pos hlen] at z
    have hsl : ∀ (σ2 : L2.St), (∀ i, i ∉ own.map (·.2) → σ2[i]? = σ[i]?) → ∀ p ∈ os, σ2[p.1]? = σ[p.1]? := fun σ2 h p hp => h p.1 fun hm => by
      obtain ⟨y, hy, e⟩ := List.mem_map.mp hm
      exact noSlot_ne (List.all_eq_true.mp ho y hy) p hp e.symm
    refine ⟨fun i m H2 => m = xs.length - i ∧ i ≤ xs.length ∧ ∃ accx acc o2 F2 M0 M2, Sub F1 F2 ∧ OwnOk os o2 σ F2 M0 R ∧ Sep (sing D (.lst acc)) M0 M2 ∧ Good F2 M2 H2 ∧ AllR u accx acc F2 ∧ acc.length ≤ i ∧
      Want (mapS mt me (xs.drop i) o2) (fun ys o => NormE os (tOwn u) σ F2 R Q (accx ++ ys) o) (ExcE X os σ F2 R W), ?_, ?_⟩
    · obtain ⟨g2, s2⟩ := g1.newM (o := .lst []) hD
      exact ⟨_, rfl, Nat.zero_le _, [], [], o1, F1, M1, _, .refl _, w1, s2, g2, rfl, Nat.le_refl _, z.imp (fun ys o2 y => y.mono s1) fun _ _ y => y.mono s1⟩
    · rintro i m H2 ⟨rfl, hi2, accx, acc, o2, F2, M0, M2, s2, w2, p2, g2, r2, l2, q2⟩
      obtain ⟨st, go⟩ := y1 F2 M2 H2 s2 g2 i
      by_cases hlt : i < xs.length
      · have hx : xs[i]? = some xs[i] := List.getElem?_eq_getElem hlt
        obtain ⟨go1, go2⟩ := go xs[i] hx
        refine .inr ⟨go1, fun H3 => i + 1 ≤ xs.length ∧ ∃ accx acc o2 F2 M0 M2, Sub F1 F2 ∧ OwnOk os o2 σ F2 M0 R ∧ Sep (sing D (.lst acc)) M0 M2 ∧ Good F2 M2 H3 ∧ AllR u accx acc F2 ∧ acc.length ≤ i + 1 ∧
          Want (mapS mt me (xs.drop (i + 1)) o2) (fun ys o => NormE os (tOwn u) σ F2 R Q (accx ++ ys) o) (ExcE X os σ F2 R W), fun H3 h => ⟨xs.length - (i + 1), by omega, rfl, h.1, h.2⟩, fun v H3 hy => ?_⟩
        obtain ⟨F3, s3, g3, r3⟩ := go2 v H3 hy
        intro X' fam
        obtain ⟨g', pg', hg'⟩ := hg X' (fo X' fam)
        have cw : CtxOk (wipeC Γ (own.map (·.2))) (wipe σ (own.map (·.2))) F3 := (c.mono ((s1.trans s2).trans s3)).wipe _
        obtain ⟨R2, pR, w3⟩ := (w2.mono s3).frame p2
        have w4 : OwnOk os o2 (wipe σ (own.map (·.2))) F3 M2 R2 := w3.slots (hsl _ fun i hi => wipe_ne hi)
        refine ⟨g', pg', hg' _ F3 M2 R2 H3 o2 xs[i] v _ cw w4 g3 r3 fun σ4 k4 c4 w5 => ?_⟩
        have ew : wipe σ4 (own.map (·.2)) = wipe σ (own.map (·.2)) := wipe_same c.1.symm hkp k4
        have es : ∀ i, i ∉ own.map (·.2) → σ4[i]? = σ[i]? := fun i hi => by
          have z1 := wipe_ne (σ := σ4) hi
          rw [ew, wipe_ne hi] at z1
          exact z1.symm
        refine ⟨ew, fun X2 fam2 => ?_⟩
        have q3 : Want (mapS mt me (xs.drop i) o2) (fun ys o => NormE os (tOwn u) σ F2 R Q (accx ++ ys) o) (ExcE X os σ F2 R W) := q2
        rw [List.drop_eq_getElem_cons hlt] at q3
        have q4 := (show Want (SM.bind (noX (mt xs[i])) _ o2) _ _ from q3).bind
        refine ht X2 (fl X2 fam2) (fo X2 fam2) xs[i] σ4 F3 M2 R2 H3 o2 _ _ (ft X2 fam2) c4 w5 g3 ?_
        unfold noX at q4
        cases et : mt xs[i] o2 with
        | none => rw [et] at q4; exact q4
        | some rt =>
          obtain ⟨rt, o3⟩ := rt
          rw [et] at q4
          cases rt with
          | error ex => exact q4.elim
          | ok b =>
            intro F4 M4 H4 s4 w6 g4
            have w7 := w6.slots (fun p hp => (hsl σ4 es p hp).symm)
            cases b with
            | false =>
              obtain ⟨M5, p5, w8⟩ := OwnOk.unframe w7 pR
              exact ⟨hlt, accx, acc, o3, F4, M5, M4, (s2.trans s3).trans s4, w8, p5, g4, r2.mono (s3.trans s4), Nat.le_succ_of_le l2, (show Want (mapS mt me (xs.drop (i + 1)) o3) _ _ from q4).imp (fun ys o y => y.mono (s3.trans s4)) fun _ _ y => y.mono (s3.trans s4)⟩
            | true =>
              intro X3 fam3
              have q5 := (show Want (SM.bind (noX (me xs[i])) _ o3) _ _ from q4).bind
              refine he X3 (fl X3 fam3) (fo X3 fam3) xs[i] σ4 F4 M4 R2 H4 o3 _ _ (ft X3 fam3) (c4.mono s4) w6 g4 ?_
              unfold noX at q5
              cases ee : me xs[i] o3 with
              | none => rw [ee] at q5; exact q5
              | some re =>
                obtain ⟨re, o4⟩ := re
                rw [ee] at q5
                cases re with
                | error ex => exact q5.elim
                | ok y =>
                  intro v' F5 M5 mm M5' H5 s5 w8 p8 g5 r5
                  have e := iu r5; subst e
                  have e := p8.emp_l; subst e
                  have w9 := w8.slots (fun p hp => (hsl σ4 es p hp).symm)
                  obtain ⟨M6, p6, w10⟩ := OwnOk.unframe w9 pR
                  have hDm : H5 D = some (.lst acc) := g5.m _ _ (p6.l _ _ sing_same)
                  refine ⟨acc, hDm, Nat.lt_of_le_of_lt l2 (Nat.lt_of_lt_of_le hlt hlen), ?_⟩
                  obtain ⟨M7, p7, g7⟩ := g5.set (o' := .lst (acc ++ [v'])) p6
                  refine ⟨hlt, accx ++ [y], acc ++ [v'], o4, F5, M6, M7, ((s2.trans s3).trans s4).trans s5, w10, p7, g7, (r2.mono ((s3.trans s4).trans s5)).snoc r5, by rw [List.length_append]; exact Nat.succ_le_succ l2, ?_⟩
                  refine (show Want (SM.bind (mapS mt me (xs.drop (i + 1))) _ o4) _ _ from q5).bind.imp (fun ys o y => ?_) fun _ _ y => y.mono ((s3.trans s4).trans s5)
                  rw [List.append_assoc]
                  exact NormE.mono (show NormE os (tOwn u) σ F2 R Q _ o from y) ((s3.trans s4).trans s5)
      · have e : i = xs.length := by omega
        subst e
        rw [List.drop_length] at q2
        have q3 : NormE os (tOwn u) σ F2 R Q (accx ++ []) o2 := q2
        rw [List.append_nil] at q3
        exact .inl ⟨st (Nat.le_refl _), q3 (.ref D) F2 M0 _ M2 H2 (.refl _) w2 p2 g2 ⟨D, acc, rfl, rfl, r2⟩⟩
  · rw [if_neg hlen] at z; exact z.elim
theorem re_lc {Lks : Md → Prop} (lks : Lks X.md) (xo : XOk X N sc B k) (own : List (Str × Nat)) (kp : List Nat) {mi : SM (OT os) (List t.A)} {Γx : t.A → Ctx} {mt : t.A → SM (OT os) Bool} {me : t.A → SM (OT os) u.A} (iu : Imm u)
    (hi : RI X Γ os tg iter t mi)
    (hg : ∀ X', XOk X' N scope B k → RG X' kp (wipeC Γ (own.map (·.2))) os tg t Γx)
    (ht : ∀ X', Lks X'.md → XOk X' N scope B k → ∀ x, RTs X' (Γx x) os ifs (mt x))
    (he : ∀ X', Lks X'.md → XOk X' N scope B k → ∀ x, RE X' (Γx x) os elt u (me x))
    (hb : blkB N sc scope own = true := by decide +kernel) (hkp : (List.range Γ.length).all (fun i => (own.map (·.2)).contains i || kp.contains i) = true := by rfl)
    (ho : (own.all fun p => noSlot p.2 os) = true := by rfl)
    (hs : ∀ x, foldedSetIterable iter X.env x = pure x := by intro _; rfl) :
    RE X Γ os (.ListComp elt [⟨tg, iter, ifs, 0⟩] scope pos) (tOwn u) (SM.bind mi fun xs => if xs.length ≤ sizeLine then mapS mt me xs else SM.fail) := by
  obtain ⟨wi, g, tt, te, h1, ok, h2, h3, h4, h5⟩ := lc_read lks xo own kp iu hi hg ht he hb hkp ho hs
  exact fun σ F M R H o W Q tk c w gd q => ⟨_, pe_lc xo.calm xo.nd h1 ok h2 h3 h4 hs, h5 σ F M R H o W Q tk c w gd q⟩
end
end Mi

namespace Mi
open PySem PySem.Spec PyProof.Rows L2
theorem im_dat : Imm tDat := fun a => a.1
theorem boot_isi : bootBuiltins "isinstance" = some (.builtin "isinstance") := by decide +kernel
theorem boot_str : bootBuiltins "str" = some (.type "str") := by decide +kernel
theorem boot_repr : bootBuiltins "repr" = some (.builtin "repr") := by decide +kernel
theorem boot_list : bootBuiltins "list" = some (.type "list") := by decide +kernel
theorem boot_sorted : bootBuiltins "sorted" = some (.builtin "sorted") := by decide +kernel
theorem boot_all : bootBuiltins "all" = some (.builtin "all") := by decide +kernel
section
variable {X : Cx} {N : List Str} {sc : Scope} {B : List Str} {k : Nat} {Γ : Ctx} {os : Os} {pos p p2 p3 cpos apos : Pos} {e a b : Expr} {es rest : List Expr} {t u : Ty}
/-- another reading of the slots -/
theorem re_ctx {Γ' : Ctx} {m : SM (OT os) t.A} (h : RE X Γ' os e t m) (hc : ∀ σ F, CtxOk Γ σ F → CtxOk Γ' σ F) : RE X Γ os e t m := fun σ F M R H o W Q tk c w g q => h σ F M R H o W Q tk (hc σ F c) w g q
theorem rw_ctx {Γ' : Ctx} {m : SM (OT os) Bool} (h : RW X Γ' os e m) (hc : ∀ σ F, CtxOk Γ σ F → CtxOk Γ' σ F) : RW X Γ os e m := fun σ F M R H o W Q tk c w g q => h σ F M R H o W Q tk (hc σ F c) w g q
theorem ctx_cv {i : Nat} {x : t.A} {f : u.A} (hΓ : Γ[i]? = some (some ⟨t, x⟩)) (hc : ∀ v F, t.rep x v F emp → u.rep f v F emp) : ∀ σ F, CtxOk Γ σ F → CtxOk (Γ.set i (some ⟨u, f⟩)) σ F := by
  intro σ F c
  obtain ⟨v, e, r⟩ := c.2 i t x hΓ
  have c3 := c.set (i := i) (t := u) (x := f) (v := v) (hc v F r)
  have e3 : σ.set i (some v) = σ := by
    apply List.ext_getElem?
    intro j
    by_cases hj : j = i
    · subst hj
      have hl : j < σ.length := (List.getElem?_eq_some_iff.mp e).1
      rw [List.getElem?_set_self hl, e]
    · rw [List.getElem?_set_ne (Ne.symm hj)]
  rw [e3] at c3
  exact c3
/-! ### isinstance(x, str) -/
def isStr : Dat → Bool
  | .str _ => true
  | _ => false
theorem kit_str : kitB "str" "str" = some true ∧ kitB "int" "str" = some false ∧ kitB "bool" "str" = some false ∧ kitB "NoneType" "str" = some false ∧ kitB "list" "str" = some false ∧ kitB "tuple" "str" = some false ∧ kitB "dict" "str" = some false := by decide +kernel
theorem dat_isi {K : PySem.W.Frag} {x : Dat} {v : V} {F M H : Hp} (r : DRep x v F) (g : Good F M H) : ∃ t, TyX K H v t ∧ PySem.W.kitOne K t (.type "str") = some (isStr x) := by
  obtain ⟨k1, k2, k3, k4, k5, k6, k7⟩ := kit_str
  cases x with
  | non => unfold DRep at r; subst r; exact ⟨_, .base .non, kit_ty k4⟩
  | bl b => unfold DRep at r; subst r; exact ⟨_, .base (.bl b), kit_ty k3⟩
  | int i => unfold DRep at r; subst r; exact ⟨_, .base (.int i), kit_ty k2⟩
  | str s => unfold DRep at r; subst r; exact ⟨_, .base (.str _), kit_ty k1⟩
  | lst xs => unfold DRep at r; obtain ⟨a, vs, e, q, _⟩ := r; subst e; exact ⟨_, .base (.lst (g.f _ _ q)), kit_ty k5⟩
  | tup xs => unfold DRep at r; obtain ⟨a, vs, e, q, _⟩ := r; subst e; exact ⟨_, .base (.tup (g.f _ _ q)), kit_ty k6⟩
  | dct ks xs => unfold DRep at r; obtain ⟨a, o, vs, e, q, _⟩ := r; subst e; exact ⟨_, .fDict (g.f _ _ q), kit_ty k7⟩
  | opq =>
    unfold DRep at r
    obtain ⟨a, e, q⟩ := r
    subst e
    rcases q with ⟨xs, z⟩ | ⟨xs, z⟩ | ⟨xs, z⟩
    · exact ⟨_, .base (.lst (g.f _ _ z)), kit_ty k5⟩
    · exact ⟨_, .base (.tup (g.f _ _ z)), kit_ty k6⟩
    · exact ⟨_, .base (.dK (g.f _ _ z)), kit_ty k7⟩
theorem re_isi (xo : XOk X N sc B k) (ga ma g2 m2 : Nat) {m : SM (OT os) Dat} (h : RE X Γ os e tDat m) (hg : sc.names[ga]? = some (gI "isinstance") := by rfl) (hm : B[ma]? = some "isinstance" := by rfl) (hg2 : sc.names[g2]? = some (gI "str") := by rfl) (hm2 : B[m2]? = some "str" := by rfl)
    (he : starEach [e, .Name "str" p2] X.env = (false, eval e X.env) :: starEach [.Name "str" p2] X.env := by rfl) (he2 : starEach [.Name "str" p2] X.env = (false, eval (.Name "str" p2) X.env) :: starEach [] X.env := by rfl) (hpl : (backTo pos (starEach [.Name "str" p2] X.env)).any (·.1) = false := by rfl) :
    RE X Γ os (.Call (.Name "isinstance" p) [e, .Name "str" p2] [] pos) tBool (SM.bind m fun x => SM.ret (isStr x)) := by
  intro σ F M R H o W Q tk c w g q
  refine ⟨_, pe_callB call_isi (xo.gl ga _ hg) (xo.fr ma _ hm) boot_isi (pa_cons (pe_best X e) (pa_cons (pe_bltn (v := .ty "str") (xo.gl g2 _ hg2) (xo.fr m2 _ hm2) boot_str rfl) pa_nil he2) he) (by decide) (by decide) he hpl, ?_⟩
  refine one_end im_dat h tk c w g q fun x o2 v F2 M2 H2 h2 s2 w2 g2 r2 => ?_
  obtain ⟨t, ty, kit⟩ := dat_isi (K := X.K) r2.2 g2
  exact ⟨v, .ty "str", t, .type "str", isStr x, rfl, .ty "str", ty, kit, end_flat (g := V.bl) (show NormE os tBool σ F R Q (isStr x) o2 from h2) s2 w2 g2⟩
theorem cv_strD : Cv tStr tDat Dat.str := fun h => ⟨h.1, by unfold DRep; exact h.2⟩
theorem cv_chrD : Cv tChr tDat (fun c => Dat.str [c]) := fun h => ⟨h.1, by unfold DRep; exact h.2⟩
theorem cv_intD : Cv tInt tDat Dat.int := fun h => ⟨h.1, by unfold DRep; exact h.2⟩
theorem cv_boolD : Cv tBool tDat Dat.bl := fun h => ⟨h.1, by unfold DRep; exact h.2⟩
theorem cv_nonD : Cv tNone tDat (fun _ => Dat.non) := fun h => ⟨h.1, by unfold DRep; exact h.2⟩
theorem cv_lstO : Cv (tLst t) tDat (fun _ => Dat.opq) := fun h => ⟨h.1, by unfold DRep; obtain ⟨_, a, vs, e, q, _⟩ := h; exact ⟨a, e, .inl ⟨vs, q⟩⟩⟩
theorem cv_tupO {ts : List Ty} : Cv (tTup ts) tDat (fun _ => Dat.opq) := fun h => ⟨h.1, by unfold DRep; obtain ⟨_, a, vs, e, q, _⟩ := h; exact ⟨a, e, .inr (.inl ⟨vs, q⟩)⟩⟩
/-- isinstance(x, str) and .. -/
def Dat.asStr {A : Type} (x : Dat) (n : List Nat → A) (d : A) : A := match x with
  | .str s => n s
  | _ => d
theorem ctx_asStr {i : Nat} {s : List Nat} (hΓ : Γ[i]? = some (some ⟨tDat, Dat.str s⟩)) : ∀ σ F, CtxOk Γ σ F → CtxOk (Γ.set i (some ⟨tStr, s⟩)) σ F := ctx_cv (u := tStr) (f := s) hΓ fun v F h => ⟨rfl, by have z := h.2; unfold DRep at z; exact z⟩
theorem re_andIsi (xo : XOk X N sc B k) (i j ga ma g2 m2 : Nat) {nm : Str} {kd : NameKind} {x : Dat} {n : List Nat → SM (OT os) Bool} (hb : ∀ s, RE X (Γ.set i (some ⟨tStr, s⟩)) os (.BoolOp .And (b :: rest) pos) tBool (n s))
    (hj : sc.names[j]? = some (nm, kd) := by rfl) (hk : visK kd = true := by rfl) (hN : N[i]? = some nm := by rfl) (hΓ : Γ[i]? = some (some ⟨tDat, x⟩) := by rfl)
    (hg : sc.names[ga]? = some (gI "isinstance") := by rfl) (hm : B[ma]? = some "isinstance" := by rfl) (hg2 : sc.names[g2]? = some (gI "str") := by rfl) (hm2 : B[m2]? = some "str" := by rfl) :
    RE X Γ os (.BoolOp .And (.Call (.Name "isinstance" p) [.Name nm p3, .Name "str" p2] [] cpos :: b :: rest) pos) tBool (Dat.asStr x n (SM.ret false)) := by
  have h0 : RE X Γ os (.Call (.Name "isinstance" p) [.Name nm p3, .Name "str" p2] [] cpos) tBool _ := re_isi xo ga ma g2 m2 (re_var xo i j hj hk hN hΓ) hg hm hg2 hm2 (by rfl) (by rfl) (by rfl)
  intro σ F M R H o W Q tk c w g q
  refine ⟨_, L2.pe_and (pe_best X _) (pe_best X _), h0 σ F M R H o W _ tk c w g ?_⟩
  show NormE os tBool σ F R _ (isStr x) o
  intro v F' M1 mm M' H' s w' p' g' ⟨e1, r1⟩
  subst e1
  have e := p'.emp_l; subst e
  refine ⟨isStr x, r1, ?_⟩
  cases x with
  | str z => exact hb z σ F' _ R H' o W Q tk (ctx_asStr hΓ σ F' (c.mono s)) w' g' ((show Want (n z o) _ _ from q).imp (fun x o2 z => z.mono s) fun _ _ z => z.mono s)
  | _ => exact end_flat (g := V.bl) (show NormE os tBool σ F R Q false o from q) s w' g'
theorem rw_andIsi (xo : XOk X N sc B k) (i j ga ma g2 m2 : Nat) {nm : Str} {kd : NameKind} {x : Dat} {n : List Nat → SM (OT os) Bool} (hb : ∀ s, RW X (Γ.set i (some ⟨tStr, s⟩)) os (.BoolOp .And (b :: rest) pos) (n s))
    (hj : sc.names[j]? = some (nm, kd) := by rfl) (hk : visK kd = true := by rfl) (hN : N[i]? = some nm := by rfl) (hΓ : Γ[i]? = some (some ⟨tDat, x⟩) := by rfl)
    (hg : sc.names[ga]? = some (gI "isinstance") := by rfl) (hm : B[ma]? = some "isinstance" := by rfl) (hg2 : sc.names[g2]? = some (gI "str") := by rfl) (hm2 : B[m2]? = some "str" := by rfl) :
    RW X Γ os (.BoolOp .And (.Call (.Name "isinstance" p) [.Name nm p3, .Name "str" p2] [] cpos :: b :: rest) pos) (Dat.asStr x n (SM.ret false)) := by
  have h0 : RT X Γ os (.Call (.Name "isinstance" p) [.Name nm p3, .Name "str" p2] [] cpos) _ := rt_val (re_isi xo ga ma g2 m2 (re_var xo i j hj hk hN hΓ) hg hm hg2 hm2 (by rfl) (by rfl) (by rfl)) (by intro _; rfl)
  intro σ F M R H o W Q tk c w g q
  refine ⟨_, pw_and (pt_best X _) (pw_best X _), h0 σ F M R H o W _ tk c w g ?_⟩
  change NormT os σ F R (fun c H1 => if c = true then bestW X _ σ H1 Q else Q false H1) (isStr x) o
  intro F' M' H' s w' g'
  cases x with
  | str z => exact hb z σ F' M' R H' o W Q tk (ctx_asStr hΓ σ F' (c.mono s)) w' g' ((show Want (n z o) _ _ from q).imp (fun x o2 z F2 M2 H2 s2 => z F2 M2 H2 (s.trans s2)) fun _ _ z => z.mono s)
  | _ => exact (show NormT os σ F R Q false o from q) F' M' H' s w' g'
/-- a text of the module -/
def LkC (M : Md) (nm : Str) (v : V) : Prop := ∃ u, M.mg nm = some u ∧ RelV v u
theorem re_gstr (xo : XOk X N sc B k) {nm : Str} {s : List Nat} (l : LkC X.md nm (.str (sOf s))) (ga : Nat) (hg : sc.names[ga]? = some (nm, .globalImplicit) := by rfl) : RE X Γ os (.Name nm pos) tStr (SM.ret s) := fun σ F M R H o W Q tk c w g h =>
  ⟨_, C8.pe_gc (xo.gl ga _ hg) l (xo.db ga _ _ hg).1, end_flat (g := fun l => V.str (sOf l)) h (.refl F) w g⟩
/-! ### texts: join, repr, count -/
theorem join_chr : ∀ l : List Nat, Txt.join (sOf []) (l.map fun c => sOf [c]) = sOf l := by
  intro l
  have z : (Txt.join (sOf []) (l.map fun c => sOf [c])).cps.toList = l := by
    show (Builtin.Str.glued (sOf []) (l.map fun c => sOf [c])).cps.toList = l
    cases l with
    | nil => rfl
    | cons c r =>
      show ((r.map fun c => sOf [c]).foldl (fun acc p => acc ++ (sOf []).cps ++ p.cps) (sOf [c]).cps).toList = c :: r
      rw [PySem.StrLaws.glue_fold]
      have h : ∀ r : List Nat, PySem.StrLaws.glueL (sOf []).cps.toList (r.map fun c => sOf [c]) = r := by
        intro r
        induction r with
        | nil => rfl
        | cons d r ih =>
          show [] ++ ([d] ++ PySem.StrLaws.glueL _ _) = d :: r
          rw [ih] <;> rfl
      rw [h] <;> rfl
  generalize Txt.join (sOf []) (l.map fun c => sOf [c]) = y at z
  cases y with
  | mk a => show (⟨a⟩ : Str) = ⟨l.toArray⟩; rw [← z]
theorem allR_chr {F : Hp} : ∀ {l : List Nat} {vs : List V}, AllR tChr l vs F → vs = (l.map fun c => sOf [c]).map V.str
  | [], vs, h => h
  | c :: l, _, ⟨v, r, e, q, k⟩ => by
    subst e
    rw [allR_chr k, show v = V.str (sOf [c]) from q.2] <;> rfl
theorem chr_sum : ∀ l : List Nat, ((l.map fun c => sOf [c]).map (·.length)).sum = l.length
  | [] => rfl
  | c :: l => by
    show 1 + ((l.map fun c => sOf [c]).map (·.length)).sum = l.length + 1
    rw [chr_sum l]; omega
/-- the empty text -/
abbrev tC0 : Ty := flat (List Nat) fun _ => V.str (sOf [])
theorem im_c0 : Imm tC0 := imF
theorem re_c0 {j : Nat} : RE X Γ os (.Constant (.str "") j p) tC0 (SM.ret []) := fun σ F M R H o W Q tk c w g h => ⟨_, pe_str, end_flat (g := fun _ => V.str (sOf [])) h (.refl F) w g⟩
theorem re_join0 {j : Nat} {m : SM (OT os) (List Nat)} (h : RE X Γ os e (tLst tChr) m) (hline : (apos.endLine == pos.line) = true := by rfl) (he : starEach [e] X.env = (false, eval e X.env) :: starEach [] X.env := by rfl)
    (hpl : (backTo pos (starEach [] X.env)).any (·.1) = false := by rfl)
    (hfew : ((backTo pos (starEach [e] X.env)).all (fun x => !x.1) && (backToKw pos (keywordEach [] X.env)).all (fun x => x.1.isSome)
      && decide ([e].length + ([] : List Keyword).length + (if ([] : List Keyword).isEmpty then 0 else 1) < 30)) = true := by rfl) :
    RE X Γ os (.Call (.Attribute (.Constant (.str "") j p) "join" apos) [e] [] pos) tStr (SM.bind (SM.ret ([] : List Nat)) fun _ => SM.bind (SM.bind m fun x => SM.bind (SM.ret ()) fun y => SM.ret (x, y)) fun x => SM.lift (if x.1.length ≤ 16777216 then some x.1 else none)) := by
  have hr : RA X Γ os [e] [tLst tChr] _ := ra_cons im_lst h ra_nil he
  refine re_bm (to := tC0) (ts := [tLst tChr]) (tc := tStr) (f := fun s x => if x.1.length ≤ 16777216 then some x.1 else none) F.plainAttrs_str F.slot_str_join F.type_str_join mt_join (fun r _ => by
    obtain ⟨_, e⟩ := r; subst e; rfl) (fun {x y z v vs F M H Q} e hx hy g q => ?_) im_c0 re_c0 hr rfl hline he hpl hfew
  obtain ⟨_, ea⟩ := hx
  obtain ⟨v1, us, e1, ⟨_, a, ws, ea1, fa, r⟩, e2⟩ := hy
  have e2' : us = [] := e2
  subst e2' e1 ea1 ea
  have e' : (if y.1.length ≤ 16777216 then some y.1 else none) = some z := e
  by_cases hl : y.1.length ≤ 16777216
  · rw [if_pos hl] at e'
    cases e'
    have ew := allR_chr r
    subst ew
    refine ⟨sOf [], a, y.1.map fun c => sOf [c], rfl, rfl, .inl (.inl (.inl (g.f _ _ fa))), ?_, ?_⟩
    · rw [chr_sum]; show y.1.length + _ * 0 ≤ _; omega
    · rw [join_chr]
      exact fl (gA := fun l => V.str (sOf l)) q g
  · rw [if_neg hl] at e'; cases e'
end
end Mi

namespace Mi
open PySem PySem.Spec PyProof.Rows L2
section
variable {X : Cx} {N : List Str} {sc : Scope} {B : List Str} {k : Nat} {Γ : Ctx} {os : Os} {pos p p1 p2 p3 cpos apos : Pos} {e a b : Expr} {es rest : List Expr} {t u : Ty}
/-! ### repr of a bool -/
theorem call_repr_bool : CallR X (.builtin "repr") (fun xs H Q => ∃ b, xs = [.bl b] ∧ Q (.str (if b then "True" else "False")) H) := by
  intro pins s σ H xs us Q I r h
  obtain ⟨b, rfl, q⟩ := h
  obtain ⟨u, rfl, r1⟩ := vals1 r
  have e : u = Value.bool b := r1
  subst e
  exact PySem.P.repr_of_bool ⟨.str _, H, I.tok _, ⟨_, rfl⟩, q⟩
def reprB (b : Bool) : List Nat := if b then [84, 114, 117, 101] else [70, 97, 108, 115, 101]
theorem reprB_of (b : Bool) : (if b then ("True" : Str) else "False") = sOf (reprB b) := by cases b <;> decide +kernel
theorem re_reprB (xo : XOk X N sc B k) {m : SM (OT os) (AT [tBool])} (ga ma : Nat) (ha : RA X Γ os [e] [tBool] m) (hg : sc.names[ga]? = some (gI "repr") := by rfl) (hm : B[ma]? = some "repr" := by rfl)
    (he : starEach [e] X.env = (false, eval e X.env) :: starEach [] X.env := by rfl) :
    RE X Γ os (.Call (.Name "repr" p) [e] [] pos) tStr (SM.bind m fun x => SM.lift (some (reprB x.1))) := by
  refine re_callB (ts := [tBool]) (tc := tStr) (f := fun x => some (reprB x.1)) call_repr_bool (fun {x z vs F M H Q} e h g q => ?_) (xo.gl ga _ hg) (xo.fr ma _ hm) boot_repr ha (by decide) (by decide) he rfl
  obtain ⟨v, us, e1, ⟨_, ev⟩, e2⟩ := h
  cases e
  have e2' : us = [] := e2
  have ev' : v = V.bl x.1 := ev
  subst e2' e1 ev'
  refine ⟨x.1, rfl, ?_⟩
  rw [reprB_of]
  exact fl (gA := fun l => V.str (sOf l)) q g
/-! ### list(text) -/
theorem call_list_str1 (hc : X.calm = true) : CallR X (.type "list") (fun xs H Q => ∃ l : List Nat, xs = [.str (sOf l)] ∧ l.length ≤ sizeLine ∧ ∀ p, H p = none → Q (.ref p) (upd H p (.lst (l.map fun c => V.str (sOf [c]))))) := by
  intro pins s σ H xs us Q I r h
  obtain ⟨l, rfl, hl, q⟩ := h
  obtain ⟨u, rfl, t, rfl⟩ := vals1 r
  refine PySem.call_list_str (I.ok.hd hc) (sOf l) t (hn := by show l.toArray.size ≤ _; simpa using hl) fun h' tk acc' c' hk hS' hacc => ?_
  have hv : Vals (l.map fun c => V.str (sOf [c])) acc'.toList := by
    have hsz : acc'.size = l.length := by
      have z := hacc.1
      rw [z]; show l.toArray.size = _; simp
    have key : ∀ (n : Nat) (xs : List Nat) (vs : List Value), (∀ j, j < xs.length → ∃ c u, xs[j]? = some c ∧ vs[j]? = some (.str ⟨#[c]⟩ u)) → vs.length = xs.length → Vals (xs.map fun c => V.str (sOf [c])) vs := by
      intro n xs
      induction xs with
      | nil => intro vs _ h; cases vs with
        | nil => exact .nil
        | cons _ _ => cases h
      | cons c xs ih => intro vs h hlen; cases vs with
        | nil => cases hlen
        | cons v vs =>
          obtain ⟨c', u, e1, e2⟩ := h 0 (by simp)
          simp at e1 e2
          subst e1 e2
          exact .cons ⟨u, rfl⟩ (ih vs (fun j hj => by have z := h (j + 1) (by simpa using hj); simpa using z) (by simpa using hlen))
    refine key 0 l acc'.toList (fun j hj => ?_) (by simp [hsz])
    have hj' : j < acc'.size := by rw [hsz]; exact hj
    obtain ⟨c, u, hc, e⟩ := hacc.2 j acc'[j] (Array.getElem?_eq_getElem hj')
    refine ⟨c, u, ?_, ?_⟩
    · have z : l.toArray[j]? = some c := hc
      simpa using z
    · rw [← e]; simp [hj']
  refine ⟨.ref s.heap.objs.size, _, I.laid (t' := tk) hk (Nat.le_refl _) (o := .lst (l.map fun c => V.str (sOf [c]))) ⟨by simpa using hl, acc'.toList, c', hv, by simpa using hS'⟩, rfl, q _ (I.hok.fresh (Nat.le_refl _))⟩
theorem allR_of_chr {F : Hp} : ∀ l : List Nat, AllR tChr l (l.map fun c => V.str (sOf [c])) F
  | [] => rfl
  | c :: l => ⟨_, _, rfl, ⟨rfl, rfl⟩, allR_of_chr l⟩
theorem re_listS (xo : XOk X N sc B k) {m : SM (OT os) (AT [tStr])} (ga ma : Nat) (ha : RA X Γ os [e] [tStr] m) (hg : sc.names[ga]? = some (gI "list") := by rfl) (hm : B[ma]? = some "list" := by rfl)
    (he : starEach [e] X.env = (false, eval e X.env) :: starEach [] X.env := by rfl) :
    RE X Γ os (.Call (.Name "list" p) [e] [] pos) (tOwn tChr) (SM.bind m fun x => SM.lift (if x.1.length ≤ sizeLine then some x.1 else none)) := by
  refine re_callTy (ts := [tStr]) (tc := tOwn tChr) (f := fun x => if x.1.length ≤ sizeLine then some x.1 else none) (call_list_str1 xo.calm) (fun {x z vs F M H Q} e h g q => ?_) (xo.gl ga _ hg) (xo.fr ma _ hm) boot_list ha (by decide) (by decide) he rfl
  obtain ⟨v, us, e1, ⟨_, ev⟩, e2⟩ := h
  have e2' : us = [] := e2
  have ev' : v = V.str (sOf x.1) := ev
  subst e2' e1 ev'
  have e' : (if x.1.length ≤ sizeLine then some x.1 else none) = some z := e
  by_cases hl : x.1.length ≤ sizeLine
  · rw [if_pos hl] at e'
    cases e'
    refine ⟨x.1, rfl, hl, fun p hp => ?_⟩
    obtain ⟨g2, s2⟩ := g.newM (o := .lst (x.1.map fun c => V.str (sOf [c]))) hp
    exact q (.ref p) F _ _ _ (.refl F) s2 g2 ⟨p, _, rfl, rfl, allR_of_chr x.1⟩
  · rw [if_neg hl] at e'; cases e'
/-! ### sorted(a list of signs) -/
def insC (c : Nat) : List Nat → List Nat
  | [] => [c]
  | d :: r => if c ≤ d then c :: d :: r else d :: insC c r
def sortC : List Nat → List Nat
  | [] => []
  | c :: r => insC c (sortC r)
theorem insC_perm (c : Nat) : ∀ l, (insC c l).Perm (c :: l)
  | [] => .refl _
  | d :: r => by
    unfold insC
    split
    · exact .refl _
    · exact ((insC_perm c r).cons d).trans (.swap c d r)
theorem sortC_perm : ∀ l, (sortC l).Perm l
  | [] => .refl _
  | c :: r => (insC_perm c _).trans ((sortC_perm r).cons c)
theorem insC_sorted (c : Nat) : ∀ l : List Nat, l.Pairwise (· ≤ ·) → (insC c l).Pairwise (· ≤ ·)
  | [], _ => by unfold insC; simp
  | d :: r, h => by
    have h' := List.pairwise_cons.mp h
    unfold insC
    split
    · rename_i hc
      refine List.pairwise_cons.mpr ⟨fun x hx => ?_, h⟩
      rcases List.mem_cons.mp hx with rfl | z
      · exact hc
      · exact Nat.le_trans hc (h'.1 x z)
    · rename_i hc
      refine List.pairwise_cons.mpr ⟨fun x hx => ?_, insC_sorted c r h'.2⟩
      rcases List.mem_cons.mp ((insC_perm c r).mem_iff.mp hx) with rfl | z
      · omega
      · exact h'.1 x z
theorem sortC_sorted : ∀ l, (sortC l).Pairwise (· ≤ ·)
  | [] => .nil
  | c :: r => insC_sorted c _ (sortC_sorted r)
theorem perm_sorted_eq : ∀ {l k : List Nat}, l.Perm k → l.Pairwise (· ≤ ·) → k.Pairwise (· ≤ ·) → l = k
  | [], k, h, _, _ => by rw [List.nil_perm.mp h]
  | a :: l, [], h, _, _ => by cases h.length_eq
  | a :: l, b :: k, h, h1, h2 => by
    have p1 := List.pairwise_cons.mp h1
    have p2 := List.pairwise_cons.mp h2
    have e : a = b := by
      have z1 : a ∈ b :: k := h.mem_iff.mp List.mem_cons_self
      have z2 : b ∈ a :: l := h.mem_iff.mpr List.mem_cons_self
      rcases List.mem_cons.mp z1 with z | z
      · exact z
      · rcases List.mem_cons.mp z2 with y | y
        · exact y.symm
        · exact Nat.le_antisymm (p1.1 b y) (p2.1 a z)
    subst e
    rw [perm_sorted_eq (List.Perm.cons_inv h) p1.2 p2.2]
theorem ltCps_one {a b : Nat} : ltCps [a] [b] = decide (a < b) := by
  unfold ltCps
  by_cases h : a < b
  · simp [h]
  · simp [h, ltCps]
theorem rising_chr : ∀ (l : List Nat) (c : Nat), PyProof.Rows.risingS (sOf [c]) (l.map fun c => sOf [c]) = true → (c :: l).Pairwise (· ≤ ·)
  | [], c, _ => by simp
  | d :: l, c, h => by
    have h' : (!ltCps [d] [c] && PyProof.Rows.risingS (sOf [d]) (l.map fun c => sOf [c])) = true := h
    rw [ltCps_one, Bool.and_eq_true] at h'
    have ih := rising_chr l d h'.2
    have hcd : c ≤ d := by have z := h'.1; simp at z; exact z
    refine List.pairwise_cons.mpr ⟨fun x hx => ?_, ih⟩
    rcases List.mem_cons.mp hx with rfl | z
    · exact hcd
    · exact Nat.le_trans hcd ((List.pairwise_cons.mp ih).1 x z)
theorem sorted_chr : ∀ (l : List Nat), PyProof.Rows.sortedS (l.map fun c => sOf [c]) = true → l.Pairwise (· ≤ ·)
  | [], _ => .nil
  | c :: l, h => rising_chr l c h
theorem chr_of_map {ys : List Str} {l : List Nat} (h : ys.Perm (l.map fun c => sOf [c])) : ∃ k : List Nat, ys = k.map fun c => sOf [c] := by
  have : ∀ y ∈ ys, ∃ c, y = sOf [c] := fun y hy => by
    obtain ⟨c, _, e⟩ := List.mem_map.mp (h.mem_iff.mp hy)
    exact ⟨c, e.symm⟩
  clear h
  induction ys with
  | nil => exact ⟨[], rfl⟩
  | cons y ys ih =>
    obtain ⟨c, e⟩ := this y List.mem_cons_self
    obtain ⟨k, ek⟩ := ih fun z hz => this z (List.mem_cons_of_mem _ hz)
    exact ⟨c :: k, by rw [e, ek] <;> rfl⟩
theorem chr_unmap {k l : List Nat} (h : (k.map fun c => sOf [c]).Perm (l.map fun c => sOf [c])) : k.Perm l := by
  have z := h.map (fun y : Str => y.cps.toList.headD 0)
  rw [List.map_map, List.map_map] at z
  have e : ((fun y : Str => y.cps.toList.headD 0) ∘ fun c => sOf [c]) = id := by funext c; rfl
  rw [e, List.map_id, List.map_id] at z
  exact z
theorem re_sortedC (xo : XOk X N sc B k) {m : SM (OT os) (AT [tLst tChr])} (ga ma : Nat) (ha : RA X Γ os [e] [tLst tChr] m) (hg : sc.names[ga]? = some (gI "sorted") := by rfl) (hm : B[ma]? = some "sorted" := by rfl)
    (he : starEach [e] X.env = (false, eval e X.env) :: starEach [] X.env := by rfl) :
    RE X Γ os (.Call (.Name "sorted" p) [e] [] pos) (tOwn tChr) (SM.bind m fun x => SM.lift (if x.1.length < 64 then some (sortC x.1) else none)) := by
  refine re_callB (ts := [tLst tChr]) (tc := tOwn tChr) (f := fun x => if x.1.length < 64 then some (sortC x.1) else none) cr_sortedS (fun {x z vs F M H Q} e h g q => ?_) (xo.gl ga _ hg) (xo.fr ma _ hm) boot_sorted ha (by decide) (by decide) he rfl
  obtain ⟨v, us, e1, ⟨_, a, ws, ea, fa, r⟩, e2⟩ := h
  have e2' : us = [] := e2
  subst e2' e1 ea
  have e' : (if x.1.length < 64 then some (sortC x.1) else none) = some z := e
  by_cases hl : x.1.length < 64
  · rw [if_pos hl] at e'
    cases e'
    have ew := allR_chr r
    subst ew
    refine ⟨a, _, rfl, .inl (.inl (g.f _ _ fa)), by simpa using hl, fun ys p hp hs hn => ?_⟩
    obtain ⟨k, ek⟩ := chr_of_map hp
    subst ek
    have ekk : k = sortC x.1 := perm_sorted_eq ((chr_unmap hp).trans (sortC_perm x.1).symm) (sorted_chr k hs) (sortC_sorted x.1)
    subst ekk
    obtain ⟨g2, s2⟩ := g.newM (o := .lst (((sortC x.1).map fun c => sOf [c]).map V.str)) hn
    refine q (.ref p) F _ _ _ (.refl F) s2 g2 ⟨p, _, rfl, rfl, ?_⟩
    rw [List.map_map]
    exact allR_of_chr (sortC x.1)
  · rw [if_neg hl] at e'; cases e'
/-! ### text.count(sign) -/
def cntC (l : List Nat) (c : Nat) : Int := Txt.count (sOf l) (sOf [c])
theorem re_count {ob : Expr} {mo : SM (OT os) (List Nat)} {m : SM (OT os) (AT [tChr])} (ho : RE X Γ os ob tStr mo) (ha : RA X Γ os [e] [tChr] m)
    (hbase : attributeBase ob "count" X.env (eval ob X.env) = eval ob X.env := by rfl) (hline : (apos.endLine == pos.line) = true := by rfl)
    (he : starEach [e] X.env = (false, eval e X.env) :: starEach [] X.env := by rfl)
    (hpl : (backTo pos (starEach [] X.env)).any (·.1) = false := by rfl)
    (hfew : ((backTo pos (starEach [e] X.env)).all (fun x => !x.1) && (backToKw pos (keywordEach [] X.env)).all (fun x => x.1.isSome)
      && decide ([e].length + ([] : List Keyword).length + (if ([] : List Keyword).isEmpty then 0 else 1) < 30)) = true := by rfl) :
    RE X Γ os (.Call (.Attribute ob "count" apos) [e] [] pos) tInt (SM.bind mo fun x => SM.bind m fun y => SM.lift (some (cntC x y.1))) := by
  refine re_bm (to := tStr) (ts := [tChr]) (tc := tInt) (f := fun x y => some (cntC x y.1)) F.plainAttrs_str F.slot_str_count F.type_str_count mt_count (fun r _ => by
    obtain ⟨_, e⟩ := r; subst e; rfl) (fun {x y z v vs F M H Q} e hx hy g q => ?_) imF ho ha hbase hline he hpl hfew
  cases e
  obtain ⟨_, ea⟩ := hx
  obtain ⟨v1, us, e1, ⟨_, ev⟩, e2⟩ := hy
  have e2' : us = [] := e2
  have ev' : v1 = V.str (sOf [y.1]) := ev
  subst e2' e1 ev' ea
  exact ⟨sOf x, sOf [y.1], rfl, rfl, fl (gA := V.int) q g⟩
/-! ### text[::-1] -/
theorem re_rev {j : Nat} {m : SM (OT os) (List Nat)} (h : RE X Γ os e tStr m) :
    RE X Γ os (.Subscript e (.Slice none none (some (.UnaryOp .USub (.Constant (.int 1) j p1) p2)) p3) pos) tStr (SM.bind m fun x => SM.lift (if x.length ≤ sizeLine then some x.reverse else none)) := by
  intro σ F M R H o W Q tk c w g q
  have pe : PE X (.Subscript e (.Slice none none (some (.UnaryOp .USub (.Constant (.int 1) j p1) p2)) p3) pos) (fun σ H Q => best X e σ H fun x H1 => ∃ l : List Nat, x = .str (sOf l) ∧ l.length ≤ sizeLine ∧ Q (.str (sOf l.reverse)) H1) := by
    refine ⟨fun pins s σ H Q I h => ?_⟩
    refine Subscript_ (thn ((pe_best X e).run pins s σ H _ I h) fun v s1 ⟨x, H1, I1, r1, q1⟩ => ?_)
    obtain ⟨l, ex, hl, q⟩ := q1
    subst ex
    obtain ⟨tv, ev⟩ := r1
    subst ev
    have hst : PO X (some (.UnaryOp .USub (.Constant (.int 1) j p1) p2)) (tPart (tUn (rU fun i => .int (-i)) (tC (.int 1)))) := po_some (pe_un un_neg pe_int)
    refine wpAny_Slice (thn (po_none.run pins s1 σ H1 (fun o H2 => o = none ∧ H2 = H1) I1 ⟨rfl, rfl⟩) fun vl s2 ⟨l2, H2, I2, pl, el, e2⟩ => ?_)
    subst el e2
    refine thn (po_none.run pins s2 σ H2 (fun o H3 => o = none ∧ H3 = H2) I2 ⟨rfl, rfl⟩) fun vu s3 ⟨u, H3, I3, pu, eu, e3⟩ => ?_
    subst eu e3
    refine thn (hst.run pins s3 σ H3 (fun o H4 => o = some (-1) ∧ H4 = H3) I3 ⟨1, rfl, -1, rfl, rfl, rfl⟩) fun vs s4 ⟨o, H4, I4, ps, eo, e4⟩ => ?_
    subst eo e4
    have I5 : Inv X pins σ H4 { s4 with heap := s4.heap.push { cls := .type "slice", data := .fields #[vl, vu, vs] } } := I4.kept (t' := s4.toks) fun b ob q => Heap.get?_push_of_some _ q
    cases pl
    cases pu
    obtain ⟨ts, ets⟩ : ∃ t, vs = .int (-1) t := by cases ps; exact ⟨_, rfl⟩
    subst ets
    refine tail_any (ops := [.ref s4.heap.objs.size, .str (sOf l) tv]) (typeIs_str _ _ _) (_root_.PySem.F.slot_str_getitem.lookup) ?_ (by with_unfolding_all rfl)
    refine wpAny_getItem_str_slice (l := none) (u := none) (st := some (-1, ts)) ⟨_, Heap.get?_push_size _ rfl, rfl, rfl⟩ (by rfl) ?_
    have es : Txt.sliceBy (sOf l) none none (-1, ts) = sOf l.reverse := by
      have z := PyProof.Rows.step_rev_list (sOf l) ts
      have z2 : (Txt.sliceBy (sOf l) none none (-1, ts)).cps.toList = l.reverse := by
        rw [z]
        apply List.ext_getElem?
        intro i
        by_cases hi : i < l.length
        · have hi' : i < (sOf l).length := hi
          rw [List.getElem?_map, List.getElem?_range hi', List.getElem?_reverse hi]
          show some ((l.toArray).getD (l.length - 1 - i) 0) = _
          have h2 : l.length - 1 - i < l.length := by omega
          rw [List.getElem?_eq_getElem h2]
          simp [Array.getD, h2]
        · rw [List.getElem?_eq_none (by simp [lenS]; omega), List.getElem?_eq_none (by simp; omega)]
      generalize Txt.sliceBy (sOf l) none none (-1, ts) = y at z2
      cases y with
      | mk a => show (⟨a⟩ : Str) = ⟨l.reverse.toArray⟩; rw [← z2]
    have hp : (if ((((some ((-1 : Int), ts)).map (·.1)).getD 1 == 1 && (slicePicked (sOf l) none none (some (-1, ts))).length == (sOf l).length) = true) then Made.val (.str (sOf l) tv) else Made.str ⟨((slicePicked (sOf l) none none (some (-1, ts))).filterMap ((sOf l).cps[·]?)).toArray⟩).post (EP X pins σ Q) { s4 with heap := s4.heap.push { cls := .type "slice", data := .fields #[.none, .none, .int (-1) ts] } } := by
      refine post_val_or_str ⟨?_, fun t' k => ?_⟩
      · show (Txt.sliceBy (sOf l) none none (-1, ts)).length ≤ sizeLine
        rw [es]; show l.reverse.toArray.size ≤ _; simpa using hl
      · show EP X pins σ Q (.str (Txt.sliceBy (sOf l) none none (-1, ts)) t') _
        rw [es]
        exact ⟨.str (sOf l.reverse), _, I5.tok k, ⟨t', rfl⟩, q⟩
    exact hp
  refine ⟨_, pe, ?_⟩
  refine one_end (ta := tStr) imF h tk c w g q fun x o2 v F2 M2 H2 h2 s2 w2 g2 r1 => ?_
  obtain ⟨_, ev⟩ := r1
  refine lift_fin (tc := tStr) h2 s2 w2 fun z e q => ?_
  by_cases hl : x.length ≤ sizeLine
  · rw [if_pos hl] at e
    cases e
    exact ⟨x, ev, hl, fl (gA := fun l => V.str (sOf l)) q g2⟩
  · rw [if_neg hl] at e; cases e
/-! ### text * int -/
theorem op_mulS : OpR X (binaryOp .Mult) (fun x y H Q => ∃ (l : List Nat) (n : Nat), x = .str (sOf l) ∧ y = .int (n : Int) ∧ 2 ≤ n ∧ n ≤ 1000 ∧ l.length ≤ 10000 ∧ Q (.str (sOf (List.replicate n l).flatten)) H) := by
  intro pins s σ H x y v u Q I rx ry h
  obtain ⟨l, n, rfl, rfl, h2, h3, h5, q⟩ := h
  obtain ⟨t, rfl⟩ := rx
  obtain ⟨t', rfl⟩ := ry
  have hlen : (sOf l).length = l.length := rfl
  have ef : ∀ (n : Nat) (acc : Array Nat), (List.replicate n (sOf l).cps).foldl (· ++ ·) acc = acc ++ (List.replicate n l).flatten.toArray := by
    intro n
    induction n with
    | zero => intro acc; simp
    | succ n ih => intro acc; rw [List.replicate_succ, List.foldl_cons, ih, List.replicate_succ, List.flatten_cons]; show acc ++ l.toArray ++ _ = _; simp
  have hc1 : ¬ (n : Int) < 1 := by omega
  have hc2 : ((n : Int) == 1 || (sOf l).length == 0) = (l.length == 0) := by
    rw [hlen]
    have a1 : ((n : Int) == 1) = false := by rw [beq_eq_false_iff_ne]; omega
    rw [a1]; rfl
  have hsz : l.length * n ≤ 10000 * 1000 := Nat.mul_le_mul h5 h3
  refine P.mul_str ?_ (fun _ _ => ?_) (fun _ _ => ?_) ?_
  · rw [decide_eq_false (by omega), decide_eq_false (by omega)]; rfl
  · rw [hlen]
    intro hgt
    have : (2 ^ 63 - 1) / (n : Int) ≥ 9223372036854775807 / 1000 := by
      apply Int.le_ediv_of_mul_le (by omega)
      have : (9223372036854775807 / 1000 : Int) * n ≤ (9223372036854775807 / 1000 : Int) * 1000 := Int.mul_le_mul_of_nonneg_left (by omega) (by decide)
      omega
    omega
  · rw [hlen]
    have e : (n : Int).toNat = n := by omega
    rw [e]
    show decide (_ > sizeLine) = false
    rw [sizeLine_eq]
    exact decide_eq_false (by omega)
  · rw [if_neg hc1, hc2]
    by_cases h0 : l.length = 0
    · have e0 := List.eq_nil_of_length_eq_zero h0
      subst e0
      rw [if_pos (by rfl)]
      refine ⟨.str (sOf []), H, I.tok _, ⟨_, rfl⟩, ?_⟩
      have ez : (List.replicate n ([] : List Nat)).flatten = [] := by simp
      rw [ez] at q
      exact q
    rw [if_neg (by simpa using h0)]
    have e : (n : Int).toNat = n := by omega
    rw [e, ef]
    have e2 : (#[] ++ (List.replicate n l).flatten.toArray : Array Nat) = (List.replicate n l).flatten.toArray := by simp
    rw [e2]
    refine ⟨?_, .str (sOf (List.replicate n l).flatten), H, I.tok _, ⟨_, rfl⟩, q⟩
    show (List.replicate n l).flatten.toArray.size ≤ sizeLine
    rw [List.size_toArray, List.length_flatten, List.map_replicate, List.sum_replicate_nat, sizeLine_eq, Nat.mul_comm]
    omega
theorem nat_of {y : Int} (h1 : 2 ≤ y) (h2 : y ≤ 1000) : y = (y.toNat : Int) ∧ 2 ≤ y.toNat ∧ y.toNat ≤ 1000 := by omega
theorem re_mulS {m : SM (OT os) (List Nat)} {n : SM (OT os) Int} (ha : RE X Γ os a tStr m) (hb : RE X Γ os b tInt n) :
    RE X Γ os (.BinOp a .Mult b pos) tStr (SM.bind m fun x => SM.bind n fun y => SM.lift (if 2 ≤ y ∧ y ≤ 1000 ∧ x.length ≤ 10000 then some (List.replicate y.toNat x).flatten else none)) := by
  refine re_op (ta := tStr) (tb := tInt) (tc := tStr) (f := fun x y => if 2 ≤ y ∧ y ≤ 1000 ∧ x.length ≤ 10000 then some (List.replicate y.toNat x).flatten else none) op_mulS (fun {x y z v u F M H Q} e hx hy g q => ?_) imF imF ha hb
  obtain ⟨_, rx⟩ := hx
  obtain ⟨_, ry⟩ := hy
  have e' : (if 2 ≤ y ∧ y ≤ 1000 ∧ x.length ≤ 10000 then some (List.replicate y.toNat x).flatten else none) = some z := e
  by_cases h : 2 ≤ y ∧ y ≤ 1000 ∧ x.length ≤ 10000
  · rw [if_pos h] at e'
    cases e'
    obtain ⟨h1, h2, h3⟩ := h
    obtain ⟨n1, n2, n3⟩ := nat_of h1 h2
    exact ⟨x, y.toNat, rx, by rw [ry]; exact congrArg V.int n1, n2, n3, h3, fl (gA := fun l => V.str (sOf l)) q g⟩
  · rw [if_neg h] at e'; cases e'
end
end Mi

namespace Mi
open PySem PySem.Spec PyProof.Rows L2
section
variable {X : Cx} {N : List Str} {sc : Scope} {B : List Str} {k : Nat} {Γ : Ctx} {os : Os} {pos p p1 p2 p3 cpos apos : Pos} {e a b : Expr} {es rest : List Expr} {t u : Ty}
/-! ### == [] -/
theorem dp_chr {K : PySem.W.Frag} {H : Hp} : ∀ l : List Nat, DpAll K H ((l.map fun c => sOf [c]).map V.str) (l.map fun c => PyData.str (sOf [c]))
  | [] => .nil
  | c :: l => .cons (.str _) (dp_chr l)
abbrev okC (l : List Nat) : Bool := l.all fun c => decide (c < 1114112)
theorem can_chr : ∀ l : List Nat, okC l = true → PyData.canLayAll0 (l.map fun c => PyData.str (sOf [c])) = true
  | [], _ => rfl
  | c :: l, h => by
    have h' : decide (c < 1114112) = true ∧ okC l = true := by
      have z : (decide (c < 1114112) && okC l) = true := h
      simpa [Bool.and_eq_true] using z
    show PyData.canLayAll0 (PyData.str (sOf [c]) :: _) = true
    rw [PyData.canLayAll0, can_chr l h'.2, PyData.canLay0, Bool.and_true]
    show (#[c].all fun c => decide (c < 1114112)) = true
    simpa using h'.1
theorem dep_chr : ∀ l : List Nat, PyData.depthAll (l.map fun c => PyData.str (sOf [c])) ≤ 1
  | [] => by decide
  | c :: l => by
    show PyData.depthAll (PyData.str (sOf [c]) :: _) ≤ 1
    have ih := dep_chr l
    rw [PyData.depthAll]
    have h : (PyData.str (sOf [c])).depth ≤ 1 := by rw [PyData.depth] <;> decide
    omega
theorem shp_chr (l : List Nat) (hl : okC l = true) : SeqAt.shaped (.list (l.map fun c => PyData.str (sOf [c]))) = true := by
  unfold SeqAt.shaped
  rw [Bool.and_eq_true]
  refine ⟨?_, decide_eq_true ?_⟩
  · rw [PyData.canLay0]; exact can_chr l hl
  · have h := dep_chr l
    rw [PyData.depth]
    omega
theorem eqv_chr0 (l : List Nat) : PyData.eqv (.list (l.map fun c => PyData.str (sOf [c]))) (.list []) = decide (l = []) := by
  rw [PyData.eqv]
  cases l with
  | nil => rw [List.map_nil, PyData.eqvAll]; rfl
  | cons c l => rw [List.map_cons, PyData.eqvAll]; rfl
theorem v_eq0 : VOp (rEqD X.K) (tLst tChr) (tLst tChr) tBool (fun x y => if y = [] ∧ okC x = true then some (decide (x = [])) else none) := by
  intro x y z v u F M H Q e ⟨_, a, vs, ea, fa, ra⟩ ⟨_, b, us, eb, fb, rb⟩ g q
  have e' : (if y = [] ∧ okC x = true then some (decide (x = [])) else none) = some z := e
  by_cases hy : y = [] ∧ okC x = true
  · rw [if_pos hy] at e'
    cases e'
    obtain ⟨hy, hx⟩ := hy
    subst hy
    have e1 := allR_chr ra
    have e2 : us = [] := rb
    subst e1 e2 ea eb
    refine ⟨.list (x.map fun c => PyData.str (sOf [c])), .list [], .lst (.inl (.inl (g.f _ _ fa))) (dp_chr x), .lst (.inl (.inl (g.f _ _ fb))) .nil, shp_chr x hx, shp_chr [] rfl, ?_⟩
    rw [eqv_chr0]
    exact fl (gA := V.bl) q g
  · rw [if_neg hy] at e'; cases e'
theorem v_ne0 : VOp (rNeD X.K) (tLst tChr) (tLst tChr) tBool (fun x y => if y = [] ∧ okC x = true then some (!decide (x = [])) else none) := by
  intro x y z v u F M H Q e ⟨_, a, vs, ea, fa, ra⟩ ⟨_, b, us, eb, fb, rb⟩ g q
  have e' : (if y = [] ∧ okC x = true then some (!decide (x = [])) else none) = some z := e
  by_cases hy : y = [] ∧ okC x = true
  · rw [if_pos hy] at e'
    cases e'
    obtain ⟨hy, hx⟩ := hy
    subst hy
    have e1 := allR_chr ra
    have e2 : us = [] := rb
    subst e1 e2 ea eb
    refine ⟨.list (x.map fun c => PyData.str (sOf [c])), .list [], .lst (.inl (.inl (g.f _ _ fa))) (dp_chr x), .lst (.inl (.inl (g.f _ _ fb))) .nil, shp_chr x hx, shp_chr [] rfl, ?_⟩
    rw [eqv_chr0]
    exact fl (gA := V.bl) q g
  · rw [if_neg hy] at e'; cases e'
theorem units_ok (xo : XOk X N sc B k) : X.A.units + 64 < cLine := by have h := xo.room.un; omega
theorem re_eq0 (xo : XOk X N sc B k) {m n : SM (OT os) (List Nat)} (ha : RE X Γ os a (tLst tChr) m) (hb : RE X Γ os (.List [] p) (tLst tChr) n) :
    RE X Γ os (.Compare a [.Eq] [.List [] p] pos) tBool (SM.bind m fun x => SM.bind n fun y => SM.lift (if y = [] ∧ okC x = true then some (decide (x = [])) else none)) := re_cmp (op_eqD (units_ok xo)) v_eq0 im_lst im_lst ha hb
theorem re_ne0 (xo : XOk X N sc B k) {m n : SM (OT os) (List Nat)} (ha : RE X Γ os a (tLst tChr) m) (hb : RE X Γ os (.List [] p) (tLst tChr) n) :
    RE X Γ os (.Compare a [.NotEq] [.List [] p] pos) tBool (SM.bind m fun x => SM.bind n fun y => SM.lift (if y = [] ∧ okC x = true then some (!decide (x = [])) else none)) := re_cmp (op_neD (units_ok xo)) v_ne0 im_lst im_lst ha hb
/-! ### all(a list of bools) -/
theorem allR_bl {F : Hp} : ∀ {l : List Bool} {vs : List V}, AllR tBool l vs F → vs = l.map V.bl
  | [], vs, h => h
  | c :: l, _, ⟨v, r, e, q, k⟩ => by
    subst e
    rw [allR_bl k, show v = V.bl c from q.2] <;> rfl
theorem re_all (xo : XOk X N sc B k) {m : SM (OT os) (AT [tLst tBool])} (ga ma : Nat) (ha : RA X Γ os [e] [tLst tBool] m) (hg : sc.names[ga]? = some (gI "all") := by rfl) (hm : B[ma]? = some "all" := by rfl)
    (he : starEach [e] X.env = (false, eval e X.env) :: starEach [] X.env := by rfl) :
    RE X Γ os (.Call (.Name "all" p) [e] [] pos) tBool (SM.bind m fun x => SM.lift (some (x.1.all id))) := by
  refine re_callB (ts := [tLst tBool]) (tc := tBool) (f := fun x => some (x.1.all id)) (cr_all xo.calm) (fun {x z vs F M H Q} e h g q => ?_) (xo.gl ga _ hg) (xo.fr ma _ hm) boot_all ha (by decide) (by decide) he rfl
  obtain ⟨v, us, e1, ⟨_, a, ws, ea, fa, r⟩, e2⟩ := h
  have e2' : us = [] := e2
  subst e2' e1 ea
  cases e
  have ew := allR_bl r
  subst ew
  exact ⟨a, x.1, rfl, .inl (.inl (g.f _ _ fa)), fl (gA := V.bl) q g⟩
/-! ### dicts of which nothing is asked -/
theorem re_dict0 : RE X Γ os (.Dict [] [] pos) tDat (SM.ret Dat.opq) := by
  intro σ F M R H o W Q tk c w g h
  refine ⟨_, pe_dnewK, fun p hp => ?_⟩
  have hF : F p = none := g.fnone hp
  have s2 := sub_upd (o := .dK []) hF
  exact (show NormE os tDat σ F R Q Dat.opq o from h) (.ref p) _ M emp M _ s2 (w.mono s2) (sep_emp_l M) (g.newF hp) ⟨rfl, by unfold DRep; exact ⟨p, rfl, .inr (.inr ⟨[], upd_same⟩)⟩⟩
/-- {text: int} -/
theorem re_dict1 {z : Str} {i : Int} {j1 j2 : Nat} : RE X Γ os (.Dict [some (.Constant (.str z) j1 p1)] [.Constant (.int i) j2 p2] pos) tDat (SM.ret Dat.opq) := by
  intro σ F M R H o W Q tk c w g h
  refine ⟨_, pe_disp (pps_cons pe_str pe_int pps_nil) rfl rfl (by simp) (by simp), fun p hp => ?_⟩
  refine ⟨upd_same, [(.inr z, .int i)], rfl, by simp, ?_⟩
  have hF : F p = none := g.fnone hp
  have s2 := sub_upd (o := .dK (mergeK [] [(.inr z, .int i)])) hF
  have hu : upd (upd H p (.dK [])) p (.dK (mergeK [] [(.inr z, .int i)])) = upd H p (.dK (mergeK [] [(.inr z, .int i)])) := by
    funext b
    by_cases hb : b = p
    · subst hb; rw [upd_same, upd_same]
    · rw [upd_ne hb, upd_ne hb, upd_ne hb]
  rw [hu]
  exact (show NormE os tDat σ F R Q Dat.opq o from h) (.ref p) _ M emp M _ s2 (w.mono s2) (sep_emp_l M) (g.newF hp) ⟨rfl, by unfold DRep; exact ⟨p, rfl, .inr (.inr ⟨_, upd_same⟩)⟩⟩
/-! ### f(a = e, ..), all arguments by keyword, in the parameters' order -/
def LkK (M : Md) (nm : Str) (ps : List Str) (ts : List Ty) (tr : Ty) (fn : AT ts → Option (Except Exn tr.A)) (j : Nat) : Prop := ∃ f fd, LkF M nm ps (spP M.mg ts tr fn) j f fd ∧ ∀ (s : Shared) (ws : List Value), ws.length = ps.length → BindsTo s fd ⟨[], ps.zip ws⟩ (ps.zip ws)
theorem LkK.toP {M : Md} {nm : Str} {ps : List Str} {ts : List Ty} {tr : Ty} {fn : AT ts → Option (Except Exn tr.A)} {j : Nat} (h : LkK M nm ps ts tr fn j) : LkP M nm ps ts tr fn j := by
  obtain ⟨f, fd, l, _⟩ := h
  exact ⟨f, fd, l⟩
def bestK (X : Cx) (kws : List Keyword) : TA := fun σ H Q => ∃ t, PK X kws t ∧ t σ H Q
theorem pk_best (X : Cx) (kws : List Keyword) : PK X kws (bestK X kws) := ⟨fun pos pins s σ H Q I ⟨_, p, h⟩ => p.run pos pins s σ H Q I h⟩
def RK (X : Cx) (Γ : Ctx) (os : Os) (kws : List Keyword) (ts : List Ty) (m : SM (OT os) (AT ts)) : Prop :=
  ∀ (σ : L2.St) (F M R H : Hp) (o : OT os) (W : WX) (Q : List V → Hp → Prop), Takes X W → CtxOk Γ σ F → OwnOk os o σ F M R → Good F M H →
    Want (m o) (NormA os ts σ F R Q) (ExcE X os σ F R W) → bestK X kws σ H Q
theorem rk_nil : RK X Γ os [] [] (SM.ret ()) := fun σ F M R H o W Q tk c w g q => ⟨_, pk_nil, q [] F M H (.refl F) w g rfl⟩
theorem rk_cons {ts : List Ty} {kws : List Keyword} {nm : Option Str} {kpos : Pos} {m : SM (OT os) t.A} {n : SM (OT os) (AT ts)} (it : Imm t) (h : RE X Γ os e t m) (hr : RK X Γ os kws ts n) :
    RK X Γ os (⟨nm, e, kpos⟩ :: kws) (t :: ts) (SM.bind m fun x => SM.bind n fun y => SM.ret (x, y)) := by
  intro σ F M R H o W Q tk c w g q
  refine ⟨_, pk_cons (pe_best X e) (pk_best X kws), h σ F M R H o W _ tk c w g (q.bind.imp (fun x o1 z => ?_) fun _ _ z => z)⟩
  intro v F' M1 mm M' H' s w' p' g' r
  have e := it r; subst e
  have e := p'.emp_l; subst e
  refine hr σ F' _ R H' o1 W _ tk (c.mono s) w' g' (z.bind.imp (fun y o2 z => ?_) fun _ _ z => z.mono s)
  intro us F2 M2 H2 s2 w2 g2 r2
  exact z (v :: us) F2 M2 H2 (s.trans s2) w2 g2 ⟨v, us, rfl, t.mono r s2, r2⟩
theorem re_callK (xo : XOk X N sc B k) {nm : Str} {ps : List Str} {ts : List Ty} {tr : Ty} {fn : AT ts → Option (Except Exn tr.A)} {j : Nat} {kws : List Keyword} {m : SM (OT os) (AT ts)} (l : LkK X.md nm ps ts tr fn j) (g : Nat)
    (ha : RK X Γ os kws ts m) (hg : sc.names[g]? = some (nm, .globalImplicit) := by rfl) (hj : j ≤ k := by decide)
    (hall : (backToKw pos (keywordEach kws X.env)).all (·.1.isSome) = true := by rfl) (hks : (backToKw pos (keywordEach kws X.env)).filterMap (·.1) = ps := by rfl)
    (hpl : ((backTo pos (starEach [] X.env)).any (·.1) || (backToKw pos (keywordEach kws X.env)).any (·.1.isNone)) = false := by rfl) :
    RE X Γ os (.Call (.Name nm p) [] kws pos) tr (SM.bind m fun x => SM.lifx (fn x)) := by
  obtain ⟨f, fd, lf, bk⟩ := l
  intro σ F M R H o W Q tk c w gd h
  have pe : PE X (.Call (.Name nm p) [] kws pos) (fun σ' H' Q' => σ' = σ ∧ bestK X kws σ H' fun zs H1 => spP X.mg ts tr fn zs H1 Q' (WE W σ)) := by
    refine ⟨fun pins s σ' H' Q' I q => ?_⟩
    obtain ⟨rfl, q⟩ := q
    refine wpAny_Call_Name_kw (ld_glob I (xo.gl g nm hg) lf.mg ?_ (xo.db g nm _ hg).1)
    refine PySem.W.callWith_KW0 (h₀ := X.base) I.ok.mod.kin lf.kp hall ?_ hpl
    refine thn ((pk_best X kws).run pos pins s σ' H' _ I q) fun ws s2 ⟨zs, H2, I2, rz, q2⟩ => ⟨I2.kIn, ?_⟩
    rw [hks]
    have hl : ws.length = ps.length := by rw [← rz.length]; exact lf.ok.len _ _ _ _ q2
    refine wpAny_call (codeAny_mono (lf.ok.run X.A X.stack s2 H2 ⟨[], ps.zip ws⟩ ws zs Q' (WE W σ') (xo.room.mono hj) I2.env0 (bk s2 ws hl) rz q2) fun r s' hq => ?_)
    cases r with
    | error e => exact passAt tk σ' pins H2 s2 e s' I2 hq
    | ok fl =>
      cases fl with
      | ret u => exact I2.after hq
      | next => exact False.elim hq
      | brk => exact False.elim hq
      | cont => exact False.elim hq
  refine ⟨_, pe, rfl, ?_⟩
  refine ha σ F M R H o W _ tk c w gd (h.bind.imp (fun x o2 h2 => ?_) fun _ _ z => z)
  intro vs F2 M2 H2 s2 w2 g2 r2
  refine ⟨x, F2, M2, r2, g2, ?_⟩
  unfold SM.lifx at h2
  cases z : fn x with
  | none => rw [z] at h2; exact h2
  | some r =>
    rw [z] at h2
    cases r with
    | ok y => exact fun v F' mm M' H' s' p' g' r' => (show NormE os tr σ F R Q y o2 from h2) v F' M2 mm M' H' (s2.trans s') (w2.mono s') p' g' r'
    | error ex => exact fun cls d F' H' s' g' x' => (show ExcE X os σ F R W ex o2 from h2) cls d F' M2 H' (s2.trans s') (w2.mono s') g' x'
end
end Mi

namespace Mi
open PySem PySem.Spec PyProof.Rows L2
/-! ### one token is out -/
def PE1 (X : Cx) (e : Expr) (t : TE) : Prop :=
  ∀ (pins : List (Addr × Obj)) (s : Shared) (σ : L2.St) (H : Hp) (Q : VK), Inv X pins σ H s → t σ H Q → wpAny (model X.prog X.w) X.A (eval e X.env) (fun u s' => 1 ≤ s'.toks ∧ EP X pins σ Q u s') X.xe s
section
variable {X : Cx} {N : List Str} {sc : Scope} {B : List Str} {k : Nat} {Γ : Ctx} {os : Os} {pos p p1 p2 p3 cpos apos : Pos} {e a b : Expr} {es : List Expr} {rest : List Stmt} {t u : Ty}
def bestBT (X : Cx) (st : List Stmt) : TS := fun D σ H => ∃ t, PSsT X st t ∧ t D σ H
theorem psst_best (X : Cx) (st : List Stmt) : PSsT X st (bestBT X st) := fun pins s σ H D h0 I ⟨_, p, h⟩ => p pins s σ H D h0 I h
variable {G : FX} {L : LC} {β : Type} {Γn : β → Ctx} {osn : Os} {st : Stmt}
def RBT (X : Cx) (G : FX) (L : LC) (Γ : Ctx) (os : Os) (sts : List Stmt) {β : Type} (Γn : β → Ctx) (osn : Os) (m : OT os → OutT G L β osn) : Prop :=
  ∀ (σ : L2.St) (F M R H : Hp) (o : OT os) (W : WX) (D : Ends), Takes X W → CtxOk Γ σ F → OwnOk os o σ F M R → Good F M H → WantS X G L Γn osn σ F R W D (m o) → bestBT X sts D σ H
theorem rbt_of {m : OT os → OutT G L β osn} (h : RB X G L Γ os rest Γn osn m) : RBT X G L Γ os rest Γn osn m := fun σ F M R H o W D tk c w g q => ⟨_, PSsT.of (pss_best X rest), h σ F M R H o W D tk c w g q⟩
theorem rbt_cons {γ : Type} {Γm : γ → Ctx} {om : Os} {m1 : OT os → OutT G L γ om} {m2 : γ → OT om → OutT G L β osn} (h1 : RS X G L Γ os st Γm om m1) (h2 : ∀ b, RBT X G L (Γm b) om rest Γn osn (m2 b)) :
    RBT X G L Γ os (st :: rest) Γn osn (fun o => Out.bind (m1 o) m2) := by
  intro σ F M R H o W D tk c w g q
  refine ⟨_, psst_cons (PST.of (ps_best X st)) (psst_best X rest), ?_⟩
  refine h1 σ F M R H o W { D with nx := bestBT X rest D } tk c w g ?_
  have q' : WantS X G L Γn osn σ F R W D (Out.bind (m1 o) m2) := q
  cases z : m1 o with
  | none => rw [z] at q'; exact q'
  | some r =>
    rw [z] at q'
    cases r with
    | nxt n => exact fun σ' F' M' H' s k' c' w' g' => h2 n.1 σ' F' M' R H' n.2 W D tk c' w' g' (q'.mono s k')
    | brk n => exact q'
    | cnt n => exact q'
    | ret x p => exact q'
    | exc e p => exact q'
theorem rbt_asg (xo : XOk X N sc B k) (hS : OSub os G.ps) (i j : Nat) {nm : Str} {kd : NameKind} {me : SM (OT os) t.A} {kk : t.A → OT os → OutT G L β osn} (it : Imm t) (he : RE X Γ os e t me)
    (hk : ∀ x, RBT X G L (Γ.set i (some ⟨t, x⟩)) os rest Γn osn (kk x))
    (hj : sc.names[j]? = some (nm, kd) := by rfl) (hkd : locK kd = true := by rfl) (hN : N[i]? = some nm := by rfl) (hf : noSlot i os = true := by rfl) (hkp : G.kp.all (· != i) = true := by rfl)
    (hs : swapsWith e (some (.Name nm p)) pos.line X.env = pure false := by rfl) : RBT X G L Γ os (.Assign [.Name nm p] e pos :: rest) Γn osn (fun o => bindX hS (me o) kk) := by
  intro σ F M R H o W D tk c w g q
  obtain ⟨l1, l2⟩ := xo.lc j nm kd hj hkd
  refine ⟨_, psst_cons (PST.of (ps_set (i := i) xo.nd (by rw [xo.nN]; exact hN) l1 (pe_best X e) hs l2)) (psst_best X rest), ?_⟩
  refine he σ F M R H o W _ tk c w g (q.bindX.imp (fun x o1 z => ?_) fun _ _ z => z)
  intro v F' M1 mm M' H' s' w' p' g' r'
  have e := it r'; subst e
  have e := p'.emp_l; subst e
  exact hk x (σ.set i (some v)) F' _ R H' o1 W D tk ((c.mono s').set r') (w'.set hf) g' (z.mono s' (keep_set hkp))
/-- what one evaluates with a token out (or that lets one out), stored under a name; then with a token out -/
theorem pet_set {i : Nat} {y : Str} {te : TE} {u : TS} (hN : X.N.Nodup) (hi : X.N[i]? = some y) (hx : Loc X.env.scope y) (he : PET X e te) (h2 : PSsT X rest u) (hs : swapsWith e (some (.Name y p)) pos.line X.env = pure false)
    (hf : X.fn y = true ∨ X.env.scope.names.lookup y = some .local) : PSsT X (.Assign [.Name y p] e pos :: rest) (tSeq (tAsg te (gName i)) u) := by
  intro pins s σ H D h0 I h
  refine wpAny_execs_cons (wpAny_Assign_Name (wpAny_mono (PySem.wpAny_toks_of h0 (he pins s σ H _ h0 I h)) (fun v s1 q => ?_) fun _ _ z => z.2) hs)
  obtain ⟨hk, x, H1, I1, r1, q1⟩ := q
  refine wpAny_mono (PySem.wpAny_toks_of hk (store_ok (Q := fun _ s2 => Inv X pins (σ.set i (some x)) H1 s2) I1 hN hi hx r1 (fun _ I2 => I2) hf)) (fun _ s2 q => ?_) fun _ _ z => z.2
  exact h2 pins s2 _ H1 D q.1 q.2 q1
theorem pe1_set {i : Nat} {y : Str} {te : TE} {u : TS} (hN : X.N.Nodup) (hi : X.N[i]? = some y) (hx : Loc X.env.scope y) (he : PE1 X e te) (h2 : PSsT X rest u) (hs : swapsWith e (some (.Name y p)) pos.line X.env = pure false)
    (hf : X.fn y = true ∨ X.env.scope.names.lookup y = some .local) : PSs X (.Assign [.Name y p] e pos :: rest) (tSeq (tAsg te (gName i)) u) := by
  refine ⟨fun pins s σ H D I h => ?_⟩
  refine wpAny_execs_cons (wpAny_Assign_Name (wpAny_mono (he pins s σ H _ I h) (fun v s1 q => ?_) fun _ _ z => z) hs)
  obtain ⟨hk, x, H1, I1, r1, q1⟩ := q
  refine wpAny_mono (PySem.wpAny_toks_of hk (store_ok (Q := fun _ s2 => Inv X pins (σ.set i (some x)) H1 s2) I1 hN hi hx r1 (fun _ I2 => I2) hf)) (fun _ s2 q => ?_) fun _ _ z => z.2
  exact h2 pins s2 _ H1 D q.1 q.2 q1
def best1 (X : Cx) (e : Expr) : TE := fun σ H Q => ∃ t, PE1 X e t ∧ t σ H Q
theorem pe1_best (X : Cx) (e : Expr) : PE1 X e (best1 X e) := fun pins s σ H Q I ⟨_, p, h⟩ => p pins s σ H Q I h
def RE1 (X : Cx) (Γ : Ctx) (os : Os) (e : Expr) (t : Ty) (m : SM (OT os) t.A) : Prop :=
  ∀ (σ : L2.St) (F M R H : Hp) (o : OT os) (W : WX) (Q : VK), Takes X W → CtxOk Γ σ F → OwnOk os o σ F M R → Good F M H →
    Want (m o) (NormE os t σ F R Q) (ExcE X os σ F R W) → best1 X e σ H Q
/-- x = e; .., e lets a token out -/
theorem rb_asg1 (xo : XOk X N sc B k) (hS : OSub os G.ps) (i j : Nat) {nm : Str} {kd : NameKind} {me : SM (OT os) t.A} {kk : t.A → OT os → OutT G L β osn} (it : Imm t) (he : RE1 X Γ os e t me)
    (hk : ∀ x, RBT X G L (Γ.set i (some ⟨t, x⟩)) os rest Γn osn (kk x))
    (hj : sc.names[j]? = some (nm, kd) := by rfl) (hkd : locK kd = true := by rfl) (hN : N[i]? = some nm := by rfl) (hf : noSlot i os = true := by rfl) (hkp : G.kp.all (· != i) = true := by rfl)
    (hs : swapsWith e (some (.Name nm p)) pos.line X.env = pure false := by rfl) : RB X G L Γ os (.Assign [.Name nm p] e pos :: rest) Γn osn (fun o => bindX hS (me o) kk) := by
  intro σ F M R H o W D tk c w g q
  obtain ⟨l1, l2⟩ := xo.lc j nm kd hj hkd
  refine ⟨_, pe1_set (i := i) xo.nd (by rw [xo.nN]; exact hN) l1 (pe1_best X e) (psst_best X rest) hs l2, ?_⟩
  refine he σ F M R H o W _ tk c w g (q.bindX.imp (fun x o1 z => ?_) fun _ _ z => z)
  intro v F' M1 mm M' H' s' w' p' g' r'
  have e := it r'; subst e
  have e := p'.emp_l; subst e
  exact hk x (σ.set i (some v)) F' _ R H' o1 W D tk ((c.mono s').set r') (w'.set hf) g' (z.mono s' (keep_set hkp))
/-- f(b, C), b lent, C a written int: a token is out -/
theorem re1_callO (xo : XOk X N sc B k) {nm nb : Str} {ps : List Str} {t0 : Ty} {tr : Ty} {fn : t0.A → AT [tInt] → Option (Except Exn tr.A × t0.A)} {j i j1 : Nat} {kd : NameKind} {pb : Pos} {n : Int} (l : LkO X.md nm ps t0 [tInt] tr fn j) (g : Nat)
    (hm : OMem os i t0) (jb : Nat) (hjb : sc.names[jb]? = some (nb, kd) := by rfl) (hkb : visK kd = true := by rfl) (hN : N[i]? = some nb := by rfl)
    (hg : sc.names[g]? = some (nm, .globalImplicit) := by rfl) (hj : j ≤ k := by decide)
    (he : starEach [.Name nb pb, .Constant (.int n) j1 p1] X.env = (false, eval (.Name nb pb) X.env) :: starEach [.Constant (.int n) j1 p1] X.env := by rfl)
    (he2 : starEach [.Constant (.int n) j1 p1] X.env = (false, eval (.Constant (.int n) j1 p1) X.env) :: starEach [] X.env := by rfl)
    (hpl : (backTo pos (starEach [.Constant (.int n) j1 p1] X.env)).any (·.1) = false := by rfl) :
    RE1 X Γ os (.Call (.Name nm p) [.Name nb pb, .Constant (.int n) j1 p1] [] pos) tr (SM.callO hm fn (n, ())) := by
  obtain ⟨f, fd, lf⟩ := l
  intro σ F M R H o W Q tk c w gd h
  obtain ⟨v0, m0, M0, e0, r0, s0, up⟩ := hm.at w
  have pe : PE1 X (.Call (.Name nm p) [.Name nb pb, .Constant (.int n) j1 p1] [] pos) (fun σ' H' Q' => σ' = σ ∧ spO X.mg t0 [tInt] tr fn [v0, .int n] H' Q' (WE W σ)) := by
    intro pins s σ' H' Q' I q
    obtain ⟨rfl, q⟩ := q
    refine wpAny_Call_Name_kw (ld_glob I (xo.gl g nm hg) lf.mg ?_ (xo.db g nm _ hg).1)
    refine PySem.W.callWith_K (h₀ := X.base) I.ok.mod.kin lf.kp ?_ he hpl
    rw [he]
    show wpAny _ _ (spliced ((false, eval (.Name nb pb) X.env) :: backTo pos (starEach [.Constant (.int n) j1 p1] X.env))) _ _ s
    refine Calls.spliced_cons (thn ((pe_var (X := X) (pos := pb) (i := i) (by rw [xo.nN]; exact hN) (xo.vs jb nb kd hjb hkb) (xo.db jb nb kd hjb).1 (xo.db jb nb kd hjb).2.1).run pins s σ' H' (fun v H1 => v = v0 ∧ H1 = H') I ⟨v0, e0, rfl, rfl⟩) fun u s1 ⟨v, H1, I1, r1, ev, eh⟩ => ?_)
    subst ev eh
    rw [he2]
    show wpAny _ _ (spliced ((false, eval (.Constant (.int n) j1 p1) X.env) :: backTo pos (starEach [] X.env))) _ _ s1
    refine Calls.spliced_cons (wpAny_Constant_int (Calls.spliced_nil ⟨I1.kIn, ?_⟩))
    have rv : Vals [v, V.int n] [u, Value.int n s1.toks] := .cons r1 (.cons ⟨_, rfl⟩ .nil)
    exact PySem.wpAny_toks_of (n := 1) (Nat.succ_le_succ (Nat.zero_le _)) (run_fnSD (E := WE W) lf.ok (xo.room.mono hj) lf.bd .nil (passAt tk σ') (I1.tok (s1.toks + 1)) rv (by rw [List.append_nil]; exact q)) |> fun z => wpAny_mono z (fun _ _ y => y) fun _ _ y => y.2
  refine ⟨_, pe, rfl, ?_⟩
  refine ⟨v0, [.int n], hm.get o, (n, ()), F, m0, M0, M, rfl, r0, s0, ⟨.int n, [], rfl, ⟨rfl, rfl⟩, rfl⟩, gd, ?_⟩
  have h3 := h
  unfold SM.callO at h3
  cases z : fn (hm.get o) (n, ()) with
  | none => rw [z] at h3; exact h3
  | some r =>
    obtain ⟨r, y0⟩ := r
    rw [z] at h3
    cases r with
    | ok y => exact fun v F' m' M3 mm M' H' s' q' p1 p2 g' r' => (show NormE os tr σ F R Q y (hm.set y0 o) from h3) v F' M3 mm M' H' s' (up y0 m' M3 F' s' q' p1) p2 g' r'
    | error ex => exact fun cls d F' m' M3 H' s' q' p1 g' x' => (show ExcE X os σ F R W ex (hm.set y0 o) from h3) cls d F' M3 H' s' (up y0 m' M3 F' s' q' p1) g' x'
/-! ### text.replace(C, '') -/
theorem pet_rep {te : TE} {y z : Str} {j0 j1 : Nat} {c0 c1 : Pos} (he : PE X e te) (hyz : (y == z) = false)
    (hst : starEach [.Constant (.str y) j0 c0, .Constant (.str z) j1 c1] X.env = [(false, eval (.Constant (.str y) j0 c0) X.env), (false, eval (.Constant (.str z) j1 c1) X.env)])
    (hbase : attributeBase e "replace" X.env (eval e X.env) = eval e X.env) (hline : (apos.endLine == pos.line) = true) :
    PET X (.Call (.Attribute e "replace" apos) [.Constant (.str y) j0 c0, .Constant (.str z) j1 c1] [] pos) (fun σ H Q => te σ H fun x H1 => ∃ l, x = .str l ∧ l.length + (l.length + 1) * z.length ≤ 16777216 ∧ Q (.str (Txt.replace l y z)) H1) := by
  intro pins s σ H Q h0 I h
  refine PySem.Call_method2 hbase hst hline (wpAny_mono (PySem.wpAny_toks_of h0 (he.run pins s σ H _ I h)) (fun v s1 q => ?_) fun _ _ z => z.2)
  obtain ⟨hk, x, H1, I1, r1, l, ex, hb, q⟩ := q
  subst ex
  obtain ⟨tx, ev⟩ := r1
  subst ev
  refine ⟨"str", _, _root_.PySem.F.plainAttrs_str, _root_.PySem.F.slot_str_replace, _root_.PySem.F.type_str_replace, typeIs_str _ _ _, (fun _ e => nomatch e), Calls.callWith_builtin rfl (Calls.evalArgs_plain (Calls.spliced_cons ?_))⟩
  refine Calls.Constant_str (Calls.spliced_cons (Calls.Constant_str (Calls.spliced_nil ?_)))
  exact PySem.SC.replace (show s1.toks ≠ 0 by omega) (show s1.toks + 1 ≠ 0 by omega) (show s1.toks ≠ s1.toks + 1 by omega) hyz hb fun t' k => ⟨.str (Txt.replace l y z), H1, I1.tok k, ⟨t', rfl⟩, q⟩
theorem strike_of (l : List Nat) (c : Nat) : Txt.replace (sOf l) (sOf [c]) (sOf []) = sOf (l.filter (· != c)) := by
  have z := PyProof.Rows.replace_strikes (sOf l) c
  generalize e : Txt.replace (sOf l) (sOf [c]) (sOf []) = y
  have z' : y.cps.toList = l.filter (· != c) := by rw [← e]; exact z
  cases y with
  | mk a => show (⟨a⟩ : Str) = ⟨(l.filter (· != c)).toArray⟩; rw [← z']
/-- x = e.replace(C, ''); .. -/
theorem rbt_rep (xo : XOk X N sc B k) (hS : OSub os G.ps) (i j : Nat) {nm : Str} {kd : NameKind} {y : Str} {j0 j1 : Nat} {c0 c1 : Pos} {m : SM (OT os) (List Nat)} {kk : List Nat → OT os → OutT G L β osn} (c : Nat) (he : RE X Γ os e tStr m)
    (hk : ∀ x : List Nat, RBT X G L (Γ.set i (some ⟨tStr, x⟩)) os rest Γn osn (kk x)) (hy : y = sOf [c] := by rfl)
    (hj : sc.names[j]? = some (nm, kd) := by rfl) (hkd : locK kd = true := by rfl) (hN : N[i]? = some nm := by rfl) (hf : noSlot i os = true := by rfl) (hkp : G.kp.all (· != i) = true := by rfl)
    (hs : swapsWith (.Call (.Attribute e "replace" apos) [.Constant (.str y) j0 c0, .Constant (.str "") j1 c1] [] cpos) (some (.Name nm p)) pos.line X.env = pure false := by rfl)
    (hst : starEach [.Constant (.str y) j0 c0, .Constant (.str "") j1 c1] X.env = [(false, eval (.Constant (.str y) j0 c0) X.env), (false, eval (.Constant (.str "") j1 c1) X.env)] := by rfl)
    (hbase : attributeBase e "replace" X.env (eval e X.env) = eval e X.env := by rfl) (hline : (apos.endLine == cpos.line) = true := by rfl) :
    RBT X G L Γ os (.Assign [.Name nm p] (.Call (.Attribute e "replace" apos) [.Constant (.str y) j0 c0, .Constant (.str "") j1 c1] [] cpos) pos :: rest) Γn osn
      (fun o => bindX hS ((SM.bind m fun l => SM.lift (if l.length ≤ 16777216 then some (l.filter (· != c)) else none)) o) kk) := by
  intro σ F M R H o W D tk cc w g q
  obtain ⟨l1, l2⟩ := xo.lc j nm kd hj hkd
  have hyz : (y == ("" : Str)) = false := by
    subst hy
    rw [beq_eq_false_iff_ne]
    intro h
    have h2 : (#[c] : Array Nat) = #[] := congrArg Str.cps (show sOf [c] = sOf [] from h)
    simp at h2
  refine ⟨_, pet_set (i := i) xo.nd (by rw [xo.nN]; exact hN) l1 (pet_rep (pe_best X e) hyz hst hbase hline) (psst_best X rest) hs l2, ?_⟩
  refine one_end (ta := tStr) imF he tk cc w g q.bindX fun x o2 v F2 M2 H2 h2 s2 w2 g2 r1 => ?_
  obtain ⟨_, ev⟩ := r1
  unfold SM.lift at h2
  by_cases hl : x.length ≤ 16777216
  · rw [if_pos hl] at h2
    refine ⟨sOf x, ev, by show x.length + _ * 0 ≤ _; omega, ?_⟩
    have er : Txt.replace (sOf x) y "" = sOf (x.filter (· != c)) := by rw [hy]; exact strike_of x c
    rw [er]
    exact hk _ (σ.set i (some (.str (sOf (x.filter (· != c)))))) F2 M2 R H2 o2 W D tk ((cc.mono s2).set ⟨rfl, rfl⟩) (w2.set hf) g2 (WantS.mono h2 s2 (keep_set hkp))
  · rw [if_neg hl] at h2; exact h2.elim
end
end Mi

namespace Mi
open PySem PySem.Spec PyProof.Rows L2
section
variable {X : Cx} {N : List Str} {sc : Scope} {B : List Str} {k : Nat} {Γ : Ctx} {os : Os} {pos p p1 p2 p3 cpos apos : Pos} {e a b : Expr} {es : List Expr} {rest : List Stmt} {t u : Ty}
variable {G : FX} {L : LC} {β : Type} {Γn : β → Ctx} {osn : Os} {st : Stmt}
/-- what is never reached -/
theorem rs_fail : RS X G L Γ os st Γn osn (fun _ => none) := fun σ F M R H o W D tk c w g q => q.elim
/-! ### one text in another -/
def inS (x y : List Nat) : Bool := !(Builtin.Str.occurrences (sOf y) (sOf x) 0 (sOf y).length 1).isEmpty
theorem v_inS : VOp (fun x y H Q => ∃ i j, x = .str i ∧ y = .str j ∧ Q (.bl (!(Builtin.Str.occurrences j i 0 j.length 1).isEmpty)) H) tStr tStr tBool (fun x y => some (inS x y)) := by
  intro x y z v u F M H Q e ⟨_, rx⟩ ⟨_, ry⟩ g q
  cases e
  exact ⟨sOf x, sOf y, rx, ry, fl (gA := V.bl) q g⟩
theorem v_niS : VOp (fun x y H Q => ∃ i j, x = .str i ∧ y = .str j ∧ Q (.bl (!(!(Builtin.Str.occurrences j i 0 j.length 1).isEmpty))) H) tStr tStr tBool (fun x y => some (!inS x y)) := by
  intro x y z v u F M H Q e ⟨_, rx⟩ ⟨_, ry⟩ g q
  cases e
  exact ⟨sOf x, sOf y, rx, ry, fl (gA := V.bl) q g⟩
theorem re_inS {m n : SM (OT os) (List Nat)} (ha : RE X Γ os a tStr m) (hb : RE X Γ os b tStr n) (hm : behindInMarks .In b = false := by rfl) : RE X Γ os (.Compare a [.In] [b] pos) tBool (SM.bind m fun x => SM.bind n fun y => SM.lift (some (inS x y))) := re_cmp op_in_str v_inS imF imF ha hb hm
theorem re_niS {m n : SM (OT os) (List Nat)} (ha : RE X Γ os a tStr m) (hb : RE X Γ os b tStr n) (hm : behindInMarks .NotIn b = false := by rfl) : RE X Γ os (.Compare a [.NotIn] [b] pos) tBool (SM.bind m fun x => SM.bind n fun y => SM.lift (some (!inS x y))) := re_cmp op_notin_str v_niS imF imF ha hb hm
theorem inS_one (l : List Nat) (c : Nat) : inS [c] l = decide (c ∈ l) := SX.in_one l c
/-! ### comparisons as tests -/
theorem rt_lt {ma mb : SM (OT os) Int} (ha : RE X Γ os a tInt ma) (hb : RE X Γ os b tInt mb) : RT X Γ os (.Compare a [.Lt] [b] pos) (SM.bind ma fun x => SM.bind mb fun y => SM.lift (some (decide (x < y)))) := rt_cmp op_lt v_IB imF imF ha hb
theorem rt_le {ma mb : SM (OT os) Int} (ha : RE X Γ os a tInt ma) (hb : RE X Γ os b tInt mb) : RT X Γ os (.Compare a [.LtE] [b] pos) (SM.bind ma fun x => SM.bind mb fun y => SM.lift (some (decide (x ≤ y)))) := rt_cmp op_le v_IB imF imF ha hb
theorem rt_gt {ma mb : SM (OT os) Int} (ha : RE X Γ os a tInt ma) (hb : RE X Γ os b tInt mb) : RT X Γ os (.Compare a [.Gt] [b] pos) (SM.bind ma fun x => SM.bind mb fun y => SM.lift (some (decide (y < x)))) := rt_cmp op_gt v_IB imF imF ha hb
theorem rt_ge {ma mb : SM (OT os) Int} (ha : RE X Γ os a tInt ma) (hb : RE X Γ os b tInt mb) : RT X Γ os (.Compare a [.GtE] [b] pos) (SM.bind ma fun x => SM.bind mb fun y => SM.lift (some (decide (y ≤ x)))) := rt_cmp op_ge v_IB imF imF ha hb
theorem rt_eq {A : Type} {gA : A → V} [DecidableEq A] (s : Sca A gA) {ma mb : SM (OT os) A} (ha : RE X Γ os a (flat A gA) ma) (hb : RE X Γ os b (flat A gA) mb) : RT X Γ os (.Compare a [.Eq] [b] pos) (SM.bind ma fun x => SM.bind mb fun y => SM.lift (some (decide (x = y)))) := rt_cmp op_eq (v_eq s) imF imF ha hb
theorem rt_eq0 (xo : XOk X N sc B k) {m n : SM (OT os) (List Nat)} (ha : RE X Γ os a (tLst tChr) m) (hb : RE X Γ os (.List [] p) (tLst tChr) n) : RT X Γ os (.Compare a [.Eq] [.List [] p] pos) (SM.bind m fun x => SM.bind n fun y => SM.lift (if y = [] ∧ okC x = true then some (decide (x = [])) else none)) := rt_cmp (op_eqD (units_ok xo)) v_eq0 im_lst im_lst ha hb
theorem rt_ne {A : Type} {gA : A → V} [DecidableEq A] (s : Sca A gA) {ma mb : SM (OT os) A} (ha : RE X Γ os a (flat A gA) ma) (hb : RE X Γ os b (flat A gA) mb) : RT X Γ os (.Compare a [.NotEq] [b] pos) (SM.bind ma fun x => SM.bind mb fun y => SM.lift (some (!decide (x = y)))) := rt_cmp op_ne (v_ne s) imF imF ha hb
theorem rt_ne0 (xo : XOk X N sc B k) {m n : SM (OT os) (List Nat)} (ha : RE X Γ os a (tLst tChr) m) (hb : RE X Γ os (.List [] p) (tLst tChr) n) : RT X Γ os (.Compare a [.NotEq] [.List [] p] pos) (SM.bind m fun x => SM.bind n fun y => SM.lift (if y = [] ∧ okC x = true then some (!decide (x = [])) else none)) := rt_cmp (op_neD (units_ok xo)) v_ne0 im_lst im_lst ha hb
theorem rt_inC {m : SM (OT os) Nat} {n : SM (OT os) (List Nat)} (ha : RE X Γ os a tChr m) (hb : RE X Γ os b tStr n) (hm : behindInMarks .In b = false := by rfl) : RT X Γ os (.Compare a [.In] [b] pos) (SM.bind m fun x => SM.bind n fun y => SM.lift (some (decide (x ∈ y)))) := rt_cmp op_in_sign v_inC imF imF ha hb hm
theorem rt_inS {m n : SM (OT os) (List Nat)} (ha : RE X Γ os a tStr m) (hb : RE X Γ os b tStr n) (hm : behindInMarks .In b = false := by rfl) : RT X Γ os (.Compare a [.In] [b] pos) (SM.bind m fun x => SM.bind n fun y => SM.lift (some (inS x y))) := rt_cmp op_in_str v_inS imF imF ha hb hm
theorem rt_niC {m : SM (OT os) Nat} {n : SM (OT os) (List Nat)} (ha : RE X Γ os a tChr m) (hb : RE X Γ os b tStr n) (hm : behindInMarks .NotIn b = false := by rfl) : RT X Γ os (.Compare a [.NotIn] [b] pos) (SM.bind m fun x => SM.bind n fun y => SM.lift (some (!decide (x ∈ y)))) := rt_cmp op_notIn_sign v_niC imF imF ha hb hm
theorem rt_niS {m n : SM (OT os) (List Nat)} (ha : RE X Γ os a tStr m) (hb : RE X Γ os b tStr n) (hm : behindInMarks .NotIn b = false := by rfl) : RT X Γ os (.Compare a [.NotIn] [b] pos) (SM.bind m fun x => SM.bind n fun y => SM.lift (some (!inS x y))) := rt_cmp op_notin_str v_niS imF imF ha hb hm
end
end Mi

namespace Mi
open PySem PySem.Spec PyProof.Rows L2
theorem bindsK {K : PySem.W.Frag} {x qual : Str} {params : Arguments} {body : List Stmt} {scope : Scope} {kws : List (Str × V)} {f : Addr} {fd : FuncData} {ps : List Str} (F : FunD K x qual params body scope [] kws f fd)
    (h : ∀ (kV doc pm : Value) (an : Option Addr) (cdv ct : Value) (us : List Value), us.length = ps.length → bindArgs (PySem.W.fnOf x qual params body scope .none kV doc pm an cdv ct) ⟨[], ps.zip us⟩ = pure (ps.zip us)) (s : Shared) (us : List Value) (hl : us.length = ps.length) : BindsTo s fd ⟨[], ps.zip us⟩ (ps.zip us) := by
  obtain ⟨oc, od, dV, kV, doc, pm, an, cdv, ct, osl, rfl, lk, hcd, hD, hK⟩ := F.ex
  rcases hD with ⟨_, rfl⟩ | ⟨e, _⟩
  · exact .of_eq (h kV doc pm an cdv ct us hl)
  · exact absurd rfl e
/-- an exception's way out, of any world -/
def CXA : CXT := fun outer H s E u s' => ∃ P w, L2.CX P w outer H s E u s'
theorem any_world {P : Program} {w : World} {K : PySem.W.Frag} {mg : Str → Option Value} {base : Heap} {k : Nat} {f : Addr} {fd : FuncData} {ps : List Str} {sp : Sp} (F : FnOk P w K mg base (L2.CX P w) k f fd ps sp) : FnOk P w K mg base CXA k f fd ps sp := by
  refine ⟨F.len, fun A outer s H args us vs Q E hr he hb hv hs => codeAny_mono (F.run A outer s H args us vs Q E hr he hb hv hs) fun r s' h => ?_⟩
  cases r with
  | error e => exact ⟨P, w, h⟩
  | ok fl => cases fl <;> exact h
end Mi

namespace Mi
open PySem PySem.Spec PyProof.Rows L2
/-! ### plain laws of the mirrors -/
theorem at0 {a b c : Int} : atI [a, b, c] 0 = some a := rfl
theorem at1 {a b c : Int} : atI [a, b, c] 1 = some b := rfl
theorem at2 {a b c : Int} : atI [a, b, c] 2 = some c := rfl
theorem ix0 {a b c : Int} : ixN [a, b, c].length 0 = some 0 := rfl
theorem ix2 {a b c : Int} : ixN [a, b, c].length 2 = some 2 := rfl
theorem set0 {a b c d : Int} : [a, b, c].set 0 d = [d, b, c] := rfl
theorem set2 {a b c d : Int} : [a, b, c].set 2 d = [a, b, d] := rfl
theorem div_ok {x m : Int} (h0 : 0 < m) (h : m < 2 ^ 40) : CDivW x m := by
  refine ⟨h0, ?_⟩
  have h2 : m.natAbs < 2 ^ 40 := by omega
  by_cases hz : m.natAbs = 0
  · rw [hz]; decide
  · have := (Nat.log2_lt hz).mpr h2
    omega
theorem pow_ok {x j : Int} (h0 : 0 ≤ x) (h : x < 2 ^ 64) (hj : 0 ≤ j) (hk : j ≤ 1000000) : CPow x j := ⟨hj, hk, by omega⟩
theorem mul_ok {x y : Int} (h : -(2 ^ 64) < x ∧ x < 2 ^ 64) : CMul x y := .inl h
theorem mapS_pure {O A C : Type} {mt : A → SM O Bool} {me : A → SM O C} {p : A → Bool} {f : A → C} {o : O} : ∀ (xs : List A), (∀ x ∈ xs, mt x o = some (.ok (p x), o)) → (∀ x ∈ xs, p x = true → me x o = some (.ok (f x), o)) → mapS mt me xs o = some (.ok ((xs.filter p).map f), o)
  | [], _, _ => rfl
  | x :: xs, hp, hf => by
    have ih := mapS_pure xs (fun y hy => hp y (List.mem_cons_of_mem _ hy)) (fun y hy => hf y (List.mem_cons_of_mem _ hy))
    have e := hp x List.mem_cons_self
    cases hx : p x with
    | true =>
      have e2 := hf x List.mem_cons_self hx
      rw [hx] at e
      simp only [mapS, SM.bind, SM.ret, noX, e, e2, ih, if_true, List.filter_cons, hx, List.map_cons]
    | false =>
      rw [hx] at e
      simp only [mapS, SM.bind, SM.ret, noX, e, ih, Bool.false_eq_true, if_false, List.filter_cons, hx]
/-- all turns add an item -/
theorem mapS_all {O A C : Type} {mt : A → SM O Bool} {me : A → SM O C} {I : Nat → O → Prop} {R : C → Prop} (ht : ∀ x o, mt x o = some (.ok true, o)) : ∀ (xs : List A) (n : Nat) (o : O),
    (∀ x ∈ xs, ∀ k o, n ≤ k → k < n + xs.length → I k o → ∃ y o', me x o = some (.ok y, o') ∧ I (k + 1) o' ∧ R y) → I n o → ∃ ys o', mapS mt me xs o = some (.ok ys, o') ∧ I (n + xs.length) o' ∧ ys.length = xs.length ∧ ∀ y ∈ ys, R y
  | [], n, o, _, h => ⟨[], o, rfl, h, rfl, fun y hy => by cases hy⟩
  | x :: xs, n, o, hs, h => by
    obtain ⟨y, o1, e1, i1, r1⟩ := hs x List.mem_cons_self n o (Nat.le_refl _) (by rw [List.length_cons]; omega) h
    obtain ⟨ys, o2, e2, i2, l2, r2⟩ := mapS_all ht xs (n + 1) o1 (fun z hz k o hk hk2 => hs z (List.mem_cons_of_mem _ hz) k o (by omega) (by rw [List.length_cons]; omega)) i1
    refine ⟨y :: ys, o2, ?_, by rw [List.length_cons]; rwa [show n + (xs.length + 1) = n + 1 + xs.length by omega], by rw [List.length_cons, List.length_cons, l2], fun z hz => ?_⟩
    · simp only [mapS, SM.bind, SM.ret, noX, ht, e1, e2, if_true]
    · rcases List.mem_cons.mp hz with rfl | q
      · exact r1
      · exact r2 z q
theorem forS_inv {α β : Type} {G : FX} {L : LC} {os : Os} {body : α → β → OT os → Option (Out (β × OT os) (β × OT os) G.tr.A (OT G.ps))} {P : Nat → β → OT os → Prop} : ∀ (xs : List α) (n : Nat) (b : β) (o : OT os),
    (∀ x ∈ xs, ∀ k b o, n ≤ k → k < n + xs.length → P k b o → ∃ b' o', body x b o = some (.nxt (b', o')) ∧ P (k + 1) b' o') → P n b o → ∃ b' o', forS (L := L) body xs b o = some (.nxt (b', o')) ∧ P (n + xs.length) b' o'
  | [], n, b, o, _, h => ⟨b, o, rfl, h⟩
  | x :: xs, n, b, o, hs, h => by
    obtain ⟨b1, o1, e1, i1⟩ := hs x List.mem_cons_self n b o (Nat.le_refl _) (by rw [List.length_cons]; omega) h
    obtain ⟨b2, o2, e2, i2⟩ := forS_inv (L := L) xs (n + 1) b1 o1 (fun z hz k b o hk hk2 => hs z (List.mem_cons_of_mem _ hz) k b o (by omega) (by rw [List.length_cons]; omega)) i1
    refine ⟨b2, o2, ?_, by rw [List.length_cons]; rwa [show n + (xs.length + 1) = n + 1 + xs.length by omega]⟩
    show Out.turn (body x b o) (forS body xs) = _
    rw [e1]
    exact e2
/-- every turn leaves all as it was -/
theorem forS_same {α : Type} {G : FX} {L : LC} {os : Os} {body : α → Unit → OT os → Option (Out (Unit × OT os) (Unit × OT os) G.tr.A (OT G.ps))} {o : OT os} : ∀ (xs : List α), (∀ x ∈ xs, body x () o = some (.nxt ((), o))) → forS (L := L) body xs () o = some (.nxt ((), o))
  | [], _ => rfl
  | x :: xs, h => by
    show Out.turn (body x () o) (forS body xs) = _
    rw [h x List.mem_cons_self]
    exact forS_same xs fun y hy => h y (List.mem_cons_of_mem _ hy)
theorem small_len {α : Type} {l : List α} (h : l.length ≤ 16777216) : l.length ≤ sizeLine := by rw [sizeLine_eq]; exact h
theorem cnt_pos (l : List Nat) (c : Nat) : decide (0 < cntC l c) = decide (c ∈ l) := by
  have h1 := PySem.StrLaws.occ_head (sOf l) (sOf [c]) ((sOf l).length + 1) (by omega)
  have h2 := PySem.StrLaws.occ_head (sOf l) (sOf [c]) 1 (by omega)
  have h3 : (!(Builtin.Str.occurrences (sOf l) (sOf [c]) 0 (sOf l).length 1).isEmpty) = decide (c ∈ l) := SX.in_one l c
  have e : cntC l c = ((Builtin.Str.occurrences (sOf l) (sOf [c]) 0 (sOf l).length ((sOf l).length + 1)).length : Int) := rfl
  rw [← h3, e]
  rcases h1 with ⟨e1, n1⟩ | ⟨i, r, e1, a1, _⟩
  · rcases h2 with ⟨e2, n2⟩ | ⟨j, r2, e2, a2, _⟩
    · rw [e1, e2]; rfl
    · exact absurd a2 (n1 j)
  · rcases h2 with ⟨e2, n2⟩ | ⟨j, r2, e2, a2, _⟩
    · exact absurd a1 (n2 i)
    · rw [e1, e2]
      simp
end Mi

namespace Mi
open PySem PySem.Spec PyProof.Rows L2
/-! ### what a reading needs not -/
/-- leans on no frozen object -/
def Fl (t : Ty) : Prop := ∀ {x v F F' m}, t.rep x v F m → t.rep x v F' m
theorem fl_flat {A : Type} {g : A → V} : Fl (flat A g) := fun h => h
theorem allR_fl {t : Ty} (ft : Fl t) {F F' : Hp} : ∀ {xs : List t.A} {vs : List V}, AllR t xs vs F → AllR t xs vs F'
  | [], _, h => h
  | _ :: _, _, ⟨v, r, e, q, k⟩ => ⟨v, r, e, ft q, allR_fl ft k⟩
theorem fl_own {t : Ty} (ft : Fl t) : Fl (tOwn t) := fun ⟨a, vs, e, q, r⟩ => ⟨a, vs, e, q, allR_fl ft r⟩
def FlOs : Os → Prop
  | [] => True
  | p :: r => Fl p.2 ∧ FlOs r
theorem OwnOk.fl : ∀ {os : Os} {o : OT os} {σ : L2.St} {F F' M R : Hp}, FlOs os → OwnOk os o σ F M R → OwnOk os o σ F' M R
  | [], _, _, _, _, _, _, _, h => h
  | _ :: _, _, _, _, _, _, _, ⟨f, fr⟩, ⟨v, m, M', e, r, s, k⟩ => ⟨v, m, M', e, f r, s, k.fl fr⟩
/-! ### one of what is owned is taken out -/
inductive OSel : Os → Nat → Ty → Os → Type 1
  | here {i : Nat} {t : Ty} {r : Os} : OSel ((i, t) :: r) i t r
  | there {p : Nat × Ty} {i : Nat} {t : Ty} {r r' : Os} : OSel r i t r' → OSel (p :: r) i t (p :: r')
def OSel.get : {os os' : Os} → {i : Nat} → {t : Ty} → OSel os i t os' → OT os → t.A
  | _, _, _, _, .here, o => o.1
  | _, _, _, _, .there h, o => h.get o.2
def OSel.rest : {os os' : Os} → {i : Nat} → {t : Ty} → OSel os i t os' → OT os → OT os'
  | _, _, _, _, .here, o => o.2
  | _, _, _, _, .there h, o => (o.1, h.rest o.2)
def OSel.join : {os os' : Os} → {i : Nat} → {t : Ty} → OSel os i t os' → t.A → OT os' → OT os
  | _, _, _, _, .here, x, o => (x, o)
  | _, _, _, _, .there h, x, o => (o.1, h.join x o.2)
theorem OSel.own : ∀ {os os' : Os} {i : Nat} {t : Ty} (h : OSel os i t os') {o : OT os} {σ : L2.St} {F M R : Hp}, OwnOk os o σ F M R →
    ∃ v m M', σ[i]? = some (some v) ∧ t.rep (h.get o) v F m ∧ Sep m M' M ∧ OwnOk os' (h.rest o) σ F M' R
  | _, _, _, _, .here, _, _, _, _, _, ⟨v, m, M', e, r, s, k⟩ => ⟨v, m, M', e, r, s, k⟩
  | _, _, _, _, .there h, o, σ, F, M, R, ⟨v, m, M', e, r, s, k⟩ => by
    obtain ⟨v1, m1, M1, e1, r1, s1, k1⟩ := h.own k
    obtain ⟨G, g1, g2⟩ := s1.assoc s
    exact ⟨v1, m1, G, e1, r1, g2, v, m, M1, e, r, g1, k1⟩
theorem OSel.back : ∀ {os os' : Os} {i : Nat} {t : Ty} (h : OSel os i t os') {x : t.A} {o : OT os'} {σ : L2.St} {F M M' R m : Hp} {v : V}, σ[i]? = some (some v) → t.rep x v F m → Sep m M' M → OwnOk os' o σ F M' R → OwnOk os (h.join x o) σ F M R
  | _, _, _, _, .here, _, _, _, _, _, _, _, _, _, e, r, s, k => ⟨_, _, _, e, r, s, k⟩
  | _, _, _, _, .there h, x, o, σ, F, M, M', R, m, v, e, r, s, ⟨v1, m1, M1, e1, r1, s1, k1⟩ => by
    obtain ⟨G, g1, g2⟩ := s1.assoc s
    exact ⟨v1, m1, G, e1, r1, g2, h.back e r g1 k1⟩
theorem sep_mk {A B : Hp} (d : ∀ p, A p = none ∨ B p = none) : Sep A B (uni A B) := ⟨d, rfl⟩
section
variable {X : Cx} {N : List Str} {sc : Scope} {B : List Str} {k : Nat} {Γ : Ctx} {os os' : Os} {pos p p1 p2 p3 cpos apos : Pos} {e a b : Expr} {es : List Expr} {t u : Ty}
def SM.bor {os os' : Os} {i : Nat} {t0 : Ty} {A B : Type} (h : OSel os i t0 os') (f : t0.A → A) (m : A → SM (OT os') B) : SM (OT os) B := fun o => match m (f (h.get o)) (h.rest o) with
  | some (.ok y, o') => some (.ok y, h.join (h.get o) o')
  | _ => none
/-- what is borrowed stands among the frozen for a while -/
theorem bor_core {i : Nat} {t0 t1 : Ty} {f : t0.A → t1.A} (h : OSel os i t0 os') (z : Frz t0 t1 f) {σ : L2.St} {F M R H : Hp} {o : OT os} (c : CtxOk Γ σ F) (w : OwnOk os o σ F M R) (g : Good F M H) :
    ∃ m0 v M', t0.rep (h.get o) v F m0 ∧ σ[i]? = some (some v) ∧ (∀ q, m0 q = none ∨ F q = none) ∧ Sep m0 M' M ∧ CtxOk (Γ.set i (some ⟨t1, f (h.get o)⟩)) σ (uni m0 F) ∧ OwnOk os' (h.rest o) σ (uni m0 F) M' R ∧ Good (uni m0 F) M' H ∧ Sub F (uni m0 F) ∧ Sub m0 (uni m0 F) := by
  obtain ⟨v, m0, M', e0, r0, s0, w0⟩ := h.own w
  have d : ∀ q, m0 q = none ∨ F q = none := fun q => by
    rcases g.dis q with z | z
    · exact .inr z
    · exact .inl (s0.none z).1
  obtain ⟨g2, s2, s3⟩ := g.freeze s0
  refine ⟨m0, v, M', r0, e0, d, s0, ?_, w0.mono s2, g2, s2, s3⟩
  have c3 := (c.mono s2).set (i := i) (t := t1) (x := f (h.get o)) (v := v) (z r0 d)
  have e3 : σ.set i (some v) = σ := by
    apply List.ext_getElem?
    intro j
    by_cases hj : j = i
    · subst hj
      have hl : j < σ.length := (List.getElem?_eq_some_iff.mp e0).1
      rw [List.getElem?_set_self hl, e0]
    · rw [List.getElem?_set_ne (Ne.symm hj)]
  rw [e3] at c3
  exact c3
/-- .. and comes back -/
theorem bor_back {i : Nat} {t0 : Ty} (h : OSel os i t0 os') (f0 : Fl t0) (fo : FlOs os') {x : t0.A} {σ : L2.St} {F F2 m0 M0 M1 mm M2 R H2 : Hp} {v : V} {o' : OT os'} (r0 : t0.rep x v F m0) (e0 : σ[i]? = some (some v)) (d : ∀ q, m0 q = none ∨ F q = none)
    (s : Sub (uni m0 F) F2) (w : OwnOk os' o' σ F2 M1 R) (p : Sep mm M1 M2) (g : Good F2 M2 H2) (own : ∀ a u, m0 a = some u → ownO u) : Sub F (mns F2 m0) ∧ OwnOk os (h.join x o') σ (mns F2 m0) (uni m0 M1) R ∧ Sep mm (uni m0 M1) (uni m0 M2) ∧ Good (mns F2 m0) (uni m0 M2) H2 := by
  have d1 : ∀ q, m0 q = none ∨ M2 q = none := fun q => by
    cases e : m0 q with
    | none => exact .inl rfl
    | some o =>
      refine .inr ?_
      rcases g.dis q with z | z
      · rw [s q o (uni_l e)] at z; cases z
      · exact z
  have d2 : ∀ q, m0 q = none ∨ M1 q = none := fun q => (d1 q).imp id fun z => (p.none z).2
  have sF : Sub F F2 := (sub_uni d).trans s
  obtain ⟨sB, gB⟩ := g.back (sep_mk d1) sF (fun a u e => s a u (uni_l e)) d own
  refine ⟨sB, h.back e0 (t0.mono r0 sB) (sep_mk d2) (w.fl fo), ?_, gB⟩
  obtain ⟨G, g1, g2⟩ := p.assoc (sep_mk d1)
  have e : G = uni m0 M1 := g1.eq
  subst e
  exact g2
theorem re_bor {i : Nat} {t0 t1 : Ty} {f : t0.A → t1.A} {m : t1.A → SM (OT os') t.A} (h : OSel os i t0 os') (z : Frz t0 t1 f) (f0 : Fl t0) (fo : FlOs os') (ft : Fl t) (he : ∀ x, RE X (Γ.set i (some ⟨t1, x⟩)) os' e t (m x)) : RE X Γ os e t (SM.bor h f m) := by
  intro σ F M R H o W Q tk c w g q
  obtain ⟨m0, v, M', r0, e0, d, s0, c2, w2, g2, s2, s3⟩ := bor_core (Γ := Γ) h z c w g
  have q' := q
  unfold SM.bor at q'
  refine he _ σ (uni m0 F) M' R H (h.rest o) W Q tk c2 w2 g2 ?_
  cases r : m (f (h.get o)) (h.rest o) with
  | none => rw [r] at q'; exact q'.elim
  | some y =>
    obtain ⟨y, o1⟩ := y
    rw [r] at q'
    cases y with
    | error x => exact q'.elim
    | ok y =>
      intro v2 F2 M1 mm M2 H2 s4 w4 p4 g4 r4
      obtain ⟨b0, b1, b2, b3⟩ := bor_back h f0 fo (M0 := M') r0 e0 d s4 w4 p4 g4 fun a u e => g.nt a u (s0.l a u e)
      exact (show NormE os t σ F R Q y (h.join (h.get o) o1) from q') v2 _ _ mm _ H2 b0 b1 b2 b3 (ft r4)
theorem rt_bor {i : Nat} {t0 t1 : Ty} {f : t0.A → t1.A} {m : t1.A → SM (OT os') Bool} (h : OSel os i t0 os') (z : Frz t0 t1 f) (f0 : Fl t0) (fo : FlOs os') (he : ∀ x, RT X (Γ.set i (some ⟨t1, x⟩)) os' e (m x)) : RT X Γ os e (SM.bor h f m) := by
  intro σ F M R H o W Q tk c w g q
  obtain ⟨m0, v, M', r0, e0, d, s0, c2, w2, g2, s2, s3⟩ := bor_core (Γ := Γ) h z c w g
  have q' := q
  unfold SM.bor at q'
  refine he _ σ (uni m0 F) M' R H (h.rest o) W Q tk c2 w2 g2 ?_
  cases r : m (f (h.get o)) (h.rest o) with
  | none => rw [r] at q'; exact q'.elim
  | some y =>
    obtain ⟨y, o1⟩ := y
    rw [r] at q'
    cases y with
    | error x => exact q'.elim
    | ok y =>
      intro F2 M2 H2 s4 w4 g4
      obtain ⟨b0, b1, b2, b3⟩ := bor_back h f0 fo (M0 := M') r0 e0 d s4 w4 (sep_emp_l M2) g4 fun a u e => g.nt a u (s0.l a u e)
      exact (show NormT os σ F R Q y (h.join (h.get o) o1) from q') _ _ H2 b0 b1 b3
/-! ### dicts with texts as keys -/
def KvR (t : Ty) : List (List Nat × t.A) → List (Key × V) → Hp → Prop
  | [], kvs, _ => kvs = []
  | y :: r, kvs, F => ∃ v l, kvs = (.inr (sOf y.1), v) :: l ∧ t.rep y.2 v F emp ∧ KvR t r l F
theorem KvR.mono {t : Ty} : ∀ {xs : List (List Nat × t.A)} {kvs : List (Key × V)} {F F' : Hp}, KvR t xs kvs F → Sub F F' → KvR t xs kvs F'
  | [], _, _, _, h, _ => h
  | _ :: _, _, _, _, ⟨v, l, e, q, k⟩, s => ⟨v, l, e, t.mono q s, k.mono s⟩
theorem KvR.fl {t : Ty} (ft : Fl t) : ∀ {xs : List (List Nat × t.A)} {kvs : List (Key × V)} {F F' : Hp}, KvR t xs kvs F → KvR t xs kvs F'
  | [], _, _, _, h => h
  | _ :: _, _, _, _, ⟨v, l, e, q, k⟩ => ⟨v, l, e, ft q, KvR.fl ft k⟩
theorem KvR.length {t : Ty} : ∀ {xs : List (List Nat × t.A)} {kvs : List (Key × V)} {F : Hp}, KvR t xs kvs F → kvs.length = xs.length
  | [], kvs, _, h => by have h' : kvs = [] := h; rw [h'] <;> rfl
  | _ :: _, _, _, ⟨v, l, e, q, k⟩ => by rw [e, List.length_cons, List.length_cons, k.length]
theorem KvR.keys {t : Ty} : ∀ {xs : List (List Nat × t.A)} {kvs : List (Key × V)} {F : Hp}, KvR t xs kvs F → kvs.map (·.1) = xs.map fun y => Sum.inr (sOf y.1)
  | [], kvs, _, h => by have h' : kvs = [] := h; rw [h'] <;> rfl
  | _ :: _, _, _, ⟨v, l, e, q, k⟩ => by rw [e, List.map_cons, List.map_cons, k.keys]
theorem KvR.at {t : Ty} : ∀ {xs : List (List Nat × t.A)} {kvs : List (Key × V)} {F : Hp} {i : Nat} {y : List Nat × t.A}, KvR t xs kvs F → xs[i]? = some y → ∃ v, kvs[i]? = some (.inr (sOf y.1), v) ∧ t.rep y.2 v F emp
  | [], _, _, _, _, _, e => by simp at e
  | z :: xs, _, _, 0, y, ⟨v, r, e, q, k⟩, h => by subst e; simp at h; subst h; exact ⟨v, rfl, q⟩
  | z :: xs, _, _, i + 1, y, ⟨v, r, e, q, k⟩, h => by
    subst e
    obtain ⟨w, e1, e2⟩ := k.at (i := i) (y := y) (by simpa using h)
    exact ⟨w, by simpa using e1, e2⟩
def dget {A : Type} (k : List Nat) : List (List Nat × A) → Option A
  | [] => none
  | y :: r => if y.1 = k then some y.2 else dget k r
def dhas {A : Type} (k : List Nat) (xs : List (List Nat × A)) : Bool := (dget k xs).isSome
def dput {A : Type} (k : List Nat) (x : A) (xs : List (List Nat × A)) : List (List Nat × A) := if dhas k xs = true then xs.map fun y => if y.1 = k then (y.1, x) else y else xs ++ [(k, x)]
theorem key_eq {k l : List Nat} : ((Sum.inr (sOf k) : Key) = Sum.inr (sOf l)) ↔ k = l := ⟨fun h => sOf_inj (Sum.inr.inj h), fun h => by rw [h]⟩
theorem KvR.val {t : Ty} {k : List Nat} : ∀ {xs : List (List Nat × t.A)} {kvs : List (Key × V)} {F : Hp}, KvR t xs kvs F →
    match dget k xs with
    | some x => ∃ v, valV kvs (.inr (sOf k)) = some v ∧ t.rep x v F emp
    | none => valV kvs (.inr (sOf k)) = none
  | [], kvs, _, h => by have h' : kvs = [] := h; subst h'; exact valV_nil
  | y :: r, _, F, ⟨v, l, e, q, k'⟩ => by
    subst e
    unfold dget
    by_cases hk : y.1 = k
    · rw [if_pos hk]
      exact ⟨v, valV_pos (p := ((.inr (sOf y.1) : Key), v)) (by rw [hk]), q⟩
    · rw [if_neg hk]
      have e2 : valV (((.inr (sOf y.1) : Key), v) :: l) (.inr (sOf k)) = valV l (.inr (sOf k)) := valV_neg (p := ((.inr (sOf y.1) : Key), v)) (fun h => hk (key_eq.mp h))
      have ih := KvR.val (k := k) k'
      cases hd : dget k r with
      | none => rw [hd] at ih; exact e2.trans ih
      | some x => rw [hd] at ih; obtain ⟨w, w1, w2⟩ := ih; exact ⟨w, e2.trans w1, w2⟩
theorem KvR.has {t : Ty} {k : List Nat} {xs : List (List Nat × t.A)} {kvs : List (Key × V)} {F : Hp} (h : KvR t xs kvs F) : (valV kvs (.inr (sOf k))).isSome = dhas k xs := by
  have z := h.val (k := k)
  unfold dhas
  cases hd : dget k xs with
  | none => rw [hd] at z; rw [z] <;> rfl
  | some x => rw [hd] at z; obtain ⟨v, e, _⟩ := z; rw [e] <;> rfl
end
end Mi

namespace Mi
open PySem PySem.Spec PyProof.Rows L2
theorem KvR.snoc {t : Ty} {k : List Nat} {x : t.A} {v : V} {F : Hp} (r : t.rep x v F emp) : ∀ {xs : List (List Nat × t.A)} {kvs : List (Key × V)}, KvR t xs kvs F → KvR t (xs ++ [(k, x)]) (kvs ++ [(.inr (sOf k), v)]) F
  | [], kvs, h => by have h' : kvs = [] := h; subst h'; exact ⟨v, [], rfl, r, rfl⟩
  | _ :: _, _, ⟨w, l, e, q, k'⟩ => by subst e; exact ⟨w, _, rfl, q, k'.snoc r⟩
theorem KvR.repl {t : Ty} {k : List Nat} {x : t.A} {v : V} {F : Hp} (r : t.rep x v F emp) : ∀ {xs : List (List Nat × t.A)} {kvs : List (Key × V)}, KvR t xs kvs F →
    KvR t (xs.map fun y => if y.1 = k then (y.1, x) else y) (kvs.map fun kv => if kv.1 = (.inr (sOf k) : Key) then (kv.1, v) else kv) F
  | [], kvs, h => by have h' : kvs = [] := h; subst h'; exact rfl
  | y :: _, _, ⟨w, l, e, q, k'⟩ => by
    subst e
    rw [List.map_cons, List.map_cons]
    by_cases hk : y.1 = k
    · rw [if_pos hk, if_pos (show (.inr (sOf y.1) : Key) = .inr (sOf k) by rw [hk])]
      exact ⟨v, _, rfl, r, k'.repl r⟩
    · rw [if_neg hk, if_neg (fun h => hk (key_eq.mp h))]
      exact ⟨w, _, rfl, q, k'.repl r⟩
theorem valV_any' {kvs : List (Key × V)} {k : Key} : (kvs.any fun kv => decide (kv.1 = k)) = (valV kvs k).isSome := valV_any k kvs
theorem KvR.put {t : Ty} {k : List Nat} {x : t.A} {v : V} {F : Hp} {xs : List (List Nat × t.A)} {kvs : List (Key × V)} (h : KvR t xs kvs F) (r : t.rep x v F emp) : KvR t (dput k x xs) (putK kvs (.inr (sOf k)) v) F := by
  unfold dput putK
  rw [valV_any', h.has]
  by_cases hk : dhas k xs = true
  · rw [if_pos hk, if_pos hk]; exact h.repl r
  · rw [if_neg hk, if_neg hk]; exact h.snoc r
/-- a dict that is read (it may be ours) -/
abbrev tDct (t : Ty) : Ty := imTy (List (List Nat × t.A)) (fun xs v F => ∃ a kvs, v = .ref a ∧ Rd F a (.dK kvs) ∧ KvR t xs kvs F) fun ⟨a, kvs, e, q, r⟩ s => ⟨a, kvs, e, q.imp (s _ _) fun ⟨o, h⟩ => ⟨o, s _ _ h⟩, r.mono s⟩
/-- a dict that stays as it is -/
abbrev tDctL (t : Ty) : Ty := imTy (List (List Nat × t.A)) (fun xs v F => ∃ a o kvs, v = .ref a ∧ F a = some (.frz o (.dK kvs)) ∧ KvR t xs kvs F) fun ⟨a, o, kvs, e, q, r⟩ s => ⟨a, o, kvs, e, s _ _ q, r.mono s⟩
abbrev tOwnD (t : Ty) : Ty := ⟨List (List Nat × t.A), fun xs v F m => ∃ a kvs, v = .ref a ∧ m = sing a (.dK kvs) ∧ KvR t xs kvs F, fun ⟨a, kvs, e, q, r⟩ s => ⟨a, kvs, e, q, r.mono s⟩⟩
theorem im_dct {t : Ty} : Imm (tDct t) := fun a => a.1
theorem im_dctL {t : Ty} : Imm (tDctL t) := fun a => a.1
theorem fl_ownD {t : Ty} (ft : Fl t) : Fl (tOwnD t) := fun ⟨a, kvs, e, q, r⟩ => ⟨a, kvs, e, q, r.fl ft⟩
theorem cv_dctL {t : Ty} : Cv (tDctL t) (tDct t) id := fun ⟨e, a, o, kvs, ev, fa, r⟩ => ⟨e, a, kvs, ev, .inr ⟨o, fa⟩, r⟩
theorem frz_ownD {t : Ty} : Frz (tOwnD t) (tDct t) id := fun {x v F m} ⟨a, kvs, e, q, r⟩ d => by
  subst q
  exact ⟨rfl, a, kvs, e, .inl (uni_l sing_same), r.mono (sub_uni d)⟩
section
variable {X : Cx} {N : List Str} {sc : Scope} {B : List Str} {k : Nat} {Γ : Ctx} {os os' : Os} {pos p p1 p2 p3 cpos apos : Pos} {e a b : Expr} {es : List Expr} {t u : Ty}
theorem best_lock {σ : L2.St} {H : Hp} {Q : VK} (h : best X e σ H fun v H' => ∃ a u, v = .ref a ∧ H' a = some u ∧ Mut (some u) ∧ ∀ od, Q v (upd H' a (.frz od u))) : best X e σ H Q := by
  refine ⟨fun σ H Q => best X e σ H fun v H' => ∃ a u, v = .ref a ∧ H' a = some u ∧ Mut (some u) ∧ ∀ od, Q v (upd H' a (.frz od u)), ⟨fun pins s σ H Q I h => ?_⟩, h⟩
  refine thn ((pe_best X e).run pins s σ H _ I h) fun v s1 ⟨x, H1, I1, r1, a, u, ex, ha, mu, q⟩ => ?_
  obtain ⟨od, I2⟩ := I1.lock ha mu
  exact ⟨x, _, I2, r1, q od⟩
theorem Good.lock {F M1 M H : Hp} {a : Addr} {u u' : HO} (g : Good F M H) (s : Sep (sing a u) M1 M) (n : noTbl u' := by exact fun _ e => nomatch e) : Good (upd F a u') M1 (upd H a u') ∧ Sub F (upd F a u') := by
  have hM : M a = some u := s.l a u sing_same
  have hM1 : M1 a = none := by
    rcases s.dis a with e | e
    · rw [sing_same] at e; cases e
    · exact e
  have hF : F a = none := by
    rcases g.dis a with e | e
    · exact e
    · rw [hM] at e; cases e
  refine ⟨⟨fun b o e => ?_, fun b o e => ?_, fun b => ?_, fun b o e => g.nt b o (s.r b o e)⟩, sub_upd hF⟩
  · by_cases q : b = a
    · subst q; rw [upd_same] at e; cases e; exact HF.of upd_same n
    · rw [upd_ne q] at e; exact (g.f b o e).up (sub_upd hF) (upd_ne q)
  · have q : b ≠ a := ne_of_none e hM1
    rw [upd_ne q]; exact g.m b o (s.r b o e)
  · by_cases q : b = a
    · subst q; exact .inr hM1
    · rw [upd_ne q]
      rcases g.dis b with e | e
      · exact .inl e
      · exact .inr (s.none e).2
/-- ours stays as it is from now on -/
theorem re_frzD {m : SM (OT os) (List (List Nat × t.A))} (h : RE X Γ os e (tOwnD t) m) : RE X Γ os e (tDctL t) m := by
  intro σ F M R H o W Q tk c w g q
  refine best_lock (h σ F M R H o W _ tk c w g (q.imp (fun x o1 z => ?_) fun _ _ z => z))
  intro v F' M1 mm M' H' s w' p' g' ⟨a, kvs, ev, em, r⟩
  subst em
  refine ⟨a, .dK kvs, ev, g'.m _ _ (p'.l _ _ sing_same), True.intro, fun od => ?_⟩
  obtain ⟨g2, s2⟩ := g'.lock (u' := .frz od (.dK kvs)) p'
  exact (show NormE os (tDctL t) σ F R Q x o1 from z) v _ M1 emp M1 _ (s.trans s2) (w'.mono s2) (sep_emp_l M1) g2 ⟨rfl, a, od, kvs, ev, upd_same, r.mono s2⟩
theorem re_dnew : RE X Γ os (.Dict [] [] pos) (tOwnD t) (SM.ret []) := by
  intro σ F M R H o W Q tk c w g h
  refine ⟨_, pe_dnewK, fun p hp => ?_⟩
  obtain ⟨g2, s2⟩ := g.newM (o := .dK []) hp
  exact (show NormE os (tOwnD t) σ F R Q [] o from h) (.ref p) F M _ _ _ (.refl F) w s2 g2 ⟨p, [], rfl, rfl, rfl⟩
theorem hu1 (xo : XOk X N sc B k) : X.A.units + 1 < cLine := by have h := xo.room.un; omega
/-! ### reading -/
theorem re_ixD (xo : XOk X N sc B k) {m : SM (OT os) (List (List Nat × t.A))} {n : SM (OT os) (List Nat)} (it : Imm t) (ha : RE X Γ os a (tDct t) m) (hb : RE X Γ os b tStr n) (hs : NoSl b := by exact fun _ _ => rfl) :
    RE X Γ os (.Subscript a b pos) t (SM.bind m fun x => SM.bind n fun y => SM.lift (dget y x)) := by
  intro σ F M R H o W Q tk c w g h
  refine ⟨_, pe_dget (hu1 xo) (pe_best X a) (pe_best X b) hs, ?_⟩
  refine two_ends (ta := tDct t) (tb := tStr) im_dct imF ha hb tk c w g h fun x y o2 v u F2 M2 H2 h2 s2 w2 g2 r1 r2 => lift_fin h2 s2 w2 fun z e q => ?_
  obtain ⟨_, a, kvs, ev, fa, rk⟩ := r1
  obtain ⟨_, ey⟩ := r2
  have z1 := rk.val (k := y)
  rw [e] at z1
  obtain ⟨w, w1, w2'⟩ := z1
  refine ⟨a, w, ev, .inl ⟨kvs, .inr (sOf y), rd_good g2 fa, ey, w1.symm⟩, ?_⟩
  have e := it w2'
  exact q w F2 emp M2 H2 (.refl F2) (sep_emp_l M2) g2 w2'
theorem op_inD (hu : X.A.units + 1 < cLine) : OpR X (compareOp .In) (fun x y H Q => ∃ a o, y = .ref a ∧ DGet H a x o ∧ Q (.bl o.isSome) H) := by
  intro pins s σ H x y v u Q I rx ry h
  obtain ⟨a, o, ey, g, q⟩ := h
  subst ey
  obtain rfl : u = Value.ref a := ry
  exact d_in hu I g rx fun s3 I3 => ⟨.bl o.isSome, H, I3, rfl, q⟩
theorem op_niD (hu : X.A.units + 1 < cLine) : OpR X (compareOp .NotIn) (fun x y H Q => ∃ a o, y = .ref a ∧ DGet H a x o ∧ Q (.bl (!o.isSome)) H) := by
  intro pins s σ H x y v u Q I rx ry h
  obtain ⟨a, o, ey, g, q⟩ := h
  subst ey
  obtain rfl : u = Value.ref a := ry
  exact d_notIn hu I g rx fun s3 I3 => ⟨.bl (!o.isSome), H, I3, rfl, q⟩
theorem v_inD : VOp (fun x y H Q => ∃ a o, y = .ref a ∧ DGet H a x o ∧ Q (.bl o.isSome) H) tStr (tDct t) tBool (fun x y => some (dhas x y)) := by
  intro x y z v u F M H Q e ⟨_, rx⟩ ⟨_, a, kvs, ev, fa, rk⟩ g q
  cases e
  refine ⟨a, _, ev, .inl ⟨kvs, .inr (sOf x), rd_good g fa, rx, rfl⟩, ?_⟩
  rw [rk.has]
  exact fl (gA := V.bl) q g
theorem v_niD : VOp (fun x y H Q => ∃ a o, y = .ref a ∧ DGet H a x o ∧ Q (.bl (!o.isSome)) H) tStr (tDct t) tBool (fun x y => some (!dhas x y)) := by
  intro x y z v u F M H Q e ⟨_, rx⟩ ⟨_, a, kvs, ev, fa, rk⟩ g q
  cases e
  refine ⟨a, _, ev, .inl ⟨kvs, .inr (sOf x), rd_good g fa, rx, rfl⟩, ?_⟩
  rw [rk.has]
  exact fl (gA := V.bl) q g
theorem re_inD (xo : XOk X N sc B k) {m : SM (OT os) (List Nat)} {n : SM (OT os) (List (List Nat × t.A))} (ha : RE X Γ os a tStr m) (hb : RE X Γ os b (tDct t) n) (hm : behindInMarks .In b = false := by rfl) : RE X Γ os (.Compare a [.In] [b] pos) tBool (SM.bind m fun x => SM.bind n fun y => SM.lift (some (dhas x y))) := re_cmp (op_inD (hu1 xo)) v_inD imF im_dct ha hb hm
theorem re_niD (xo : XOk X N sc B k) {m : SM (OT os) (List Nat)} {n : SM (OT os) (List (List Nat × t.A))} (ha : RE X Γ os a tStr m) (hb : RE X Γ os b (tDct t) n) (hm : behindInMarks .NotIn b = false := by rfl) : RE X Γ os (.Compare a [.NotIn] [b] pos) tBool (SM.bind m fun x => SM.bind n fun y => SM.lift (some (!dhas x y))) := re_cmp (op_niD (hu1 xo)) v_niD imF im_dct ha hb hm
theorem rt_inD (xo : XOk X N sc B k) {m : SM (OT os) (List Nat)} {n : SM (OT os) (List (List Nat × t.A))} (ha : RE X Γ os a tStr m) (hb : RE X Γ os b (tDct t) n) (hm : behindInMarks .In b = false := by rfl) : RT X Γ os (.Compare a [.In] [b] pos) (SM.bind m fun x => SM.bind n fun y => SM.lift (some (dhas x y))) := rt_cmp (op_inD (hu1 xo)) v_inD imF im_dct ha hb hm
theorem rt_niD (xo : XOk X N sc B k) {m : SM (OT os) (List Nat)} {n : SM (OT os) (List (List Nat × t.A))} (ha : RE X Γ os a tStr m) (hb : RE X Γ os b (tDct t) n) (hm : behindInMarks .NotIn b = false := by rfl) : RT X Γ os (.Compare a [.NotIn] [b] pos) (SM.bind m fun x => SM.bind n fun y => SM.lift (some (!dhas x y))) := rt_cmp (op_niD (hu1 xo)) v_niD imF im_dct ha hb hm
/-- len(d) -/
theorem call_lenRd : CallR X (.builtin "len") (fun xs H Q => ∃ a kvs, xs = [V.ref a] ∧ Rd H a (.dK kvs) ∧ Q (.int kvs.length) H) := by
  intro pins s σ H xs us Q I r h
  obtain ⟨a, kvs, rfl, ha, q⟩ := h
  obtain ⟨u, rfl, ru⟩ := vals1 r
  cases ru
  exact d_len I ha fun t s' I' => ⟨.int kvs.length, H, I', ⟨t, rfl⟩, q⟩
theorem re_lenD (xo : XOk X N sc B k) {m : SM (OT os) (AT [tDct t])} (ga ma : Nat) (ha : RA X Γ os [e] [tDct t] m) (hg : sc.names[ga]? = some (gI "len") := by rfl) (hm : B[ma]? = some "len" := by rfl)
    (he : starEach [e] X.env = (false, eval e X.env) :: starEach [] X.env := by rfl) :
    RE X Γ os (.Call (.Name "len" p) [e] [] pos) tInt (SM.bind m fun x => SM.lift (some (x.1.length : Int))) := by
  refine re_callB (ts := [tDct t]) (tc := tInt) (f := fun x => some (x.1.length : Int)) call_lenRd (fun {x z vs F M H Q} e h g q => ?_) (xo.gl ga _ hg) (xo.fr ma _ hm) boot_len ha (by decide) (by decide) he rfl
  obtain ⟨v, us, e1, ⟨_, a, kvs, ea, fa, r⟩, e2⟩ := h
  have e2' : us = [] := e2
  subst e2' e1 ea
  cases e
  refine ⟨a, kvs, rfl, rd_good g fa, ?_⟩
  rw [r.length]
  exact fl (gA := V.int) q g
/-- list(d) -/
theorem allR_keys {F : Hp} : ∀ {xs : List (List Nat × t.A)} {kvs : List (Key × V)}, KvR t xs kvs F → AllR tStr (xs.map (·.1)) (kvs.map fun kv => kV kv.1) F
  | [], kvs, h => by have h' : kvs = [] := h; subst h'; exact rfl
  | y :: _, _, ⟨w, l, e, q, k'⟩ => by subst e; exact ⟨_, _, rfl, ⟨rfl, rfl⟩, allR_keys k'⟩
theorem re_listD (xo : XOk X N sc B k) {m : SM (OT os) (AT [tDct t])} (ga ma : Nat) (ha : RA X Γ os [e] [tDct t] m) (hg : sc.names[ga]? = some (gI "list") := by rfl) (hm : B[ma]? = some "list" := by rfl)
    (he : starEach [e] X.env = (false, eval e X.env) :: starEach [] X.env := by rfl) :
    RE X Γ os (.Call (.Name "list" p) [e] [] pos) (tOwn tStr) (SM.bind m fun x => SM.lift (some (x.1.map (·.1)))) := by
  refine re_callTy (ts := [tDct t]) (tc := tOwn tStr) (f := fun x => some (x.1.map (·.1))) (call_listD xo.calm) (fun {x z vs F M H Q} e h g q => ?_) (xo.gl ga _ hg) (xo.fr ma _ hm) boot_list ha (by decide) (by decide) he rfl
  obtain ⟨v, us, e1, ⟨_, a, kvs, ea, fa, r⟩, e2⟩ := h
  have e2' : us = [] := e2
  subst e2' e1 ea
  cases e
  refine ⟨a, kvs, rfl, rd_good g fa, fun p hp => ?_⟩
  obtain ⟨g2, s2⟩ := g.newM (o := .lst (kvs.map fun kv => kV kv.1)) hp
  exact q (.ref p) F _ _ _ (.refl F) s2 g2 ⟨p, _, rfl, rfl, allR_keys r⟩
/-- for k in d -/
theorem ri_dctL {tg : Expr} {m : SM (OT os) (List (List Nat × t.A))} (h : RE X Γ os e (tDctL t) m) : RI X Γ os tg e tStr (SM.bind m fun x => SM.ret (x.map (·.1))) := by
  intro σ F M R H o W K tk c w g q
  refine ⟨_, pi_keys (pe_best X e), h σ F M R H o W _ tk c w g (q.bind.imp (fun xs o1 z => ?_) fun _ _ z => z)⟩
  intro v F' M1 mm M' H' s w' p' g' ⟨e1, a, od, kvs, ea, fa, r⟩
  subst e1
  have e := p'.emp_l; subst e
  refine ⟨a, od, ea, .inl ⟨kvs, g'.f _ _ fa, (show NormI os tStr σ F R K (xs.map (·.1)) o1 from z) _ F' _ H' s w' g' fun F2 M2 H2 s2 g2 i => ?_⟩⟩
  have ha : H2 a = some (.frz od (.dK kvs)) := g2.f _ _ (s2 _ _ fa)
  rw [List.length_map, ← r.length]
  refine ⟨fun hi => ⟨ha, hi⟩, fun x hx => ?_⟩
  rw [List.getElem?_map] at hx
  obtain ⟨y, hy, ey⟩ := Option.map_eq_some_iff.mp hx
  obtain ⟨w1, e1, e2⟩ := r.at hy
  refine ⟨⟨ha, (List.getElem?_eq_some_iff.mp e1).1⟩, fun v' H3 ⟨h3, k3, v3, hk, hv⟩ => ?_⟩
  subst h3
  rw [e1] at hk
  cases hk
  subst ey hv
  exact ⟨F2, .refl F2, g2, rfl, rfl⟩
variable {G : FX} {L : LC} {β : Type} {Γn : β → Ctx} {osn : Os} {rest : List Stmt}
/-- d[k] = e -/
theorem rb_setD (xo : XOk X N sc B k) (hS : OSub os G.ps) {i : Nat} (h : OMem os i (tOwnD t)) (jn : Nat) {nm : Str} {kd : NameKind} {me : SM (OT os) t.A} {mi : SM (OT os) (List Nat)} {kk : OT os → OutT G L β osn} (it : Imm t) (he : RE X Γ os e t me) (hi : RE X Γ os a tStr mi) (hk : RB X G L Γ os rest Γn osn kk)
    (hjb : sc.names[jn]? = some (nm, kd) := by rfl) (hkb : visK kd = true := by rfl) (hN : N[i]? = some nm := by rfl)
    (hs : swapsWithSole [.Subscript (.Name nm p) a p2] e pos.line X.env = pure false := by rfl) (hw : swappedStores [.Subscript (.Name nm p) a p2] e X.env = pure none := by rfl)
    (h1 : (assignEach [.Subscript (.Name nm p) a p2] X.env).map (·.2) = [assign (.Subscript (.Name nm p) a p2) X.env] := by rfl)
    (ha : ∀ v, assign (.Subscript (.Name nm p) a p2) X.env v = (do
      let ov ← holding [v] (eval (.Name nm p) X.env)
      let iv ← holding [v, ov] (eval a X.env)
      standAt p2
      holding [v, ov, iv] (setItem ov iv v)
      release [v, ov, iv] []) := by intro _; rfl) :
    RB X G L Γ os (.Assign [.Subscript (.Name nm p) a p2] e pos :: rest) Γn osn (fun o => bindX hS (me o) fun x o => bindX hS (mi o) fun y o => if (h.get o).length < sizeLine then kk (h.set (dput y x (h.get o)) o) else none) := by
  intro σ F M R H o W D tk c w g q
  refine ⟨_, pss_cons (ps_asg (pe_best X e) (pg_sub (pe_var (by rw [xo.nN]; exact hN) (xo.vs jn nm kd hjb hkb) (xo.db jn nm kd hjb).1 (xo.db jn nm kd hjb).2.1) (pe_best X a) (set_dict (hu1 xo)) ha) hs hw h1) (pss_best X rest), ?_⟩
  refine he σ F M R H o W _ tk c w g (q.bindX.imp (fun x o1 z => ?_) fun _ _ z => z)
  intro v F1 M1 mm M1' H1 s1 w1 p1 g1 r1
  have e := it r1; subst e
  have e := p1.emp_l; subst e
  obtain ⟨v0, m0, M0, e0, r0, s0, _⟩ := h.at w1
  refine ⟨v0, e0, ?_⟩
  refine hi σ F1 _ R H1 o1 W _ tk (c.mono s1) w1 g1 ((WantS.bindX z).imp (fun y o2 z2 => ?_) fun _ _ z => z.mono s1)
  intro v' F2 M2 mm2 M2' H2 s2 w2 p2 g2 r2
  obtain ⟨e, ey⟩ := r2
  subst e
  have e := p2.emp_l; subst e
  obtain ⟨v1, m1, M3, e1, ⟨a, kvs, ea, em, ra⟩, s3, up⟩ := h.at w2
  rw [e0] at e1
  cases e1
  have z2' : WantS X G L Γn osn σ F R W D (if (h.get o2).length < sizeLine then kk (h.set (dput y x (h.get o2)) o2) else none) := z2
  by_cases hlt : (h.get o2).length < sizeLine
  · rw [if_pos hlt] at z2'
    subst em ea
    have hH : H2 a = some (.dK kvs) := g2.m _ _ (s3.l _ _ sing_same)
    refine ⟨a, _, rfl, .inl ⟨kvs, .inr (sOf y), hH, ey, by rw [ra.length]; exact hlt, rfl⟩, ?_⟩
    obtain ⟨M4, s4, g4⟩ := g2.set (o' := .dK (putK kvs (.inr (sOf y)) v)) s3
    exact hk σ F2 M4 R _ _ W D tk (c.mono (s1.trans s2)) (up _ _ M4 F2 (.refl F2) ⟨a, _, rfl, rfl, ra.put (t.mono r1 s2)⟩ s4) g4 (z2'.mono (s1.trans s2) .refl)
  · rw [if_neg hlt] at z2'; exact z2'.elim
end
end Mi

namespace Mi
open PySem PySem.Spec PyProof.Rows L2
/-! ### several values at once, new things of ours among them -/
def ArgsM : (ts : List Ty) → AT ts → List V → Hp → Hp → Prop
  | [], _, vs, _, m => vs = [] ∧ m = emp
  | t :: r, x, vs, F, m => ∃ v us m1 m2, vs = v :: us ∧ t.rep x.1 v F m1 ∧ ArgsM r x.2 us F m2 ∧ Sep m1 m2 m
theorem ArgsM.mono : ∀ {ts : List Ty} {x : AT ts} {vs : List V} {F F' m : Hp}, ArgsM ts x vs F m → Sub F F' → ArgsM ts x vs F' m
  | [], _, _, _, _, _, h, _ => h
  | _ :: _, _, _, _, _, _, ⟨v, us, m1, m2, e, r, k, s⟩, h => ⟨v, us, m1, m2, e, Ty.mono _ r h, k.mono h, s⟩
theorem ArgsM.length : ∀ {ts : List Ty} {x : AT ts} {vs : List V} {F m : Hp}, ArgsM ts x vs F m → vs.length = ts.length
  | [], _, vs, _, _, h => by rw [h.1] <;> rfl
  | _ :: _, _, _, _, _, ⟨v, us, m1, m2, e, r, k, s⟩ => by rw [e, List.length_cons, List.length_cons, k.length]
section
variable {X : Cx} {N : List Str} {sc : Scope} {B : List Str} {k : Nat} {Γ : Ctx} {os os' : Os} {pos p p1 p2 p3 cpos apos : Pos} {e a b : Expr} {es : List Expr} {t u : Ty}
def NormM (os : Os) (ts : List Ty) (σ : L2.St) (F R : Hp) (Q : List V → Hp → Prop) (x : AT ts) (o : OT os) : Prop :=
  ∀ vs F' M1 m M' H', Sub F F' → OwnOk os o σ F' M1 R → Sep m M1 M' → Good F' M' H' → ArgsM ts x vs F' m → Q vs H'
def RAM (X : Cx) (Γ : Ctx) (os : Os) (es : List Expr) (ts : List Ty) (m : SM (OT os) (AT ts)) : Prop :=
  ∀ (σ : L2.St) (F M R H : Hp) (o : OT os) (W : WX) (Q : List V → Hp → Prop), Takes X W → CtxOk Γ σ F → OwnOk os o σ F M R → Good F M H →
    Want (m o) (NormM os ts σ F R Q) (ExcE X os σ F R W) → bestA X es σ H Q
theorem ram_nil : RAM X Γ os [] [] (SM.ret ()) := fun σ F M R H o W Q tk c w g q => ⟨_, pa_nil, q [] F M emp M H (.refl F) w (sep_emp_l M) g ⟨rfl, rfl⟩⟩
theorem ram_cons {ts : List Ty} {m : SM (OT os) t.A} {n : SM (OT os) (AT ts)} (h : RE X Γ os e t m) (hr : RAM X Γ os es ts n)
    (he : starEach (e :: es) X.env = (false, eval e X.env) :: starEach es X.env := by rfl) : RAM X Γ os (e :: es) (t :: ts) (SM.bind m fun x => SM.bind n fun y => SM.ret (x, y)) := by
  intro σ F M R H o W Q tk c w g q
  refine ⟨_, pa_cons (pe_best X e) (pa_best X es) he, h σ F M R H o W _ tk c w g (q.bind.imp (fun x o1 z => ?_) fun _ _ z => z)⟩
  intro v F' M1 mm M' H' s w' p' g' r
  obtain ⟨R2, pR, w2⟩ := w'.frame p'
  refine hr σ F' M' R2 H' o1 W _ tk (c.mono s) w2 g' (z.bind.imp (fun y o2 z => ?_) fun ex o2 z => ?_)
  · intro us F2 M3 m2 M2 H2 s2 w3 p2 g2 r2
    obtain ⟨M4, p4, w4⟩ := OwnOk.unframe w3 pR
    obtain ⟨G, g1, g3⟩ := p4.assoc p2
    obtain ⟨G2, g4, g5⟩ := g1.comm.assoc g3
    exact z (v :: us) F2 M4 G2 M2 H2 (s.trans s2) w4 g5.comm g2 ⟨v, us, mm, m2, rfl, t.mono r s2, r2, g4⟩
  · intro cls d F2 M2 H2 s2 w3 g2 x2
    obtain ⟨M4, p4, w4⟩ := OwnOk.unframe w3 pR
    exact (show ExcE X os σ F R W ex o2 from z) cls d F2 M4 H2 (s.trans s2) w4 (g2.less p4.r) x2
/-! ### where they are put -/
inductive PutI : List Nat → List Ty → Os → Os → Type 1
  | nil {os : Os} : PutI [] [] os os
  | imm {is : List Nat} {ts : List Ty} {os os' : Os} (i : Nat) {t : Ty} (it : Imm t) (p : PutI is ts os os') : PutI (i :: is) (t :: ts) os os'
  | own {is : List Nat} {ts : List Ty} {os os' : Os} (i : Nat) {t : Ty} (p : PutI is ts ((i, t) :: os) os') : PutI (i :: is) (t :: ts) os os'
def PutI.ctx : {is : List Nat} → {ts : List Ty} → {os os' : Os} → PutI is ts os os' → AT ts → Ctx → Ctx
  | _, _, _, _, .nil, _, Γ => Γ
  | _, _, _, _, .imm (t := t) i _ p, x, Γ => p.ctx x.2 (Γ.set i (some ⟨t, x.1⟩))
  | _, _, _, _, .own i p, x, Γ => p.ctx x.2 (Γ.set i none)
def PutI.ow : {is : List Nat} → {ts : List Ty} → {os os' : Os} → PutI is ts os os' → AT ts → OT os → OT os'
  | _, _, _, _, .nil, _, o => o
  | _, _, _, _, .imm _ _ p, x, o => p.ow x.2 o
  | _, _, _, _, .own _ p, x, o => p.ow x.2 (x.1, o)
def PutI.okB : {is : List Nat} → {ts : List Ty} → {os os' : Os} → PutI is ts os os' → Nat → Bool
  | _, _, _, _, .nil, _ => true
  | _, _, os, _, .imm i _ p, n => noSlot i os && p.okB n
  | _, _, os, _, .own i p, n => noSlot i os && (Nat.ble (i + 1) n && p.okB n)
def setσ : List Nat → List V → L2.St → L2.St
  | i :: is, v :: vs, σ => setσ is vs (σ.set i (some v))
  | _, _, σ => σ
theorem PutI.ok : ∀ {is : List Nat} {ts : List Ty} {os os' : Os} (p : PutI is ts os os') {x : AT ts} {vs : List V} {Γ : Ctx} {σ : L2.St} {o : OT os} {F M1 M' R m : Hp}, p.okB Γ.length = true → ArgsM ts x vs F m → CtxOk Γ σ F → OwnOk os o σ F M1 R → Sep m M1 M' →
    CtxOk (p.ctx x Γ) (setσ is vs σ) F ∧ OwnOk os' (p.ow x o) (setσ is vs σ) F M' R
  | _, _, _, _, .nil, _, vs, Γ, σ, o, F, M1, M', R, m, _, ⟨e, em⟩, c, w, s => by
    subst e em
    have e2 := s.emp_l
    subst e2
    exact ⟨c, w⟩
  | _, _, os, _, .imm (t := t) i it p, x, _, Γ, σ, o, F, M1, M', R, m, hb, ⟨v, us, m1, m2, e, r, k, s1⟩, c, w, s => by
    subst e
    have e1 := it r
    subst e1
    have e2 := s1.emp_l
    subst e2
    have hb' : (noSlot i os && p.okB Γ.length) = true := hb
    rw [Bool.and_eq_true] at hb'
    have z := p.ok (x := x.2) (Γ := Γ.set i (some ⟨t, x.1⟩)) (by rw [List.length_set]; exact hb'.2) k (c.set r) (w.set hb'.1) s
    exact z
  | _, _, os, _, .own (t := t) i p, x, _, Γ, σ, o, F, M1, M', R, m, hb, ⟨v, us, m1, m2, e, r, k, s1⟩, c, w, s => by
    subst e
    have hb' : (noSlot i os && (Nat.ble (i + 1) Γ.length && p.okB Γ.length)) = true := hb
    rw [Bool.and_eq_true, Bool.and_eq_true] at hb'
    obtain ⟨b1, b2, b3⟩ := hb'
    obtain ⟨G, g1, g2⟩ := s1.comm.assoc s.comm
    have w2 : OwnOk ((i, t) :: os) (x.1, o) (σ.set i (some v)) F G R := ⟨v, m1, M1, List.getElem?_set_self (by rw [← c.1]; exact Nat.le_of_ble_eq_true b2), r, g1.comm, w.set b1⟩
    exact p.ok (x := x.2) (Γ := Γ.set i none) (by rw [List.length_set]; exact b3) k c.out w2 g2
theorem keep_setσ {kp : List Nat} : ∀ (is : List Nat) (vs : List V) (σ : L2.St), (is.all fun i => kp.all (· != i)) = true → Keep kp σ (setσ is vs σ)
  | [], _, _, _ => .refl
  | _ :: _, [], _, _ => .refl
  | i :: is, v :: vs, σ, h => by
    rw [List.all_cons, Bool.and_eq_true] at h
    exact (keep_set h.1).trans (keep_setσ is vs _ h.2)
/-! ### a, b = x, y -/
theorem bk_fn (xo : XOk X N sc B k) : (X.env.blockKind != .function) = false := by
  unfold Env.blockKind
  rw [xo.bk] <;> rfl
theorem ko (xo : XOk X N sc B k) {j : Nat} {x : Str} {kd : NameKind} (h : sc.names[j]? = some (x, kd)) (hk : kd ≠ .free) : X.env.kindOf x = some kd := xo.lo j x kd h hk
variable {G : FX} {L : LC} {β : Type} {Γn : β → Ctx} {osn : Os} {rest : List Stmt}
theorem sw_env2 {v : List Expr} {k2 kt : Nat} {x y : Str} {px py pt pt2 : Pos} {env env' : Env} (hb : env.blockKind = env'.blockKind) (hx : env.kindOf x = env'.kindOf x) (hy : env.kindOf y = env'.kindOf y) :
    swappedStores [.Tuple [.Name x px, .Name y py] kt pt] (.Tuple v k2 pt2) env = swappedStores [.Tuple [.Name x px, .Name y py] kt pt] (.Tuple v k2 pt2) env' := by
  unfold swappedStores
  simp only [hb, List.filterMap_cons, List.filterMap_nil, hx, hy]
  rfl
theorem sw_env3 {v : List Expr} {k2 kt : Nat} {x y z : Str} {px py pz pt pt2 : Pos} {env env' : Env} (hb : env.blockKind = env'.blockKind) (hx : env.kindOf x = env'.kindOf x) (hy : env.kindOf y = env'.kindOf y) (hz : env.kindOf z = env'.kindOf z) :
    swappedStores [.Tuple [.Name x px, .Name y py, .Name z pz] kt pt] (.Tuple v k2 pt2) env = swappedStores [.Tuple [.Name x px, .Name y py, .Name z pz] kt pt] (.Tuple v k2 pt2) env' := by
  unfold swappedStores
  simp only [hb, List.filterMap_cons, List.filterMap_nil, hx, hy, hz]
  rfl
/-- the same slots' kinds, nothing else -/
def env0 (env : Env) (ns : List (Str × NameKind)) : Env := { env with scope := { kind := .function, names := ns, isGenerator := false, isCoroutine := false, more := [] } }
theorem bk_env (xo : XOk X N sc B k) (ns : List (Str × NameKind)) : X.env.blockKind = (env0 X.env ns).blockKind := by
  unfold Env.blockKind
  rw [xo.bk] <;> rfl
/-- a, b = x, y: plain locals -/
theorem rb_par2 (xo : XOk X N sc B k) (hS : OSub os G.ps) (i j jx jy : Nat) {x y : Str} {px py pt pt2 : Pos} {kt k2 : Nat} {ts : List Ty} {m : SM (OT os) (AT ts)} (pi : PutI [i, j] ts os os') {kk : AT ts → OT os' → OutT G L β osn} (ha : RAM X Γ os [a, b] ts m)
    (hk : ∀ z, RB X G L (pi.ctx z Γ) os' rest Γn osn (kk z))
    (hjx : sc.names[jx]? = some (x, .local) := by rfl) (hjy : sc.names[jy]? = some (y, .local) := by rfl) (hNx : N[i]? = some x := by rfl) (hNy : N[j]? = some y := by rfl) (hij : i ≠ j := by decide) (hok : pi.okB Γ.length = true := by rfl)
    (hkp : ([i, j].all fun i => G.kp.all (· != i)) = true := by rfl) (hlx : ts.length = 2 := by rfl)
    (hw : swappedStores [.Tuple [.Name x px, .Name y py] kt pt] (.Tuple [a, b] k2 pt2) (env0 X.env [(x, .local), (y, .local)]) = pure (some [x, y]) := by rfl)
    (h0 : (env0 X.env [(x, .local), (y, .local)]).kindOf y = some .local := by rfl)
    (hs : swapsWithSole [.Tuple [.Name x px, .Name y py] kt pt] (.Tuple [a, b] k2 pt2) pos.line X.env = pure false := by rfl) :
    RB X G L Γ os (.Assign [.Tuple [.Name x px, .Name y py] kt pt] (.Tuple [a, b] k2 pt2) pos :: rest) Γn osn (fun o => bindX hS (m o) fun z o => kk z (pi.ow z o)) := by
  intro σ F M R H o W D tk c w g q
  have ex : X.env.scope.names.lookup x = some .local := xo.lo jx x _ hjx (by decide)
  have ey : X.env.scope.names.lookup y = some .local := xo.lo jy y _ hjy (by decide)
  have e0 : (env0 X.env [(x, .local), (y, .local)]).kindOf x = some .local := by
    show List.lookup x [(x, NameKind.local), (y, .local)] = _
    rw [List.lookup_cons_self]
  have hw' := (sw_env2 (v := [a, b]) (k2 := k2) (kt := kt) (px := px) (py := py) (pt := pt) (pt2 := pt2) (bk_env xo [(x, .local), (y, .local)]) (ex.trans e0.symm) (ey.trans h0.symm)).trans hw
  refine ⟨_, pss_cons (ps_par (i := i) (j := j) xo.calm xo.nd (by rw [xo.nN]; exact hNx) (by rw [xo.nN]; exact hNy) hij ex ey (pa_best X [a, b]) hw' hs) (pss_best X rest), ?_⟩
  refine ha σ F M R H o W _ tk c w g (q.bindX.imp (fun z o1 y => ?_) fun _ _ z => z)
  intro vs F' M1 mm M' H' s' w' p' g' r'
  have hlen := r'.length
  rw [hlx] at hlen
  match vs, hlen, r' with
  | [v, w2], _, r' =>
    obtain ⟨c2, w3⟩ := pi.ok (Γ := Γ) hok r' (c.mono s') w' p'
    exact ⟨v, w2, rfl, hk z (setσ [i, j] [v, w2] σ) F' M' R H' (pi.ow z o1) W D tk c2 w3 g' (y.mono s' (keep_setσ _ _ _ hkp))⟩
theorem rb_par3 (xo : XOk X N sc B k) (hS : OSub os G.ps) (i j l jx jy jz : Nat) {x y z : Str} {px py pz pt pt2 : Pos} {kt k2 : Nat} {e3 : Expr} {ts : List Ty} {m : SM (OT os) (AT ts)} (pi : PutI [i, j, l] ts os os') {kk : AT ts → OT os' → OutT G L β osn} (ha : RAM X Γ os [a, b, e3] ts m)
    (hk : ∀ z, RB X G L (pi.ctx z Γ) os' rest Γn osn (kk z))
    (hjx : sc.names[jx]? = some (x, .local) := by rfl) (hjy : sc.names[jy]? = some (y, .local) := by rfl) (hjz : sc.names[jz]? = some (z, .local) := by rfl) (hNx : N[i]? = some x := by rfl) (hNy : N[j]? = some y := by rfl) (hNz : N[l]? = some z := by rfl)
    (hij : i ≠ j := by decide) (hil : i ≠ l := by decide) (hjl : j ≠ l := by decide) (hok : pi.okB Γ.length = true := by rfl)
    (hkp : ([i, j, l].all fun i => G.kp.all (· != i)) = true := by rfl) (hlx : ts.length = 3 := by rfl)
    (hw : swappedStores [.Tuple [.Name x px, .Name y py, .Name z pz] kt pt] (.Tuple [a, b, e3] k2 pt2) (env0 X.env [(x, .local), (y, .local), (z, .local)]) = pure (some [x, y, z]) := by rfl)
    (h0 : (env0 X.env [(x, .local), (y, .local), (z, .local)]).kindOf y = some .local := by rfl) (h1 : (env0 X.env [(x, .local), (y, .local), (z, .local)]).kindOf z = some .local := by rfl)
    (hs : swapsWithSole [.Tuple [.Name x px, .Name y py, .Name z pz] kt pt] (.Tuple [a, b, e3] k2 pt2) pos.line X.env = pure false := by rfl) :
    RB X G L Γ os (.Assign [.Tuple [.Name x px, .Name y py, .Name z pz] kt pt] (.Tuple [a, b, e3] k2 pt2) pos :: rest) Γn osn (fun o => bindX hS (m o) fun z o => kk z (pi.ow z o)) := by
  intro σ F M R H o W D tk c w g q
  have ex : X.env.scope.names.lookup x = some .local := xo.lo jx x _ hjx (by decide)
  have ey : X.env.scope.names.lookup y = some .local := xo.lo jy y _ hjy (by decide)
  have ez : X.env.scope.names.lookup z = some .local := xo.lo jz z _ hjz (by decide)
  have e0 : (env0 X.env [(x, .local), (y, .local), (z, .local)]).kindOf x = some .local := by
    show List.lookup x [(x, NameKind.local), (y, .local), (z, .local)] = _
    rw [List.lookup_cons_self]
  have hw' := (sw_env3 (v := [a, b, e3]) (k2 := k2) (kt := kt) (px := px) (py := py) (pz := pz) (pt := pt) (pt2 := pt2) (bk_env xo [(x, .local), (y, .local), (z, .local)]) (ex.trans e0.symm) (ey.trans h0.symm) (ez.trans h1.symm)).trans hw
  refine ⟨_, pss_cons (ps_par3 (i := i) (j := j) (l := l) xo.calm xo.nd (by rw [xo.nN]; exact hNx) (by rw [xo.nN]; exact hNy) (by rw [xo.nN]; exact hNz) hij hil hjl ex ey ez (pa_best X [a, b, e3]) hw' hs) (pss_best X rest), ?_⟩
  refine ha σ F M R H o W _ tk c w g (q.bindX.imp (fun z o1 y => ?_) fun _ _ z => z)
  intro vs F' M1 mm M' H' s' w' p' g' r'
  have hlen := r'.length
  rw [hlx] at hlen
  match vs, hlen, r' with
  | [v, w2, v3], _, r' =>
    obtain ⟨c2, w3⟩ := pi.ok (Γ := Γ) hok r' (c.mono s') w' p'
    exact ⟨v, w2, v3, rfl, hk z (setσ [i, j, l] [v, w2, v3] σ) F' M' R H' (pi.ow z o1) W D tk c2 w3 g' (y.mono s' (keep_setσ _ _ _ hkp))⟩
/-- a, b = x, y: captured names, by a tuple -/
theorem rb_unp2 (xo : XOk X N sc B k) (hS : OSub os G.ps) (i j jx jy : Nat) {x y : Str} {kx ky : NameKind} {px py pt pt2 : Pos} {kt k2 : Nat} {ts : List Ty} {m : SM (OT os) (AT ts)} (pi : PutI [i, j] ts os os') {kk : AT ts → OT os' → OutT G L β osn} (ha : RAM X Γ os [a, b] ts m)
    (hk : ∀ z, RB X G L (pi.ctx z Γ) os' rest Γn osn (kk z))
    (hjx : sc.names[jx]? = some (x, kx) := by rfl) (hjy : sc.names[jy]? = some (y, ky) := by rfl) (hkx : locK kx = true := by rfl) (hky : locK ky = true := by rfl) (hNx : N[i]? = some x := by rfl) (hNy : N[j]? = some y := by rfl) (hok : pi.okB Γ.length = true := by rfl)
    (hkp : ([i, j].all fun i => G.kp.all (· != i)) = true := by rfl) (hlx : ts.length = 2 := by rfl)
    (hw : swappedStores [.Tuple [.Name x px, .Name y py] kt pt] (.Tuple [a, b] k2 pt2) (env0 X.env [(x, kx), (y, ky)]) = pure none := by rfl)
    (h0 : (env0 X.env [(x, kx), (y, ky)]).kindOf y = some ky := by rfl)
    (hs : swapsWithSole [.Tuple [.Name x px, .Name y py] kt pt] (.Tuple [a, b] k2 pt2) pos.line X.env = pure false := by rfl) 
    (h1 : (assignEach [.Tuple [.Name x px, .Name y py] kt pt] X.env).map (·.2) = [assign (.Tuple [.Name x px, .Name y py] kt pt) X.env] := by rfl)
    (hn : (assignEach [.Name x px, .Name y py] X.env).length = 2 := by rfl) (hst : (assignEach [.Name x px, .Name y py] X.env).findIdx? (·.1) = none := by rfl)
    (hg1 : (assignEach [.Name x px, .Name y py] X.env).map (·.2) = assign (.Name x px) X.env :: (assignEach [.Name y py] X.env).map (·.2) := by rfl) (hg2 : (assignEach [.Name y py] X.env).map (·.2) = assign (.Name y py) X.env :: (assignEach [] X.env).map (·.2) := by rfl) :
    RB X G L Γ os (.Assign [.Tuple [.Name x px, .Name y py] kt pt] (.Tuple [a, b] k2 pt2) pos :: rest) Γn osn (fun o => bindX hS (m o) fun z o => kk z (pi.ow z o)) := by
  intro σ F M R H o W D tk c w g q
  have kf : ∀ {kd : NameKind}, locK kd = true → kd ≠ .free := fun h e => by subst e; cases h
  have ex : X.env.scope.names.lookup x = some kx := xo.lo jx x _ hjx (kf hkx)
  have ey : X.env.scope.names.lookup y = some ky := xo.lo jy y _ hjy (kf hky)
  have e0 : (env0 X.env [(x, kx), (y, ky)]).kindOf x = some kx := by
    show List.lookup x [(x, kx), (y, ky)] = _
    rw [List.lookup_cons_self]
  have hw' := (sw_env2 (v := [a, b]) (k2 := k2) (kt := kt) (px := px) (py := py) (pt := pt) (pt2 := pt2) (bk_env xo [(x, kx), (y, ky)]) (ex.trans e0.symm) (ey.trans h0.symm)).trans hw
  obtain ⟨lx1, lx2⟩ := xo.lc jx x kx hjx hkx
  obtain ⟨ly1, ly2⟩ := xo.lc jy y ky hjy hky
  refine ⟨_, pss_cons (ps_asg (pe_tup (pa_best X [a, b])) (pg_tup (n := 2) xo.calm (pgs_cons (pg_name (i := i) xo.nd (by rw [xo.nN]; exact hNx) lx1 lx2) (pgs_cons (pg_name (i := j) xo.nd (by rw [xo.nN]; exact hNy) ly1 ly2) pgs_nil hg2) hg1) hn hst) hs hw' h1) (pss_best X rest), ?_⟩
  refine ha σ F M R H o W _ tk c w g (q.bindX.imp (fun z o1 y => ?_) fun _ _ z => z)
  intro vs F' M1 mm M' H' s' w' p' g' r'
  have hlen := r'.length
  rw [hlx] at hlen
  match vs, hlen, r' with
  | [v, w2], _, r' =>
    refine ⟨by show 2 ≤ sizeLine; decide, fun p hp => ?_⟩
    have hF : F' p = none := g'.fnone hp
    have s2 := sub_upd (o := .tup [v, w2]) hF
    obtain ⟨c2, w3⟩ := pi.ok (Γ := Γ) hok (r'.mono s2) (c.mono (s'.trans s2)) (w'.mono s2) p'
    refine ⟨p, [v, w2], rfl, .inl (.inl upd_same), rfl, v, [w2], rfl, w2, [], rfl, rfl, ?_⟩
    exact hk z (setσ [i, j] [v, w2] σ) (upd F' p (.tup [v, w2])) M' R _ (pi.ow z o1) W D tk c2 w3 (g'.newF hp) (y.mono (s'.trans s2) (keep_setσ _ _ _ hkp))
end
end Mi

namespace Mi
open PySem PySem.Spec PyProof.Rows L2
section
variable {X : Cx} {N : List Str} {sc : Scope} {B : List Str} {k : Nat} {Γ : Ctx} {os os' : Os} {pos p p1 p2 p3 cpos apos : Pos} {e a b : Expr} {es : List Expr} {t u : Ty}
/-! ### methods of what we own -/
def SM.methO {os : Os} {i : Nat} {t0 : Ty} {A C : Type} (h : OMem os i t0) (g : t0.A → A → Option (C × t0.A)) (y : A) : SM (OT os) C := fun o => match g (h.get o) y with
  | some (z, x) => some (.ok z, h.set x o)
  | none => none
theorem re_bmO (xo : XOk X N sc B k) {name nm : Str} {T id : String} {r : V → List V → Hp → VK → Prop} {t0 tc : Ty} {ts : List Ty} {g : t0.A → AT ts → Option (tc.A × t0.A)} {i : Nat} {m : SM (OT os) (AT ts)} {kd : NameKind}
    (pa : PlainAttrs T) (slot : Slot T name id) (hty : typeOf (.builtin id) = pure (.type "method_descriptor")) (hm : MtR X id r)
    (ht : ∀ {x v F M0 M1 M H}, t0.rep x v F M0 → Sep M0 M1 M → Good F M H → tyV X.K T v H)
    (hv : ∀ {x y z x' v vs F m M1 M H} {Q : VK}, g x y = some (z, x') → t0.rep x v F m → ArgsOk ts y vs F → Sep m M1 M → Good F M H →
      (∀ v' F' m' mm M2 M3 H', Sub F F' → t0.rep x' v F' m' → Sep m' M1 M2 → Sep mm M2 M3 → Good F' M3 H' → tc.rep z v' F' mm → Q v' H') → r v vs H Q)
    (h : OMem os i t0) (jn : Nat) (ha : RA X Γ os (e :: es) ts m)
    (hjb : sc.names[jn]? = some (nm, kd) := by rfl) (hkb : visK kd = true := by rfl) (hN : N[i]? = some nm := by rfl)
    (hbase : attributeBase (.Name nm p) name X.env (eval (.Name nm p) X.env) = eval (.Name nm p) X.env := by rfl) (hline : (apos.endLine == pos.line) = true := by rfl)
    (he : starEach (e :: es) X.env = (false, eval e X.env) :: starEach es X.env := by rfl) (hpl : (backTo pos (starEach es X.env)).any (·.1) = false := by rfl)
    (hfew : ((backTo pos (starEach (e :: es) X.env)).all (fun x => !x.1) && (backToKw pos (keywordEach [] X.env)).all (fun x => x.1.isSome)
      && decide ((e :: es).length + ([] : List Keyword).length + (if ([] : List Keyword).isEmpty then 0 else 1) < 30)) = true := by rfl) :
    RE X Γ os (.Call (.Attribute (.Name nm p) name apos) (e :: es) [] pos) tc (SM.bind m fun y => SM.methO h g y) := by
  intro σ F M R H o W Q tk c w gd q
  refine ⟨_, pe_bm pa slot hty hm (pe_var (by rw [xo.nN]; exact hN) (xo.vs jn nm kd hjb hkb) (xo.db jn nm kd hjb).1 (xo.db jn nm kd hjb).2.1) (pa_best X (e :: es)) hbase hfew hline he hpl, ?_⟩
  obtain ⟨v0, m0, M0, e0, r0, s0, _⟩ := h.at w
  refine ⟨v0, e0, ht r0 s0 gd, ?_⟩
  refine args_end ha tk c w gd q fun y o2 vs F2 M2 H2 h2 s2 w2 g2 r2 => ?_
  obtain ⟨v1, m1, M1, e1, r1, s1, up⟩ := h.at w2
  rw [e0] at e1
  cases e1
  unfold SM.methO at h2
  cases hg : g (h.get o2) y with
  | none => rw [hg] at h2; exact h2.elim
  | some z =>
    obtain ⟨z, x'⟩ := z
    rw [hg] at h2
    refine hv hg r1 r2 s1 g2 fun v' F' m' mm M2' M3 H' s' r' q' p' g' rz => ?_
    exact (show NormE os tc σ F R Q z (h.set x' o2) from h2) v' F' M2' mm M3 H' (s2.trans s') (up x' m' M2' F' s' r' q') p' g' rz
theorem ty_own {x : List t.A} {v : V} {F M0 M1 M H : Hp} (r : (tOwn t).rep x v F M0) (s : Sep M0 M1 M) (g : Good F M H) : tyV X.K "list" v H := by
  obtain ⟨a, vs, e, em, r⟩ := r
  subst e em
  exact .inl ⟨rfl, vs, .inl (.inl (g.m _ _ (s.l _ _ sing_same)))⟩
/-- xs.append(e) -/
def appO {A : Type} (x : List A) (y : A) : Option (Unit × List A) := if x.length < sizeLine then some ((), x ++ [y]) else none
theorem re_append (xo : XOk X N sc B k) {nm : Str} {i : Nat} {kd : NameKind} {m : SM (OT os) (AT [t])} (it : Imm t) (h : OMem os i (tOwn t)) (jn : Nat) (ha : RA X Γ os [e] [t] m)
    (hjb : sc.names[jn]? = some (nm, kd) := by rfl) (hkb : visK kd = true := by rfl) (hN : N[i]? = some nm := by rfl)
    (hbase : attributeBase (.Name nm p) "append" X.env (eval (.Name nm p) X.env) = eval (.Name nm p) X.env := by rfl) (hline : (apos.endLine == pos.line) = true := by rfl)
    (he : starEach [e] X.env = (false, eval e X.env) :: starEach [] X.env := by rfl) (hpl : (backTo pos (starEach [] X.env)).any (·.1) = false := by rfl)
    (hfew : ((backTo pos (starEach [e] X.env)).all (fun x => !x.1) && (backToKw pos (keywordEach [] X.env)).all (fun x => x.1.isSome)
      && decide ([e].length + ([] : List Keyword).length + (if ([] : List Keyword).isEmpty then 0 else 1) < 30)) = true := by rfl) :
    RE X Γ os (.Call (.Attribute (.Name nm p) "append" apos) [e] [] pos) tNone (SM.bind m fun y => SM.methO h (fun x (y : AT [t]) => appO x y.1) y) := by
  refine re_bmO (ts := [t]) (tc := tNone) xo F.plainAttrs_list F.slot_list_append F.type_list_append mt_append ty_own (fun {x y z x' v vs F m M1 M H Q} e r hy s g q => ?_) h jn ha hjb hkb hN hbase hline he hpl hfew
  obtain ⟨a, ws, ev, em, ra⟩ := r
  obtain ⟨v1, us, e1, r1, e2⟩ := hy
  have e2' : us = [] := e2
  subst e2' e1 ev em
  have e' : appO x y.1 = some (z, x') := e
  unfold appO at e'
  by_cases hl : x.length < sizeLine
  · rw [if_pos hl] at e'
    cases e'
    refine ⟨a, ws, v1, rfl, rfl, g.m _ _ (s.l _ _ sing_same), by rw [ra.length]; exact hl, ?_⟩
    obtain ⟨M2, s2, g2⟩ := g.set (o' := .lst (ws ++ [v1])) s
    exact q .non F _ emp M2 M2 _ (.refl F) ⟨a, _, rfl, rfl, ra.snoc r1⟩ s2 (sep_emp_l M2) g2 ⟨rfl, rfl⟩
  · rw [if_neg hl] at e'; cases e'
/-- xs.extend(ys) -/
def extO {A : Type} (x : List A) (y : List A) : Option (Unit × List A) := if x.length + y.length ≤ sizeLine then some ((), x ++ y) else none
theorem re_extend (xo : XOk X N sc B k) {nm : Str} {i : Nat} {kd : NameKind} {m : SM (OT os) (AT [tLst t])} (h : OMem os i (tOwn t)) (jn : Nat) (ha : RA X Γ os [e] [tLst t] m)
    (hjb : sc.names[jn]? = some (nm, kd) := by rfl) (hkb : visK kd = true := by rfl) (hN : N[i]? = some nm := by rfl)
    (hbase : attributeBase (.Name nm p) "extend" X.env (eval (.Name nm p) X.env) = eval (.Name nm p) X.env := by rfl) (hline : (apos.endLine == pos.line) = true := by rfl)
    (he : starEach [e] X.env = (false, eval e X.env) :: starEach [] X.env := by rfl) (hpl : (backTo pos (starEach [] X.env)).any (·.1) = false := by rfl)
    (hfew : ((backTo pos (starEach [e] X.env)).all (fun x => !x.1) && (backToKw pos (keywordEach [] X.env)).all (fun x => x.1.isSome)
      && decide ([e].length + ([] : List Keyword).length + (if ([] : List Keyword).isEmpty then 0 else 1) < 30)) = true := by rfl) :
    RE X Γ os (.Call (.Attribute (.Name nm p) "extend" apos) [e] [] pos) tNone (SM.bind m fun y => SM.methO h (fun x (y : AT [tLst t]) => extO x y.1) y) := by
  refine re_bmO (ts := [tLst t]) (tc := tNone) xo F.plainAttrs_list F.slot_list_extend F.type_list_extend mt_extend ty_own (fun {x y z x' v vs F m M1 M H Q} e r hy s g q => ?_) h jn ha hjb hkb hN hbase hline he hpl hfew
  obtain ⟨a, ws, ev, em, ra⟩ := r
  obtain ⟨v1, us, e1, ⟨_, b, zs, eb, fb, rb⟩, e2⟩ := hy
  have e2' : us = [] := e2
  subst e2' e1 ev em eb
  have e' : extO x y.1 = some (z, x') := e
  unfold extO at e'
  by_cases hl : x.length + y.1.length ≤ sizeLine
  · rw [if_pos hl] at e'
    cases e'
    refine ⟨a, b, ws, zs, rfl, rfl, g.m _ _ (s.l _ _ sing_same), g.f _ _ fb, by rw [ra.length, rb.length]; exact hl, ?_⟩
    obtain ⟨M2, s2, g2⟩ := g.set (o' := .lst (ws ++ zs)) s
    exact q .non F _ emp M2 M2 _ (.refl F) ⟨a, _, rfl, rfl, ra.app rb⟩ s2 (sep_emp_l M2) g2 ⟨rfl, rfl⟩
  · rw [if_neg hl] at e'; cases e'
theorem AllR.erase : ∀ {xs : List t.A} {vs : List V} {F : Hp} (n : Nat), AllR t xs vs F → AllR t (xs.eraseIdx n) (vs.eraseIdx n) F
  | [], vs, _, n, h => by have h' : vs = [] := h; subst h'; cases n <;> exact rfl
  | _ :: _, _, _, 0, ⟨w, r, e, q, k⟩ => by subst e; exact k
  | _ :: _, _, _, n + 1, ⟨w, r, e, q, k⟩ => by subst e; exact ⟨w, _, rfl, q, k.erase n⟩
/-- xs.pop(i), i not negative -/
def popO {A : Type} (x : List A) (i : Int) : Option (A × List A) := if 0 ≤ i ∧ i < 2 ^ 62 then (x[i.toNat]?).map fun z => (z, x.eraseIdx i.toNat) else none
theorem re_popAt (xo : XOk X N sc B k) {nm : Str} {i : Nat} {kd : NameKind} {m : SM (OT os) (AT [tInt])} (it : Imm t) (h : OMem os i (tOwn t)) (jn : Nat) (ha : RA X Γ os [e] [tInt] m)
    (hjb : sc.names[jn]? = some (nm, kd) := by rfl) (hkb : visK kd = true := by rfl) (hN : N[i]? = some nm := by rfl)
    (hbase : attributeBase (.Name nm p) "pop" X.env (eval (.Name nm p) X.env) = eval (.Name nm p) X.env := by rfl) (hline : (apos.endLine == pos.line) = true := by rfl)
    (he : starEach [e] X.env = (false, eval e X.env) :: starEach [] X.env := by rfl) (hpl : (backTo pos (starEach [] X.env)).any (·.1) = false := by rfl)
    (hfew : ((backTo pos (starEach [e] X.env)).all (fun x => !x.1) && (backToKw pos (keywordEach [] X.env)).all (fun x => x.1.isSome)
      && decide ([e].length + ([] : List Keyword).length + (if ([] : List Keyword).isEmpty then 0 else 1) < 30)) = true := by rfl) :
    RE X Γ os (.Call (.Attribute (.Name nm p) "pop" apos) [e] [] pos) t (SM.bind m fun y => SM.methO h (fun x (y : AT [tInt]) => popO x y.1) y) := by
  refine re_bmO (ts := [tInt]) (tc := t) xo F.plainAttrs_list F.slot_list_pop F.type_list_pop mt_popAt ty_own (fun {x y z x' v vs F m M1 M H Q} e r hy s g q => ?_) h jn ha hjb hkb hN hbase hline he hpl hfew
  obtain ⟨a, ws, ev, em, ra⟩ := r
  obtain ⟨v1, us, e1, ⟨_, r1⟩, e2⟩ := hy
  have e2' : us = [] := e2
  have r1' : v1 = V.int y.1 := r1
  subst e2' e1 ev em r1'
  have e' : popO x y.1 = some (z, x') := e
  unfold popO at e'
  by_cases hl : 0 ≤ y.1 ∧ y.1 < 2 ^ 62
  · rw [if_pos hl] at e'
    obtain ⟨w, hw, ez⟩ := Option.map_eq_some_iff.mp e'
    cases ez
    obtain ⟨w1, hw1, rw1⟩ := ra.get hw
    have hlt : y.1.toNat < x.length := (List.getElem?_eq_some_iff.mp hw).1
    have hle : ws.length = x.length := ra.length
    obtain ⟨i1, i2⟩ := hl
    refine ⟨a, ws, y.1, y.1.toNat, w1, rfl, rfl, g.m _ _ (s.l _ _ sing_same), ?_, ?_, ?_, hw1, ?_⟩
    · exact Int.le_trans (by decide) i1
    · exact Int.lt_trans i2 (by decide)
    · have hx : ixN ws.length y.1 = some y.1.toNat := by
        unfold ixN
        have h1 : (y.1 : Int) < ws.length := by rw [hle]; exact Int.lt_of_toNat_lt hlt
        exact (if_pos i1).trans (if_pos h1)
      exact (ixN_seq hx).1
    · obtain ⟨M2, s2, g2⟩ := g.set (o' := .lst (ws.eraseIdx y.1.toNat)) s
      have e := it rw1
      exact q w1 F _ emp M2 M2 _ (.refl F) ⟨a, _, rfl, rfl, ra.erase _⟩ s2 (sep_emp_l M2) g2 rw1
  · rw [if_neg hl] at e'; cases e'
/-! ### what we own stays as it is from now on -/
variable {G : FX} {L : LC} {β : Type} {Γn : β → Ctx} {osn : Os} {rest : List Stmt}
theorem bestB_lock {σ : L2.St} {H : Hp} {D : Ends} {sts : List Stmt} {a : Addr} {u : HO} (ha : H a = some u) (mu : Mut (some u)) (h : ∀ od, bestB X sts D σ (upd H a (.frz od u))) : bestB X sts D σ H := by
  refine ⟨fun D σ H => ∃ a u, H a = some u ∧ Mut (some u) ∧ ∀ od, bestB X sts D σ (upd H a (.frz od u)), ⟨fun pins s σ H D I h => ?_⟩, a, u, ha, mu, h⟩
  obtain ⟨a, u, ha, mu, h⟩ := h
  obtain ⟨od, I2⟩ := I.lock ha mu
  exact (pss_best X sts).run pins s σ _ D I2 (h od)
theorem ctx_slot {i : Nat} {x : t.A} {v : V} {σ : L2.St} {F : Hp} (c : CtxOk Γ σ F) (e0 : σ[i]? = some (some v)) (r : t.rep x v F emp) : CtxOk (Γ.set i (some ⟨t, x⟩)) σ F := by
  have c3 := c.set (i := i) (t := t) (x := x) (v := v) r
  have e3 : σ.set i (some v) = σ := by
    apply List.ext_getElem?
    intro j
    by_cases hj : j = i
    · subst hj
      have hl : j < σ.length := (List.getElem?_eq_some_iff.mp e0).1
      rw [List.getElem?_set_self hl, e0]
    · rw [List.getElem?_set_ne (Ne.symm hj)]
  rw [e3] at c3
  exact c3
/-- a dict -/
theorem rb_frzD {sts : List Stmt} {i : Nat} (h : OSel os i (tOwnD t) os') {kk : List (List Nat × t.A) → OT os' → OutT G L β osn} (hk : ∀ x, RB X G L (Γ.set i (some ⟨tDctL t, x⟩)) os' sts Γn osn (kk x)) :
    RB X G L Γ os sts Γn osn (fun o => kk (h.get o) (h.rest o)) := by
  intro σ F M R H o W D tk c w g q
  obtain ⟨v, m0, M', e0, ⟨a, kvs, ev, em, r⟩, s0, w0⟩ := h.own w
  subst em ev
  refine bestB_lock (g.m _ _ (s0.l _ _ sing_same)) True.intro fun od => ?_
  obtain ⟨g2, s2⟩ := g.lock (u' := .frz od (.dK kvs)) s0
  exact hk _ σ _ M' R _ (h.rest o) W D tk (ctx_slot (c.mono s2) e0 ⟨rfl, a, od, kvs, rfl, upd_same, r.mono s2⟩) (w0.mono s2) g2 (WantS.mono q s2 .refl)
/-- any other thing -/
theorem rb_frzS {sts : List Stmt} {i : Nat} {t0 t1 : Ty} {f : t0.A → t1.A} (h : OSel os i t0 os') (z : Frz t0 t1 f) {kk : t1.A → OT os' → OutT G L β osn} (hk : ∀ x, RB X G L (Γ.set i (some ⟨t1, x⟩)) os' sts Γn osn (kk x)) :
    RB X G L Γ os sts Γn osn (fun o => kk (f (h.get o)) (h.rest o)) := by
  intro σ F M R H o W D tk c w g q
  obtain ⟨m0, v, M', r0, e0, d, s0, c2, w2, g2, s2, s3⟩ := bor_core (Γ := Γ) h z c w g
  exact hk _ σ _ M' R _ (h.rest o) W D tk c2 w2 g2 (WantS.mono q s2 .refl)
end
end Mi

namespace Mi
open PySem PySem.Spec PyProof.Rows L2
/-! ### dicts with written keys: records -/
def RecR : (fs : List (List Nat × Ty)) → AT (fs.map (·.2)) → List (Key × V) → Hp → Prop
  | [], _, kvs, _ => kvs = []
  | f :: r, x, kvs, F => ∃ v l, kvs = (.inr (sOf f.1), v) :: l ∧ f.2.rep x.1 v F emp ∧ RecR r x.2 l F
theorem RecR.mono : ∀ {fs : List (List Nat × Ty)} {x : AT (fs.map (·.2))} {kvs : List (Key × V)} {F F' : Hp}, RecR fs x kvs F → Sub F F' → RecR fs x kvs F'
  | [], _, _, _, _, h, _ => h
  | f :: _, _, _, _, _, ⟨v, l, e, q, k⟩, s => ⟨v, l, e, f.2.mono q s, k.mono s⟩
abbrev tRec (fs : List (List Nat × Ty)) : Ty := imTy (AT (fs.map (·.2))) (fun x v F => ∃ a kvs, v = .ref a ∧ Rd F a (.dK kvs) ∧ RecR fs x kvs F) fun {x v F F'} h s => by
  obtain ⟨a, kvs, e, q, r⟩ := h
  exact ⟨a, kvs, e, q.imp (s _ _) fun ⟨o, h⟩ => ⟨o, s _ _ h⟩, RecR.mono (x := x) r s⟩
theorem im_rec {fs : List (List Nat × Ty)} : Imm (tRec fs) := fun a => a.1
/-- the field named so -/
inductive RFld : List (List Nat × Ty) → List Nat → Ty → Type 1
  | here {n : List Nat} {t : Ty} {r : List (List Nat × Ty)} : RFld ((n, t) :: r) n t
  | there {f : List Nat × Ty} {n : List Nat} {t : Ty} {r : List (List Nat × Ty)} (p : RFld r n t) : RFld (f :: r) n t
def RFld.get : {fs : List (List Nat × Ty)} → {n : List Nat} → {t : Ty} → RFld fs n t → AT (fs.map (·.2)) → t.A
  | _, _, _, .here, x => x.1
  | _, _, _, .there p, x => p.get x.2
def RFld.okB : {fs : List (List Nat × Ty)} → {n : List Nat} → {t : Ty} → RFld fs n t → Bool
  | _, _, _, .here => true
  | _, n, _, .there (f := f) p => decide (f.1 ≠ n) && p.okB
theorem RFld.val : ∀ {fs : List (List Nat × Ty)} {n : List Nat} {t : Ty} (p : RFld fs n t) {x : AT (fs.map (·.2))} {kvs : List (Key × V)} {F : Hp}, p.okB = true → RecR fs x kvs F → ∃ v, valV kvs (.inr (sOf n)) = some v ∧ t.rep (p.get x) v F emp
  | _, n, _, .here, _, _, _, _, ⟨v, l, e, q, k⟩ => by
    subst e
    exact ⟨v, valV_pos (p := ((.inr (sOf n) : Key), v)) rfl, q⟩
  | _, n, _, .there (f := f) p, _, _, _, hb, ⟨v, l, e, q, k⟩ => by
    subst e
    have hb' : (decide (f.1 ≠ n) && p.okB) = true := hb
    rw [Bool.and_eq_true, decide_eq_true_eq] at hb'
    obtain ⟨w, w1, w2⟩ := p.val hb'.2 k
    exact ⟨w, (valV_neg (p := ((.inr (sOf f.1) : Key), v)) fun h => hb'.1 (key_eq.mp h)).trans w1, w2⟩
section
variable {X : Cx} {N : List Str} {sc : Scope} {B : List Str} {k : Nat} {Γ : Ctx} {os os' : Os} {pos p p1 p2 p3 cpos apos : Pos} {e a b : Expr} {es : List Expr} {t u : Ty}
/-- r["name"] -/
theorem re_fld (xo : XOk X N sc B k) {fs : List (List Nat × Ty)} {n : List Nat} {z : Str} {j : Nat} {m : SM (OT os) (AT (fs.map (·.2)))} (it : Imm t) (f : RFld fs n t) (ha : RE X Γ os a (tRec fs) m) (hz : z = sOf n := by rfl) (hb : f.okB = true := by decide) (hs : NoSl (.Constant (.str z) j p) := by exact fun _ _ => rfl) :
    RE X Γ os (.Subscript a (.Constant (.str z) j p) pos) t (SM.bind m fun x => SM.ret (f.get x)) := by
  intro σ F M R H o W Q tk c w g h
  refine ⟨_, pe_dget (hu1 xo) (pe_best X a) pe_str hs, ?_⟩
  refine one_end (ta := tRec fs) im_rec ha tk c w g h fun x o2 v F2 M2 H2 h2 s2 w2 g2 r1 => ?_
  obtain ⟨_, a, kvs, ev, fa, rk⟩ := r1
  obtain ⟨w, w1, w2'⟩ := f.val hb rk
  subst hz
  refine ⟨a, w, ev, .inl ⟨kvs, .inr (sOf n), rd_good g2 fa, rfl, w1.symm⟩, ?_⟩
  exact (show NormE os t σ F R Q (f.get x) o2 from h2) w F2 M2 emp M2 H2 s2 w2 (sep_emp_l M2) g2 w2'
/-- {"name": e, ..} -/
def NormP (os : Os) (fs : List (List Nat × Ty)) (σ : L2.St) (F R : Hp) (Q : List (V × V) → Hp → Prop) (x : AT (fs.map (·.2))) (o : OT os) : Prop :=
  ∀ kvs F' M' H', Sub F F' → OwnOk os o σ F' M' R → Good F' M' H' → RecR fs x kvs F' → Q (kvs.map fun kv => (kV kv.1, kv.2)) H'
def RP (X : Cx) (Γ : Ctx) (os : Os) (pos : Pos) (ks : List (Option Expr)) (vs : List Expr) (fs : List (List Nat × Ty)) (m : SM (OT os) (AT (fs.map (·.2)))) : Prop :=
  ∃ trs, PPs X pos ks vs trs ∧ ∀ (σ : L2.St) (F M R H : Hp) (o : OT os) (W : WX) (Q : List (V × V) → Hp → Prop), Takes X W → CtxOk Γ σ F → OwnOk os o σ F M R → Good F M H →
    Want (m o) (NormP os fs σ F R Q) (ExcE X os σ F R W) → tPairs trs σ H Q
theorem rp_nil : RP X Γ os pos [] [] [] (SM.ret ()) := ⟨[], pps_nil, fun σ F M R H o W Q tk c w g q => q [] F M H (.refl F) w g rfl⟩
theorem rp_cons {fs : List (List Nat × Ty)} {n : List Nat} {z : Str} {j : Nat} {ks : List (Option Expr)} {vs : List Expr} {m : SM (OT os) t.A} {mr : SM (OT os) (AT (fs.map (·.2)))} (it : Imm t) (h : RE X Γ os e t m) (hr : RP X Γ os pos ks vs fs mr) (hz : z = sOf n := by rfl) :
    RP X Γ os pos (some (.Constant (.str z) j p) :: ks) (e :: vs) ((n, t) :: fs) (SM.bind m fun x => SM.bind mr fun y => SM.ret (x, y)) := by
  obtain ⟨trs, pp, hr⟩ := hr
  refine ⟨_, pps_cons pe_str (pe_best X e) pp, fun σ F M R H o W Q tk c w g q => ?_⟩
  subst hz
  refine h σ F M R H o W _ tk c w g (q.bind.imp (fun x o1 z => ?_) fun _ _ z => z)
  intro v F' M1 mm M' H' s w' p' g' r
  have e := it r; subst e
  have e := p'.emp_l; subst e
  refine hr σ F' _ R H' o1 W _ tk (c.mono s) w' g' (z.bind.imp (fun y o2 z => ?_) fun _ _ z => z.mono s)
  intro kvs F2 M2 H2 s2 w2 g2 r2
  exact (show NormP os ((n, t) :: fs) σ F R Q (x, y) o2 from z) ((.inr (sOf n), v) :: kvs) F2 M2 H2 (s.trans s2) w2 g2 ⟨v, kvs, rfl, t.mono r s2, r2⟩
theorem putK_end {kvs : List (Key × V)} {k : Key} {v : V} (h : k ∉ kvs.map (·.1)) : putK kvs k v = kvs ++ [(k, v)] := by
  unfold putK
  rw [if_neg]
  intro hh
  rw [List.any_eq_true] at hh
  obtain ⟨y, hy, e⟩ := hh
  exact h (List.mem_map.mpr ⟨y, hy, of_decide_eq_true e⟩)
theorem mergeK_app : ∀ {kvs acc : List (Key × V)}, (acc.map (·.1) ++ kvs.map (·.1)).Nodup → mergeK acc kvs = acc ++ kvs
  | [], acc, _ => (List.append_nil acc).symm
  | y :: r, acc, h => by
    show mergeK (putK acc y.1 y.2) r = _
    have h' : (acc.map (·.1) ++ (y.1 :: r.map (·.1))).Nodup := h
    have hn : y.1 ∉ acc.map (·.1) := fun hm => by
      have z := (List.nodup_append.mp h').2.2 _ hm _ List.mem_cons_self
      exact z rfl
    rw [putK_end hn, mergeK_app (acc := acc ++ [(y.1, y.2)])]
    · rw [List.append_assoc] <;> rfl
    · rw [List.map_append, List.append_assoc]
      exact h'
theorem RecR.keys : ∀ {fs : List (List Nat × Ty)} {x : AT (fs.map (·.2))} {kvs : List (Key × V)} {F : Hp}, RecR fs x kvs F → kvs.map (·.1) = fs.map fun f => Sum.inr (sOf f.1)
  | [], _, kvs, _, h => by have h' : kvs = [] := h; rw [h'] <;> rfl
  | f :: _, _, _, _, ⟨v, l, e, q, k⟩ => by rw [e, List.map_cons, List.map_cons, k.keys]
theorem nodup_keys {fs : List (List Nat × Ty)} (h : (fs.map (·.1)).Nodup) : (fs.map fun f => (Sum.inr (sOf f.1) : Key)).Nodup := by
  have e : (fs.map fun f => (Sum.inr (sOf f.1) : Key)) = (fs.map (·.1)).map fun n => (Sum.inr (sOf n) : Key) := by rw [List.map_map] <;> rfl
  rw [e]
  exact List.Pairwise.map (fun n => (Sum.inr (sOf n) : Key)) (fun a b hab hh => hab (key_eq.mp hh)) h
theorem RecR.len : ∀ {fs : List (List Nat × Ty)} {x : AT (fs.map (·.2))} {kvs : List (Key × V)} {F : Hp}, RecR fs x kvs F → kvs.length = fs.length := fun h => by
  have z := congrArg List.length h.keys
  rw [List.length_map, List.length_map] at z
  exact z
theorem re_rec {fs : List (List Nat × Ty)} {ks : List (Option Expr)} {vs : List Expr} {m : SM (OT os) (AT (fs.map (·.2)))} (h : RP X Γ os pos ks vs fs m) (hn : (fs.map (·.1)).Nodup := by decide) (hall : ks.all (·.isSome) = true := by rfl) (hl : ks.length = vs.length := by rfl) (h0 : ks ≠ [] := by simp)
    (h15 : Nat.ble fs.length 15 = true := by rfl) (h15b : Nat.ble ks.length 15 = true := by rfl) : RE X Γ os (.Dict ks vs pos) (tRec fs) m := by
  obtain ⟨trs, pp, hr⟩ := h
  intro σ F M R H o W Q tk c w g q
  refine ⟨_, pe_disp pp hall hl h0 (Nat.le_of_ble_eq_true h15b), fun p hp => ?_⟩
  obtain ⟨g2, s2⟩ := g.newM (o := .dK []) hp
  obtain ⟨R2, pR, w2⟩ := w.frame s2
  refine hr σ F _ R2 _ o W _ tk c w2 g2 (q.imp (fun x o1 z => ?_) fun ex o1 z => ?_)
  · intro kvs F' M' H' s' w' g' r
    obtain ⟨M4, p4, w4⟩ := OwnOk.unframe w' pR
    refine ⟨g'.m _ _ (p4.l _ _ sing_same), kvs, rfl, by rw [r.len]; exact Nat.le_of_ble_eq_true h15, ?_⟩
    rw [mergeK_app (acc := []) (by rw [r.keys]; exact nodup_keys hn), List.nil_append]
    obtain ⟨g5, s5⟩ := g'.lock (u' := .dK kvs) p4
    exact (show NormE os (tRec fs) σ F R Q x o1 from z) (.ref p) _ M4 emp M4 _ (s'.trans s5) (w4.mono s5) (sep_emp_l M4) g5 ⟨rfl, p, kvs, rfl, .inl upd_same, r.mono s5⟩
  · intro cls d F2 M2 H2 s2 w3 g2 x2
    obtain ⟨M4, p4, w4⟩ := OwnOk.unframe w3 pR
    exact (show ExcE X os σ F R W ex o1 from z) cls d F2 M4 H2 s2 w4 (g2.less p4.r) x2
/-! ### a text in a list of texts; lists of texts == [] -/
theorem allR_str {F : Hp} : ∀ {l : List (List Nat)} {vs : List V}, AllR tStr l vs F → vs = l.map fun s => V.str (sOf s)
  | [], vs, h => h
  | c :: l, _, ⟨v, r, e, q, k⟩ => by
    subst e
    rw [allR_str k, show v = V.str (sOf c) from q.2] <;> rfl
theorem inV_str (x : List Nat) (l : List (List Nat)) : inV (.str (sOf x)) (l.map fun s => V.str (sOf s)) = decide (x ∈ l) := by
  unfold inV
  rw [List.any_map]
  induction l with
  | nil => rfl
  | cons c l ih =>
    rw [List.any_cons, ih]
    have e : eqV (V.str (sOf c)) (.str (sOf x)) = decide (c = x) := by
      show (sOf c == sOf x) = _
      by_cases h : c = x
      · subst h; simp
      · rw [decide_eq_false h]
        rw [beq_eq_false_iff_ne]
        exact fun hh => h (sOf_inj hh)
    show (eqV (V.str (sOf c)) (.str (sOf x)) || _) = _
    rw [e]
    by_cases h : c = x
    · subst h; simp
    · by_cases h2 : x ∈ l
      · simp [h2]
      · have h3 : ¬ x = c := fun z => h z.symm
        simp [h, h2, h3]
theorem v_inL : VOp (rIn X.K false) tStr (tLst tStr) tBool (fun x y => some (decide (x ∈ y))) := by
  intro x y z v u F M H Q e ⟨_, rx⟩ ⟨_, a, vs, ea, fa, ra⟩ g q
  cases e
  have ev := allR_str ra
  subst ev ea rx
  refine ⟨a, _, rfl, .inl (.inl (.inl (g.f _ _ fa))), rfl, by rw [List.all_map]; exact List.all_eq_true.mpr fun _ _ => rfl, ?_⟩
  show Q (.bl (inV _ _)) H
  rw [inV_str]
  exact fl (gA := V.bl) q g
theorem v_niL : VOp (rIn X.K true) tStr (tLst tStr) tBool (fun x y => some (!decide (x ∈ y))) := by
  intro x y z v u F M H Q e ⟨_, rx⟩ ⟨_, a, vs, ea, fa, ra⟩ g q
  cases e
  have ev := allR_str ra
  subst ev ea rx
  refine ⟨a, _, rfl, .inl (.inl (.inl (g.f _ _ fa))), rfl, by rw [List.all_map]; exact List.all_eq_true.mpr fun _ _ => rfl, ?_⟩
  show Q (.bl (!inV _ _)) H
  rw [inV_str]
  exact fl (gA := V.bl) q g
theorem re_inL {m : SM (OT os) (List Nat)} {n : SM (OT os) (List (List Nat))} (ha : RE X Γ os a tStr m) (hb : RE X Γ os b (tLst tStr) n) (hm : behindInMarks .In b = false := by rfl) : RE X Γ os (.Compare a [.In] [b] pos) tBool (SM.bind m fun x => SM.bind n fun y => SM.lift (some (decide (x ∈ y)))) := re_cmp op_in_seq v_inL imF im_lst ha hb hm
theorem rt_inL {m : SM (OT os) (List Nat)} {n : SM (OT os) (List (List Nat))} (ha : RE X Γ os a tStr m) (hb : RE X Γ os b (tLst tStr) n) (hm : behindInMarks .In b = false := by rfl) : RT X Γ os (.Compare a [.In] [b] pos) (SM.bind m fun x => SM.bind n fun y => SM.lift (some (decide (x ∈ y)))) := rt_cmp op_in_seq v_inL imF im_lst ha hb hm
theorem re_niL {m : SM (OT os) (List Nat)} {n : SM (OT os) (List (List Nat))} (ha : RE X Γ os a tStr m) (hb : RE X Γ os b (tLst tStr) n) (hm : behindInMarks .NotIn b = false := by rfl) : RE X Γ os (.Compare a [.NotIn] [b] pos) tBool (SM.bind m fun x => SM.bind n fun y => SM.lift (some (!decide (x ∈ y)))) := re_cmp op_notIn_seq v_niL imF im_lst ha hb hm
theorem rt_niL {m : SM (OT os) (List Nat)} {n : SM (OT os) (List (List Nat))} (ha : RE X Γ os a tStr m) (hb : RE X Γ os b (tLst tStr) n) (hm : behindInMarks .NotIn b = false := by rfl) : RT X Γ os (.Compare a [.NotIn] [b] pos) (SM.bind m fun x => SM.bind n fun y => SM.lift (some (!decide (x ∈ y)))) := rt_cmp op_notIn_seq v_niL imF im_lst ha hb hm
end
end Mi

namespace Mi
open PySem PySem.Spec PyProof.Rows L2
abbrev okL (l : List (List Nat)) : Bool := l.all okC
theorem dp_str {K : PySem.W.Frag} {H : Hp} : ∀ l : List (List Nat), DpAll K H (l.map fun s => V.str (sOf s)) (l.map fun s => PyData.str (sOf s))
  | [] => .nil
  | c :: l => .cons (.str _) (dp_str l)
theorem can_str : ∀ l : List (List Nat), okL l = true → PyData.canLayAll0 (l.map fun s => PyData.str (sOf s)) = true
  | [], _ => rfl
  | c :: l, h => by
    have h' : okC c = true ∧ okL l = true := by
      have z : (okC c && okL l) = true := h
      rwa [Bool.and_eq_true] at z
    show PyData.canLayAll0 (PyData.str (sOf c) :: _) = true
    rw [PyData.canLayAll0, can_str l h'.2, PyData.canLay0, Bool.and_true]
    show (c.toArray.all fun c => decide (c < 1114112)) = true
    have z := h'.1
    simpa [okC] using z
theorem dep_str : ∀ l : List (List Nat), PyData.depthAll (l.map fun s => PyData.str (sOf s)) ≤ 1
  | [] => by decide
  | c :: l => by
    show PyData.depthAll (PyData.str (sOf c) :: _) ≤ 1
    have ih := dep_str l
    rw [PyData.depthAll]
    have h : (PyData.str (sOf c)).depth ≤ 1 := by rw [PyData.depth] <;> decide
    omega
theorem shp_str (l : List (List Nat)) (hl : okL l = true) : SeqAt.shaped (.list (l.map fun s => PyData.str (sOf s))) = true := by
  unfold SeqAt.shaped
  rw [Bool.and_eq_true]
  refine ⟨?_, decide_eq_true ?_⟩
  · rw [PyData.canLay0]; exact can_str l hl
  · have h := dep_str l
    rw [PyData.depth]
    omega
theorem eqv_str0 (l : List (List Nat)) : PyData.eqv (.list (l.map fun s => PyData.str (sOf s))) (.list []) = decide (l = []) := by
  rw [PyData.eqv]
  cases l with
  | nil => rw [List.map_nil, PyData.eqvAll]; rfl
  | cons c l => rw [List.map_cons, PyData.eqvAll]; rfl
section
variable {X : Cx} {N : List Str} {sc : Scope} {B : List Str} {k : Nat} {Γ : Ctx} {os os' : Os} {pos p p1 p2 p3 cpos apos : Pos} {e a b : Expr} {es : List Expr} {t u : Ty}
theorem v_eqL0 : VOp (rEqD X.K) (tLst tStr) (tLst tStr) tBool (fun x y => if y = [] ∧ okL x = true then some (decide (x = [])) else none) := by
  intro x y z v u F M H Q e ⟨_, a, vs, ea, fa, ra⟩ ⟨_, b, us, eb, fb, rb⟩ g q
  have e' : (if y = [] ∧ okL x = true then some (decide (x = [])) else none) = some z := e
  by_cases hy : y = [] ∧ okL x = true
  · rw [if_pos hy] at e'
    cases e'
    obtain ⟨hy, hx⟩ := hy
    subst hy
    have e1 := allR_str ra
    have e2 : us = [] := rb
    subst e1 e2 ea eb
    refine ⟨.list (x.map fun c => PyData.str (sOf c)), .list [], .lst (.inl (.inl (g.f _ _ fa))) (dp_str x), .lst (.inl (.inl (g.f _ _ fb))) .nil, shp_str x hx, shp_chr [] rfl, ?_⟩
    rw [eqv_str0]
    exact fl (gA := V.bl) q g
  · rw [if_neg hy] at e'; cases e'
theorem v_neL0 : VOp (rNeD X.K) (tLst tStr) (tLst tStr) tBool (fun x y => if y = [] ∧ okL x = true then some (!decide (x = [])) else none) := by
  intro x y z v u F M H Q e ⟨_, a, vs, ea, fa, ra⟩ ⟨_, b, us, eb, fb, rb⟩ g q
  have e' : (if y = [] ∧ okL x = true then some (!decide (x = [])) else none) = some z := e
  by_cases hy : y = [] ∧ okL x = true
  · rw [if_pos hy] at e'
    cases e'
    obtain ⟨hy, hx⟩ := hy
    subst hy
    have e1 := allR_str ra
    have e2 : us = [] := rb
    subst e1 e2 ea eb
    refine ⟨.list (x.map fun c => PyData.str (sOf c)), .list [], .lst (.inl (.inl (g.f _ _ fa))) (dp_str x), .lst (.inl (.inl (g.f _ _ fb))) .nil, shp_str x hx, shp_chr [] rfl, ?_⟩
    rw [eqv_str0]
    exact fl (gA := V.bl) q g
  · rw [if_neg hy] at e'; cases e'
theorem re_eqL0 (xo : XOk X N sc B k) {m n : SM (OT os) (List (List Nat))} (ha : RE X Γ os a (tLst tStr) m) (hb : RE X Γ os (.List [] p) (tLst tStr) n) :
    RE X Γ os (.Compare a [.Eq] [.List [] p] pos) tBool (SM.bind m fun x => SM.bind n fun y => SM.lift (if y = [] ∧ okL x = true then some (decide (x = [])) else none)) := re_cmp (op_eqD (units_ok xo)) v_eqL0 im_lst im_lst ha hb
theorem re_neL0 (xo : XOk X N sc B k) {m n : SM (OT os) (List (List Nat))} (ha : RE X Γ os a (tLst tStr) m) (hb : RE X Γ os (.List [] p) (tLst tStr) n) :
    RE X Γ os (.Compare a [.NotEq] [.List [] p] pos) tBool (SM.bind m fun x => SM.bind n fun y => SM.lift (if y = [] ∧ okL x = true then some (!decide (x = [])) else none)) := re_cmp (op_neD (units_ok xo)) v_neL0 im_lst im_lst ha hb
theorem rt_eqL0 (xo : XOk X N sc B k) {m n : SM (OT os) (List (List Nat))} (ha : RE X Γ os a (tLst tStr) m) (hb : RE X Γ os (.List [] p) (tLst tStr) n) :
    RT X Γ os (.Compare a [.Eq] [.List [] p] pos) (SM.bind m fun x => SM.bind n fun y => SM.lift (if y = [] ∧ okL x = true then some (decide (x = [])) else none)) := rt_cmp (op_eqD (units_ok xo)) v_eqL0 im_lst im_lst ha hb
theorem rt_neL0 (xo : XOk X N sc B k) {m n : SM (OT os) (List (List Nat))} (ha : RE X Γ os a (tLst tStr) m) (hb : RE X Γ os (.List [] p) (tLst tStr) n) :
    RT X Γ os (.Compare a [.NotEq] [.List [] p] pos) (SM.bind m fun x => SM.bind n fun y => SM.lift (if y = [] ∧ okL x = true then some (!decide (x = [])) else none)) := rt_cmp (op_neD (units_ok xo)) v_neL0 im_lst im_lst ha hb
/-! ### text.index(sign) -/
def idxC (l : List Nat) (c : Nat) : Option Nat := (Builtin.Str.occurrences (sOf l) (sOf [c]) 0 (sOf l).length 1).head?
theorem re_index {ob : Expr} {mo : SM (OT os) (List Nat)} {m : SM (OT os) (AT [tChr])} (ho : RE X Γ os ob tStr mo) (ha : RA X Γ os [e] [tChr] m)
    (hbase : attributeBase ob "index" X.env (eval ob X.env) = eval ob X.env := by rfl) (hline : (apos.endLine == pos.line) = true := by rfl)
    (he : starEach [e] X.env = (false, eval e X.env) :: starEach [] X.env := by rfl)
    (hpl : (backTo pos (starEach [] X.env)).any (·.1) = false := by rfl)
    (hfew : ((backTo pos (starEach [e] X.env)).all (fun x => !x.1) && (backToKw pos (keywordEach [] X.env)).all (fun x => x.1.isSome)
      && decide ([e].length + ([] : List Keyword).length + (if ([] : List Keyword).isEmpty then 0 else 1) < 30)) = true := by rfl) :
    RE X Γ os (.Call (.Attribute ob "index" apos) [e] [] pos) tInt (SM.bind mo fun x => SM.bind m fun y => SM.lift ((idxC x y.1).map fun (i : Nat) => (i : Int))) := by
  refine re_bm (to := tStr) (ts := [tChr]) (tc := tInt) (f := fun x y => (idxC x y.1).map fun (i : Nat) => (i : Int)) F.plainAttrs_str F.slot_str_index F.type_str_index mt_sindex (fun r _ => by
    obtain ⟨_, e⟩ := r; subst e; rfl) (fun {x y z v vs F M H Q} e hx hy g q => ?_) imF ho ha hbase hline he hpl hfew
  obtain ⟨_, ea⟩ := hx
  obtain ⟨v1, us, e1, ⟨_, ev⟩, e2⟩ := hy
  have e2' : us = [] := e2
  have ev' : v1 = V.str (sOf [y.1]) := ev
  subst e2' e1 ev' ea
  obtain ⟨i, hi, ez⟩ := Option.map_eq_some_iff.mp (show (idxC x y.1).map (fun (i : Nat) => (i : Int)) = some z from e)
  subst ez
  unfold idxC at hi
  cases ho : Builtin.Str.occurrences (sOf x) (sOf [y.1]) 0 (sOf x).length 1 with
  | nil => rw [ho] at hi; cases hi
  | cons j r =>
    rw [ho] at hi
    cases hi
    exact ⟨sOf x, sOf [y.1], _, r, rfl, rfl, ho, fl (gA := V.int) q g⟩
/-! ### ''.join(texts) -/
theorem join_str (l : List (List Nat)) : Txt.join (sOf []) (l.map sOf) = sOf l.flatten := by
  have z : (Txt.join (sOf []) (l.map sOf)).cps.toList = l.flatten := by
    show (Builtin.Str.glued (sOf []) (l.map sOf)).cps.toList = l.flatten
    cases l with
    | nil => rfl
    | cons c r =>
      show ((r.map sOf).foldl (fun acc p => acc ++ (sOf []).cps ++ p.cps) (sOf c).cps).toList = c ++ r.flatten
      rw [PySem.StrLaws.glue_fold]
      have h : ∀ r : List (List Nat), PySem.StrLaws.glueL (sOf []).cps.toList (r.map sOf) = r.flatten := by
        intro r
        induction r with
        | nil => rfl
        | cons d r ih =>
          show [] ++ (d ++ PySem.StrLaws.glueL _ _) = d ++ r.flatten
          rw [ih] <;> rfl
      rw [h] <;> rfl
  generalize Txt.join (sOf []) (l.map sOf) = y at z
  cases y with
  | mk a => show (⟨a⟩ : Str) = ⟨l.flatten.toArray⟩; rw [← z]
theorem str_sum : ∀ l : List (List Nat), ((l.map sOf).map (·.length)).sum = l.flatten.length
  | [] => rfl
  | c :: l => by
    rw [List.map_cons, List.map_cons, List.sum_cons, str_sum l, List.flatten_cons, List.length_append]
    rfl
theorem re_join0L {j : Nat} {m : SM (OT os) (List (List Nat))} (h : RE X Γ os e (tLst tStr) m) (hline : (apos.endLine == pos.line) = true := by rfl) (he : starEach [e] X.env = (false, eval e X.env) :: starEach [] X.env := by rfl)
    (hpl : (backTo pos (starEach [] X.env)).any (·.1) = false := by rfl)
    (hfew : ((backTo pos (starEach [e] X.env)).all (fun x => !x.1) && (backToKw pos (keywordEach [] X.env)).all (fun x => x.1.isSome)
      && decide ([e].length + ([] : List Keyword).length + (if ([] : List Keyword).isEmpty then 0 else 1) < 30)) = true := by rfl) :
    RE X Γ os (.Call (.Attribute (.Constant (.str "") j p) "join" apos) [e] [] pos) tStr (SM.bind (SM.ret ([] : List Nat)) fun _ => SM.bind (SM.bind m fun x => SM.bind (SM.ret ()) fun y => SM.ret (x, y)) fun x => SM.lift (if x.1.flatten.length ≤ 16777216 then some x.1.flatten else none)) := by
  have hr : RA X Γ os [e] [tLst tStr] _ := ra_cons im_lst h ra_nil he
  refine re_bm (to := tC0) (ts := [tLst tStr]) (tc := tStr) (f := fun s x => if x.1.flatten.length ≤ 16777216 then some x.1.flatten else none) F.plainAttrs_str F.slot_str_join F.type_str_join mt_join (fun r _ => by
    obtain ⟨_, e⟩ := r; subst e; rfl) (fun {x y z v vs F M H Q} e hx hy g q => ?_) im_c0 re_c0 hr rfl hline he hpl hfew
  obtain ⟨_, ea⟩ := hx
  obtain ⟨v1, us, e1, ⟨_, a, ws, ea1, fa, r⟩, e2⟩ := hy
  have e2' : us = [] := e2
  subst e2' e1 ea1 ea
  have e' : (if y.1.flatten.length ≤ 16777216 then some y.1.flatten else none) = some z := e
  by_cases hl : y.1.flatten.length ≤ 16777216
  · rw [if_pos hl] at e'
    cases e'
    have ew := allR_str r
    subst ew
    refine ⟨sOf [], a, y.1.map sOf, rfl, rfl, .inl (.inl (.inl ?_)), ?_, ?_⟩
    · rw [List.map_map]; exact g.f _ _ fa
    · rw [str_sum]; show y.1.flatten.length + _ * 0 ≤ _; omega
    · rw [join_str]
      exact fl (gA := fun l => V.str (sOf l)) q g
  · rw [if_neg hl] at e'; cases e'
/-! ### d.get(k, x) -/
theorem re_get2 (xo : XOk X N sc B k) {ob : Expr} {m : SM (OT os) (List (List Nat × t.A))} {n : SM (OT os) (List Nat)} {r : SM (OT os) t.A} (it : Imm t) (ho : RE X Γ os ob (tDct t) m) (ha : RE X Γ os a tStr n) (hb : RE X Γ os b t r)
    (m2 : M2 X ob "get" apos a b pos := by exact ⟨rfl, rfl, rfl, rfl⟩) :
    RE X Γ os (.Call (.Attribute ob "get" apos) [a, b] [] pos) t (SM.bind m fun x => SM.bind n fun y => SM.bind r fun z => SM.ret ((dget y x).getD z)) := by
  intro σ F M R H o W Q tk c w g h
  refine ⟨_, pe_dget2 (hu1 xo) (pe_best X ob) (pe_best X a) (pe_best X b) m2, ?_⟩
  refine one_end (ta := tDct t) im_dct ho tk c w g h fun x o2 v F2 M2' H2 h2 s2 w2 g2 r1 => ?_
  obtain ⟨_, d, kvs, ev, fd, rk⟩ := r1
  refine ⟨d, ev, .inl ⟨kvs, rd_good g2 fd⟩, ?_⟩
  refine two_ends (ta := tStr) (tb := t) imF it ha hb tk (c.mono s2) w2 g2 (h2.imp (fun _ _ z => NormE.mono z s2) fun _ _ z => z.mono s2) fun y z o3 vy vz F3 M3 H3 h3 s3 w3 g3 r2 r3 => ?_
  obtain ⟨_, ey⟩ := r2
  have rk3 := rk.mono s3
  have z1 := rk3.val (k := y)
  refine ⟨_, .inl ⟨kvs, .inr (sOf y), rd_good g3 (fd.imp (s3 _ _) fun ⟨o, h⟩ => ⟨o, s3 _ _ h⟩), ey, rfl⟩, ?_⟩
  cases hd : dget y x with
  | none =>
    rw [hd] at z1
    rw [z1]
    have h3' : NormE os t σ F2 R Q ((dget y x).getD z) o3 := h3
    rw [hd] at h3'
    exact h3' vz F3 M3 emp M3 H3 s3 w3 (sep_emp_l M3) g3 r3
  | some q =>
    rw [hd] at z1
    obtain ⟨w1, e1, e2⟩ := z1
    rw [e1]
    have h3' : NormE os t σ F2 R Q ((dget y x).getD z) o3 := h3
    rw [hd] at h3'
    have e := it e2
    exact h3' w1 F3 M3 emp M3 H3 s3 w3 (sep_emp_l M3) g3 e2
end
end Mi

namespace Mi
open PySem PySem.Spec PyProof.Rows L2
/-- a record of which one field is known -/
abbrev tHas (n : List Nat) (t : Ty) : Ty := imTy t.A (fun x v F => ∃ a kvs w, v = .ref a ∧ Rd F a (.dK kvs) ∧ valV kvs (.inr (sOf n)) = some w ∧ t.rep x w F emp) fun ⟨a, kvs, w, e, q, z, r⟩ s => ⟨a, kvs, w, e, q.imp (s _ _) fun ⟨o, h⟩ => ⟨o, s _ _ h⟩, z, t.mono r s⟩
theorem im_has {n : List Nat} {t : Ty} : Imm (tHas n t) := fun a => a.1
theorem cv_has {fs : List (List Nat × Ty)} {n : List Nat} {t : Ty} (f : RFld fs n t) (hb : f.okB = true) : Cv (tRec fs) (tHas n t) f.get := fun ⟨e, a, kvs, ev, fa, rk⟩ => by
  obtain ⟨w, w1, w2⟩ := f.val hb rk
  exact ⟨e, a, kvs, w, ev, fa, w1, w2⟩
theorem cv_hasC {n : List Nat} {t u : Ty} {g : t.A → u.A} (h : Cv t u g) : Cv (tHas n t) (tHas n u) g := fun ⟨e, a, kvs, w, ev, fa, w1, w2⟩ => ⟨e, a, kvs, w, ev, fa, w1, h w2⟩
theorem cv_trans {t u w : Ty} {f : t.A → u.A} {g : u.A → w.A} (h : Cv t u f) (h2 : Cv u w g) : Cv t w (fun x => g (f x)) := fun r => h2 (h r)
section
variable {X : Cx} {N : List Str} {sc : Scope} {B : List Str} {k : Nat} {Γ : Ctx} {os os' : Os} {pos p p1 p2 p3 cpos apos : Pos} {e a b : Expr} {es : List Expr} {t u : Ty}
theorem re_fldH (xo : XOk X N sc B k) {n : List Nat} {z : Str} {j : Nat} {m : SM (OT os) t.A} (it : Imm t) (ha : RE X Γ os a (tHas n t) m) (hz : z = sOf n := by rfl) (hs : NoSl (.Constant (.str z) j p) := by exact fun _ _ => rfl) :
    RE X Γ os (.Subscript a (.Constant (.str z) j p) pos) t m := by
  intro σ F M R H o W Q tk c w g h
  refine ⟨_, pe_dget (hu1 xo) (pe_best X a) pe_str hs, ?_⟩
  refine ha σ F M R H o W _ tk c w g (h.imp (fun x o1 z1 => ?_) fun _ _ z => z)
  intro v F' M1 mm M' H' s w' p' g' ⟨e1, d, kvs, w1, ev, fd, hv, r⟩
  subst e1
  have e := p'.emp_l; subst e
  subst hz
  refine ⟨d, w1, ev, .inl ⟨kvs, .inr (sOf n), rd_good g' fd, rfl, hv.symm⟩, ?_⟩
  exact (show NormE os t σ F R Q x o1 from z1) w1 F' _ emp _ H' s w' (sep_emp_l _) g' r
variable {G : FX} {L : LC} {β : Type} {Γn : β → Ctx} {osn : Os} {rest : List Stmt}
/-- return x, x ours -/
theorem rs_retO (xo : XOk X N sc B k) {i j : Nat} {nm : Str} {kd : NameKind} (h : OSel os i G.tr os') (hS : OSub os' G.ps) (hj : sc.names[j]? = some (nm, kd)) (hk : visK kd = true := by rfl) (hN : N[i]? = some nm := by rfl) :
    RS X G L Γ os (.Return (some (.Name nm p)) pos) Γn osn (fun o => some (.ret (h.get o) (hS.map (h.rest o)))) := by
  intro σ F M R H o W D tk c w g q
  obtain ⟨v, m0, M', e0, r0, s0, w0⟩ := h.own w
  obtain ⟨d1, d2, _⟩ := xo.db j nm kd hj
  refine ⟨_, ps_ret (pe_var (by rw [xo.nN]; exact hN) (xo.vs j nm kd hj hk) d1 d2), v, e0, ?_⟩
  obtain ⟨M0, s1, w1⟩ := hS.own w0
  refine (show RetS G σ F R D.rt (h.get o) (hS.map (h.rest o)) from q) v σ F M0 m0 (uni m0 M0) H (.refl F) .refl w1 (sep_mk fun a => (s0.dis a).imp id fun y => s1.none y) (g.less fun a u hh => ?_) r0
  cases y : m0 a with
  | some u' => rw [uni_l y] at hh; exact s0.l a u (by rw [y]; exact hh)
  | none => rw [uni_r y] at hh; exact s0.r a u (s1 a u hh)
end
end Mi

namespace Mi
open PySem PySem.Spec PyProof.Rows L2
section
variable {X : Cx} {N : List Str} {sc scope : Scope} {B : List Str} {k : Nat} {Γ : Ctx} {os os' : Os} {pos p p1 p2 p3 cpos apos lpos : Pos} {e a b : Expr} {es : List Expr} {t u : Ty} {elt tg iter : Expr} {ifs : List Expr}
variable {G : FX} {L : LC} {β : Type} {Γn : β → Ctx} {osn : Os} {rest : List Stmt}
theorem sw_envL {y : Str} {py : Pos} {v : Expr} {ln : Nat} {env env' : Env} (hb : env.blockKind = env'.blockKind) (hy : env.kindOf y = env'.kindOf y) : swapsWith v (some (.Name y py)) ln env = swapsWith v (some (.Name y py)) ln env' := by
  unfold swapsWith
  simp only [hb, hy]
/-- stored by itself where the name is captured -/
theorem sw_at (xo : XOk X N sc B k) {y : Str} {py : Pos} {v : Expr} {ln j : Nat} {kd : NameKind} {r : Sem Bool} (hj : sc.names[j]? = some (y, kd)) (hk : kd ≠ .free) (h : swapsWith v (some (.Name y py)) ln (env0 X.env [(y, kd)]) = r) : swapsWith v (some (.Name y py)) ln X.env = r := by
  refine (sw_envL (bk_env xo [(y, kd)]) ((ko xo hj hk).trans ?_)).trans h
  show _ = List.lookup y [(y, kd)]
  rw [List.lookup_cons_self]
/-- x = [..], x a local: stays as it is -/
theorem rb_asgLc {Lks : Md → Prop} (lks : Lks X.md) (xo : XOk X N sc B k) (hS : OSub os G.ps) (own : List (Str × Nat)) (kp : List Nat) (i j : Nat) {nm : Str} {mi : SM (OT os) (List t.A)} {Γx : t.A → Ctx} {mt : t.A → SM (OT os) Bool} {me : t.A → SM (OT os) u.A} {kk : List u.A → OT os → OutT G L β osn} (iu : Imm u)
    (hi : RI X Γ os tg iter t mi)
    (hg : ∀ X', XOk X' N scope B k → RG X' kp (wipeC Γ (own.map (·.2))) os tg t Γx)
    (ht : ∀ X', Lks X'.md → XOk X' N scope B k → ∀ x, RTs X' (Γx x) os ifs (mt x))
    (he : ∀ X', Lks X'.md → XOk X' N scope B k → ∀ x, RE X' (Γx x) os elt u (me x))
    (hk : ∀ x, RB X G L (Γ.set i (some ⟨tLst u, x⟩)) os rest Γn osn (kk x))
    (hj : sc.names[j]? = some (nm, .local) := by rfl) (hN : N[i]? = some nm := by rfl) (hf : noSlot i os = true := by rfl) (hkq : G.kp.all (· != i) = true := by rfl)
    (hsw : swapsWith (.ListComp elt [⟨tg, iter, ifs, 0⟩] scope lpos) (some (.Name nm p)) pos.line (env0 X.env [(nm, .local)]) = pure true := by rfl)
    (hb : blkB N sc scope own = true := by decide +kernel) (hkp : (List.range Γ.length).all (fun i => (own.map (·.2)).contains i || kp.contains i) = true := by rfl)
    (ho : (own.all fun p => noSlot p.2 os) = true := by rfl)
    (hs : ∀ x, foldedSetIterable iter X.env x = pure x := by intro _; rfl) :
    RB X G L Γ os (.Assign [.Name nm p] (.ListComp elt [⟨tg, iter, ifs, 0⟩] scope lpos) pos :: rest) Γn osn (fun o => bindX hS ((SM.bind mi fun xs => if xs.length ≤ sizeLine then mapS mt me xs else SM.fail) o) kk) := by
  obtain ⟨wi, g, tt, te, h1, ok, h2, h3, h4, h5⟩ := lc_read lks xo own kp iu hi hg ht he hb hkp ho hs
  intro σ F M R H o W D tk c w gd q
  refine ⟨_, pss_cons (ps_setLc (i := i) xo.calm xo.nd (by rw [xo.nN]; exact hN) (xo.lo j nm _ hj (by decide)) (sw_at xo hj (by decide) hsw) h1 ok h2 h3 h4 hs) (pss_best X rest), ?_⟩
  refine h5 σ F M R H o W (fun v H1 => bestB X rest D (σ.set i (some v)) H1) tk c w gd (q.bindX.imp (fun x o1 z => ?_) fun _ _ z => z)
  intro v F' M1 mm M' H' s' w' p' g' r'
  obtain ⟨g2, s2, _⟩ := g'.freeze p'
  have d : ∀ q, mm q = none ∨ F' q = none := fun q => by
    rcases g'.dis q with z | z
    · exact .inr z
    · exact .inl (p'.none z).1
  exact hk x (σ.set i (some v)) _ M1 R H' o1 W D tk ((c.mono (s'.trans s2)).set (frz_own r' d)) ((w'.mono s2).set hf) g2 (z.mono (s'.trans s2) (keep_set hkq))
/-- .. ours -/
theorem rb_asgLcO {Lks : Md → Prop} (lks : Lks X.md) (xo : XOk X N sc B k) (hS : OSub os G.ps) (own : List (Str × Nat)) (kp : List Nat) (i j : Nat) {nm : Str} {mi : SM (OT os) (List t.A)} {Γx : t.A → Ctx} {mt : t.A → SM (OT os) Bool} {me : t.A → SM (OT os) u.A} {kk : OT ((i, tOwn u) :: os) → OutT G L β osn} (iu : Imm u)
    (hi : RI X Γ os tg iter t mi)
    (hg : ∀ X', XOk X' N scope B k → RG X' kp (wipeC Γ (own.map (·.2))) os tg t Γx)
    (ht : ∀ X', Lks X'.md → XOk X' N scope B k → ∀ x, RTs X' (Γx x) os ifs (mt x))
    (he : ∀ X', Lks X'.md → XOk X' N scope B k → ∀ x, RE X' (Γx x) os elt u (me x))
    (hk : RB X G L (Γ.set i none) ((i, tOwn u) :: os) rest Γn osn kk)
    (hj : sc.names[j]? = some (nm, .local) := by rfl) (hN : N[i]? = some nm := by rfl) (hf : noSlot i os = true := by rfl) (hkq : G.kp.all (· != i) = true := by rfl) (hlt : Nat.ble (i + 1) Γ.length = true := by rfl)
    (hsw : swapsWith (.ListComp elt [⟨tg, iter, ifs, 0⟩] scope lpos) (some (.Name nm p)) pos.line (env0 X.env [(nm, .local)]) = pure true := by rfl)
    (hb : blkB N sc scope own = true := by decide +kernel) (hkp : (List.range Γ.length).all (fun i => (own.map (·.2)).contains i || kp.contains i) = true := by rfl)
    (ho : (own.all fun p => noSlot p.2 os) = true := by rfl)
    (hs : ∀ x, foldedSetIterable iter X.env x = pure x := by intro _; rfl) :
    RB X G L Γ os (.Assign [.Name nm p] (.ListComp elt [⟨tg, iter, ifs, 0⟩] scope lpos) pos :: rest) Γn osn (fun o => bindX hS ((SM.bind mi fun xs => if xs.length ≤ sizeLine then mapS mt me xs else SM.fail) o) fun x o => kk (x, o)) := by
  obtain ⟨wi, g, tt, te, h1, ok, h2, h3, h4, h5⟩ := lc_read lks xo own kp iu hi hg ht he hb hkp ho hs
  intro σ F M R H o W D tk c w gd q
  refine ⟨_, pss_cons (ps_setLc (i := i) xo.calm xo.nd (by rw [xo.nN]; exact hN) (xo.lo j nm _ hj (by decide)) (sw_at xo hj (by decide) hsw) h1 ok h2 h3 h4 hs) (pss_best X rest), ?_⟩
  refine h5 σ F M R H o W (fun v H1 => bestB X rest D (σ.set i (some v)) H1) tk c w gd (q.bindX.imp (fun x o1 z => ?_) fun _ _ z => z)
  intro v F' M1 mm M' H' s' w' p' g' r'
  exact hk (σ.set i (some v)) F' M' R H' (x, o1) W D tk ((c.mono s').out) ⟨v, mm, M1, List.getElem?_set_self (by rw [← c.1]; exact Nat.le_of_ble_eq_true hlt), r', p', w'.set hf⟩ g' (z.mono s' (keep_set hkq))
end
end Mi

namespace Mi
open PySem PySem.Spec PyProof.Rows L2
/-! ### instances -/
abbrev Flds : Type 1 := List (Str × Ty)
def InsR : (fs : Flds) → AT (fs.map (·.2)) → List (Str × V) → Hp → Prop
  | [], _, ws, _ => ws = []
  | f :: r, x, ws, F => ∃ w l, ws = (f.1, w) :: l ∧ f.2.rep x.1 w F emp ∧ InsR r x.2 l F
theorem InsR.mono : ∀ {fs : Flds} {x : AT (fs.map (·.2))} {ws : List (Str × V)} {F F' : Hp}, InsR fs x ws F → Sub F F' → InsR fs x ws F'
  | [], _, _, _, _, h, _ => h
  | f :: _, _, _, _, _, ⟨w, l, e, q, k⟩, s => ⟨w, l, e, f.2.mono q s, k.mono s⟩
theorem InsR.keys : ∀ {fs : Flds} {x : AT (fs.map (·.2))} {ws : List (Str × V)} {F : Hp}, InsR fs x ws F → ws.map (·.1) = fs.map (·.1)
  | [], _, ws, _, h => by have h' : ws = [] := h; rw [h'] <;> rfl
  | _ :: _, _, _, _, ⟨w, l, e, q, k⟩ => by rw [e, List.map_cons, List.map_cons, k.keys]
def atSnoc {f : Str} {t : Ty} : (fs : Flds) → AT (fs.map (·.2)) → t.A → AT ((fs ++ [(f, t)]).map (·.2))
  | [], _, y => (y, ())
  | _ :: r, x, y => (x.1, atSnoc r x.2 y)
theorem InsR.snoc {f : Str} {t : Ty} {y : t.A} {w : V} {F : Hp} (r : t.rep y w F emp) : ∀ {fs : Flds} {x : AT (fs.map (·.2))} {ws : List (Str × V)}, InsR fs x ws F → InsR (fs ++ [(f, t)]) (atSnoc fs x y) (ws ++ [(f, w)]) F
  | [], _, ws, h => by have h' : ws = [] := h; subst h'; exact ⟨w, [], rfl, r, rfl⟩
  | _ :: _, _, _, ⟨v, l, e, q, k⟩ => by subst e; exact ⟨v, _, rfl, q, k.snoc r⟩
theorem putF_new {f : Str} {v : V} : ∀ {ws : List (Str × V)}, f ∉ ws.map (·.1) → putF f v ws = ws ++ [(f, v)]
  | [], _ => rfl
  | (g, w) :: r, h => by
    have hg : ¬ g = f := fun e => h (by rw [← e]; exact List.mem_cons_self)
    have ih := putF_new (f := f) (v := v) (ws := r) fun hm => h (List.mem_cons_of_mem _ hm)
    show (if g = f then (g, v) :: r else (g, w) :: putF f v r) = _
    rw [if_neg hg, ih] <;> rfl
/-- an instance that stays -/
abbrev tIns (C : Addr) (fs : Flds) : Ty := imTy (AT (fs.map (·.2))) (fun x v F => ∃ a dx ws, v = .ref a ∧ F a = some (.ins C dx ws) ∧ InsR fs x ws F) fun {x v F F'} h s => by
  obtain ⟨a, dx, ws, e, q, r⟩ := h
  exact ⟨a, dx, ws, e, s _ _ q, InsR.mono (x := x) r s⟩
/-- an instance of ours -/
abbrev tOwnI (C : Addr) (fs : Flds) : Ty := ⟨AT (fs.map (·.2)), fun x v F m => ∃ a dx ws, v = .ref a ∧ a ≠ dx ∧ m = uni (sing a (.ins C dx ws)) (sing dx (.own a)) ∧ InsR fs x ws F, fun {x v F F' m} h s => by
  obtain ⟨a, dx, ws, e, n, q, r⟩ := h
  exact ⟨a, dx, ws, e, n, q, InsR.mono (x := x) r s⟩⟩
theorem im_ins {C : Addr} {fs : Flds} : Imm (tIns C fs) := fun a => a.1
theorem frz_ins {C : Addr} {fs : Flds} : Frz (tOwnI C fs) (tIns C fs) id := fun {x v F m} ⟨a, dx, ws, e, n, q, r⟩ d => by
  subst q
  exact ⟨rfl, a, dx, ws, e, uni_l (uni_l sing_same), InsR.mono (x := x) r (sub_uni d)⟩
/-- the field named so -/
inductive IFld : Flds → Str → Ty → Type 1
  | here {n : Str} {t : Ty} {r : Flds} : IFld ((n, t) :: r) n t
  | there {f : Str × Ty} {n : Str} {t : Ty} {r : Flds} (p : IFld r n t) : IFld (f :: r) n t
def IFld.get : {fs : Flds} → {n : Str} → {t : Ty} → IFld fs n t → AT (fs.map (·.2)) → t.A
  | _, _, _, .here, x => x.1
  | _, _, _, .there p, x => p.get x.2
def IFld.okB : {fs : Flds} → {n : Str} → {t : Ty} → IFld fs n t → Bool
  | _, _, _, .here => true
  | _, n, _, .there (f := f) p => decide (f.1 ≠ n) && p.okB
theorem IFld.val : ∀ {fs : Flds} {n : Str} {t : Ty} (p : IFld fs n t) {x : AT (fs.map (·.2))} {ws : List (Str × V)} {F : Hp}, p.okB = true → InsR fs x ws F → ∃ v, ws.lookup n = some v ∧ t.rep (p.get x) v F emp
  | _, n, _, .here, _, _, _, _, ⟨v, l, e, q, k⟩ => by
    subst e
    exact ⟨v, by rw [List.lookup_cons_self], q⟩
  | _, n, _, .there (f := f) p, _, _, _, hb, ⟨v, l, e, q, k⟩ => by
    subst e
    have hb' : (decide (f.1 ≠ n) && p.okB) = true := hb
    rw [Bool.and_eq_true, decide_eq_true_eq] at hb'
    obtain ⟨w, w1, w2⟩ := p.val hb'.2 k
    refine ⟨w, ?_, w2⟩
    have hn : (n == f.1) = false := by rw [beq_eq_false_iff_ne]; exact fun e => hb'.1 e.symm
    rw [List.lookup_cons, hn]
    exact w1
section
variable {X : Cx} {N : List Str} {sc : Scope} {B : List Str} {k : Nat} {Γ : Ctx} {os os' : Os} {pos p p1 p2 p3 cpos apos : Pos} {e a b : Expr} {es : List Expr} {t u : Ty} {C : Addr} {fs : Flds}
/-- o.f -/
theorem re_attr {f : Str} {m : SM (OT os) (AT (fs.map (·.2)))} (c : Cls X.K C) (n : NoAttr X.K C f) (it : Imm t) (q : IFld fs f t) (ha : RE X Γ os a (tIns C fs) m) (hb : q.okB = true := by decide) (hab : attributeBase a f X.env (eval a X.env) = eval a X.env := by rfl) :
    RE X Γ os (.Attribute a f pos) t (SM.bind m fun x => SM.ret (q.get x)) := by
  intro σ F M R H o W Q tk c' w g h
  refine ⟨_, pe_fld (pe_best X a) hab, ?_⟩
  refine one_end (ta := tIns C fs) im_ins ha tk c' w g h fun x o2 v F2 M2 H2 h2 s2 w2 g2 r1 => ?_
  obtain ⟨_, d, dx, ws, ev, fd, rk⟩ := r1
  obtain ⟨w, w1, w2'⟩ := q.val hb rk
  exact ⟨d, C, dx, ws, w, ev, g2.f _ _ fd, c, n, w1, (show NormE os t σ F R Q (q.get x) o2 from h2) w F2 M2 emp M2 H2 s2 w2 (sep_emp_l M2) g2 w2'⟩
variable {G : FX} {L : LC} {β : Type} {Γn : β → Ctx} {osn : Os} {rest : List Stmt}
/-- o.f = e, a new field -/
theorem rb_setF (xo : XOk X N sc B k) (hS : OSub os G.ps) {i j : Nat} (h : OSel os i (tOwnI C fs) os') {f nm : Str} {kd : NameKind} {me : SM (OT os) t.A} {kk : OT ((i, tOwnI C (fs ++ [(f, t)])) :: os') → OutT G L β osn} (c : Cls X.K C) (n : NoAttr X.K C f) (it : Imm t) (he : RE X Γ os e t me)
    (hk : RB X G L Γ ((i, tOwnI C (fs ++ [(f, t)])) :: os') rest Γn osn kk) (hj : sc.names[j]? = some (nm, kd)) (hkd : visK kd = true := by rfl) (hN : N[i]? = some nm := by rfl)
    (hf : f ∉ fs.map (·.1) := by decide) (hl : Nat.ble fs.length 900 = true := by rfl)
    (hs : swapsWith e (some (.Attribute (.Name nm p) f p2)) pos.line X.env = pure false := by rfl) :
    RB X G L Γ os (.Assign [.Attribute (.Name nm p) f p2] e pos :: rest) Γn osn (fun o => bindX hS (me o) fun y o => kk (atSnoc fs (h.get o) y, h.rest o)) := by
  intro σ F M R H o W D tk cc w g q
  obtain ⟨d1, d2, _⟩ := xo.db j nm kd hj
  refine ⟨_, pss_cons (ps_fld (pe_var (by rw [xo.nN]; exact hN) (xo.vs j nm kd hj hkd) d1 d2) (pe_best X e) hs) (pss_best X rest), ?_⟩
  refine he σ F M R H o W _ tk cc w g (q.bindX.imp (fun x o1 z => ?_) fun _ _ z => z)
  intro v F1 M1 mm M1' H1 s1 w1 p1 g1 r1
  have e := it r1; subst e
  have e := p1.emp_l; subst e
  obtain ⟨v0, m0, M0, e0, ⟨d, dx, ws, ev, nd, em, rk⟩, s0, w0⟩ := h.own w1
  subst ev em
  have hH : H1 d = some (.ins C dx ws) := g1.m _ _ (s0.l _ _ (uni_l sing_same))
  have hlen : ws.length = fs.length := by
    have z := congrArg List.length rk.keys
    rw [List.length_map, List.length_map] at z
    exact z
  refine ⟨.ref d, e0, d, C, dx, ws, rfl, hH, c, n, by rw [hlen]; exact Nat.lt_of_le_of_lt (Nat.le_of_ble_eq_true hl) (by decide), ?_⟩
  rw [putF_new (by rw [rk.keys]; exact hf)]
  -- the instance's own object is changed
  have sd : Sep (sing d (.ins C dx ws)) (sing dx (.own d)) (uni (sing d (.ins C dx ws)) (sing dx (.own d))) := sep_mk fun q => by
    by_cases hq : q = d
    · subst hq; exact .inr (sing_ne nd)
    · exact .inl (sing_ne hq)
  obtain ⟨Gp, gp1, gp2⟩ := sd.comm.assoc s0.comm
  obtain ⟨G2, q1, q2⟩ := gp1.comm.assoc gp2
  obtain ⟨M4, s4, g4⟩ := g1.set (o' := .ins C dx (ws ++ [(f, v)])) q2
  obtain ⟨G3, q3, q4⟩ := q1.comm.assoc s4
  exact hk σ F1 M4 R _ (_, h.rest o1) W D tk (cc.mono s1) ⟨.ref d, G3, M0, e0, ⟨d, dx, _, rfl, nd, q3.eq, InsR.snoc (x := h.get o1) r1 rk⟩, q4.comm, w0⟩ g4 (z.mono s1 .refl)
/-! ### making one -/
theorem sep_ins {d dx : Addr} {o o2 : HO} (n : d ≠ dx) : Sep (sing d o) (sing dx o2) (uni (sing d o) (sing dx o2)) := sep_mk fun q => by
  by_cases hq : q = d
  · subst hq; exact .inr (sing_ne n)
  · exact .inl (sing_ne hq)
/-- an __init__ -/
def spI (mg : Str → Option Value) (C : Addr) (fs : Flds) (ts : List Ty) (fn : AT ts → Option (Except Exn (AT (fs.map (·.2))))) : Sp := fun vs H Q E => ∃ a dx us x F R M, vs = .ref a :: us ∧ a ≠ dx ∧ Sep (uni (sing a (.ins C dx [])) (sing dx (.own a))) R M ∧ ArgsOk ts x us F ∧ Good F M H ∧
  (match fn x with
  | none => False
  | some (.ok y) => ∀ F' m' M' H', Sub F F' → (tOwnI C fs).rep y (.ref a) F' m' → Sep m' R M' → Good F' M' H' → Q .non H'
  | some (.error ex) => ∀ cls d F' H', Sub F F' → Good F' R H' → ExnOk mg ex cls d F' → E cls d H')
def runI {C : Addr} {fs : Flds} {kp : List Nat} {tr : Ty} {L : LC} {β : Type} {i : Nat} (r : OutT ⟨kp, [(i, tOwnI C fs)], tr⟩ L β [(i, tOwnI C fs)]) : Option (Except Exn (AT (fs.map (·.2)))) := match r with
  | some (.nxt n) => some (.ok n.2.1)
  | some (.exc e _) => some (.error e)
  | _ => none
theorem fn_I {M : Md} {x qual : Str} {params : Arguments} {body : List Stmt} {scope : Scope} {f : Addr} {fd : FuncData} {N ps : List Str} {B : List Str} {k : Nat} {dvs : List V} {kws : List (Str × V)} (F : FunD M.K x qual params body scope dvs kws f fd) {Lks : Md → Prop} (lks : Lks M) {C : Addr} {fs : Flds} {ts : List Ty} {β : Type} {Γn : β → Ctx}
    {m : AT ts → OT [(0, tOwnI C [])] → OutT ⟨[0], [(0, tOwnI C fs)], tNone⟩ LC.none β [(0, tOwnI C fs)]}
    (hB : ∀ (i : Nat) (x : Str), B[i]? = some x → M.mg x = none) (hsc : fnScB N ps scope = true) (hl : ts.length + 1 = ps.length)
    (hb : ∀ X, Lks X.md → XOk X N scope B k → XS X → ∀ x, RB X ⟨[0], [(0, tOwnI C fs)], tNone⟩ LC.none (none :: (argCtx ts x ++ List.replicate (N.length - (ts.length + 1)) none)) [(0, tOwnI C [])] body Γn [(0, tOwnI C fs)] (m x)) :
    FnOk M.P M.w M.K M.mg M.base (L2.CX M.P M.w) (k + 1) f fd ps (spI M.mg C fs ts fun x => runI (m x ((), ()))) := by
  obtain ⟨S, hu, hd⟩ := fnScB_ok hsc
  refine F.ok S (fun vs H Q E h => ?_) fun cdv A outer s H vs Q E hr h => ?_
  · obtain ⟨_, _, us, _, _, _, _, rfl, _, _, h, _⟩ := h
    rw [List.length_cons, h.length, hl]
  · obtain ⟨a, dx, us, x, F, R, M1, rfl, nd, s0, ha, g, h⟩ := h
    refine ⟨_, pss_best _ body, ?_⟩
    have hlen := ha.length
    have c := ctx_args (n := N.length - (us.length + 1)) ha
    have c2 : CtxOk (none :: (argCtx ts x ++ List.replicate (N.length - (ts.length + 1)) none)) (L2.start N (.ref a :: us)) F := by
      unfold L2.start
      rw [List.length_cons, hlen]
      rw [hlen] at c
      refine ⟨by have z := c.1; simp only [List.map_cons, List.cons_append, List.length_cons]; rw [z], fun i u y e => ?_⟩
      cases i with
      | zero => cases e
      | succ i => exact c.2 i u y e
    refine hb (cxOf (L2.CX M.P M.w) M.P M.w M.K M.mg M.base N qual scope f cdv A outer s H E) lks (xo_body S hu hd hB hr) xs_body x (L2.start N (.ref a :: us)) F M1 R H ((), ()) (fun cls d _ H => E cls d H) _ takes_body c2 ⟨.ref a, _, R, rfl, ⟨a, dx, [], rfl, nd, rfl, rfl⟩, s0, rfl⟩ g ?_
    revert h
    show (match runI (m x ((), ())) with
      | none => False
      | some (.ok y) => _
      | some (.error ex) => _) → WantS _ _ _ _ _ _ _ _ _ _ (m x ((), ()))
    cases q : m x ((), ()) with
    | none => exact fun h => h.elim
    | some r =>
      cases r with
      | nxt n =>
        intro h σ' F' M' H' s' k' c' w' g'
        obtain ⟨v1, m1, M3, e1, r1, s1, w1⟩ := w'
        have e : M3 = R := w1
        subst e
        have k0 := k'.2 0 (by simp)
        rw [show (L2.start N (.ref a :: us))[0]? = some (some (.ref a)) from rfl] at k0
        have e2 : σ'[0]? = some (some v1) := e1
        rw [k0] at e2
        cases e2
        exact h F' m1 M' H' s' r1 s1 g'
      | brk n => exact fun h => h.elim
      | cnt n => exact fun h => h.elim
      | ret y p => exact fun h => h.elim
      | exc e p =>
        intro h cls d σ' F' M' H' s' k' w' g' x'
        obtain ⟨v1, m1, M3, e1, r1, s1, w1⟩ := w'
        have e : M3 = R := w1
        subst e
        exact h cls d F' H' s' (g'.less s1.r) x'
end
end Mi

namespace Mi
open PySem PySem.Spec PyProof.Rows L2
/-- a class whose instances are made with one value by its place, the others by keyword, all of them -/
def LkMk (M : Md) (nm : Str) (C : Addr) (ps ks : List Str) (fs : Flds) (t1 : Ty) (ts : List Ty) (fn : AT (t1 :: ts) → Option (Except Exn (AT (fs.map (·.2))))) (j : Nat) : Prop := ∃ f fd g, M.mg nm = some (.ref C) ∧ Mk M.K C f ∧ ks.length = ts.length ∧
  FnOk M.P M.w M.K M.mg M.base (L2.CX M.P M.w) j f fd ps (spI M.mg C fs (t1 :: ts) fn) ∧ KBn M.K fd ps 2 ks g (fun vs zs => vs ++ zs)
section
variable {X : Cx} {N : List Str} {sc : Scope} {B : List Str} {k : Nat} {Γ : Ctx} {os os' : Os} {pos p p1 p2 p3 cpos apos : Pos} {e a b : Expr} {es : List Expr} {t u : Ty} {C : Addr} {fs : Flds}
/-- only where nothing is raised -/
def SM.lifo {O A : Type} (m : Option (Except Exn A)) : SM O A := fun o => match m with
  | some (.ok x) => some (.ok x, o)
  | _ => none
theorem re_mk1 (xo : XOk X N sc B k) {nm : Str} {ps ks : List Str} {t1 : Ty} {ts : List Ty} {fn : AT (t1 :: ts) → Option (Except Exn (AT (fs.map (·.2))))} {j : Nat} {kws : List Keyword} {m : SM (OT os) t1.A} {n : SM (OT os) (AT ts)} (l : LkMk X.md nm C ps ks fs t1 ts fn j) (g : Nat) (it : Imm t1)
    (ha : RE X Γ os e t1 m) (hk : RK X Γ os kws ts n) (hg : sc.names[g]? = some (nm, .globalImplicit) := by rfl) (hj : Nat.ble (j + 1) k = true := by rfl)
    (hall : (backToKw pos (keywordEach kws X.env)).all (·.1.isSome) = true := by rfl) (hks : (backToKw pos (keywordEach kws X.env)).filterMap (·.1) = ks := by rfl)
    (he : starEach [e] X.env = (false, eval e X.env) :: starEach [] X.env := by rfl) (hpl : ((backTo pos (starEach [e] X.env)).any (·.1) || (backToKw pos (keywordEach kws X.env)).any (·.1.isNone)) = false := by rfl) :
    RE X Γ os (.Call (.Name nm p) [e] kws pos) (tOwnI C fs) (SM.bind m fun x => SM.bind n fun y => SM.lifo (fn (x, y))) := by
  obtain ⟨f, fd, gg, hm, mk, hlen, F, kb⟩ := l
  intro σ F0 M R H o W Q tk c w gd h
  have hx : Passes (L2.CX X.prog X.w) X (fun _ _ _ => False) := fun _ _ _ _ _ _ _ ⟨_, _, _, _, _, _, _, _, _, _, _, _, z⟩ => z.elim
  refine ⟨_, pe_makeK (n := 1) mk F (xo.room.mono (Nat.le_of_ble_eq_true hj)) (xo.gl g nm hg) hm kb hx (pa_cons (pe_best X e) pa_nil he) (pk_best X kws) hall hks (xo.db g nm _ hg).1 he hpl, ?_⟩
  refine one_end it ha tk c w gd h fun x o2 v F2 M2 H2 h2 s2 w2 g2 r2 => ?_
  refine hk σ F2 M2 R H2 o2 W _ tk (c.mono s2) w2 g2 (h2.bind.imp (fun y o3 z => ?_) fun _ _ z => z.mono s2)
  intro zs F3 M3 H3 s3 w3 g3 r3
  refine ⟨rfl, by rw [r3.length, hlen], fun q dx hq hdx nd => ?_⟩
  obtain ⟨g4, s4⟩ := g3.newM (o := .own q) hdx
  have hq2 : upd H3 dx (.own q) q = none := by rw [upd_ne nd.symm]; exact hq
  obtain ⟨g5, s5⟩ := g4.newM (o := .ins C dx []) hq2
  obtain ⟨G1, a1, a2⟩ := s4.comm.assoc s5
  have hM : G1 = uni (sing q (.ins C dx [])) (sing dx (.own q)) := a1.eq
  subst hM
  refine ⟨q, dx, v :: zs, (x, y), F3, M3, _, rfl, nd.symm, ?_, ⟨v, zs, rfl, t1.mono r2 s3, r3⟩, g5, ?_⟩
  · exact a2.comm
  · have z' := z
    unfold SM.lifo at z'
    cases hf : fn (x, y) with
    | none => rw [hf] at z'; exact z'.elim
    | some r =>
      rw [hf] at z'
      cases r with
      | error ex => exact z'.elim
      | ok y2 => exact fun F' m' M' H' s' r' p' g' => ⟨rfl, (show NormE os (tOwnI C fs) σ F0 R Q y2 o3 from z') (.ref q) F' M3 m' M' H' ((s2.trans s3).trans s') (w3.mono s') p' g' r'⟩
end
end Mi

namespace Mi
open PySem PySem.Spec PyProof.Rows L2
/-- a method of a class, of instances that stay -/
def LkM (M : Md) (C : Addr) (nm : Str) (ps : List Str) (fs : Flds) (ts : List Ty) (tr : Ty) (fn : AT (tIns C fs :: ts) → Option (Except Exn tr.A)) (j : Nat) : Prop := ∃ f fd, Meth M.K C nm f ∧ Binds M.K fd ps [] ∧ FnOk M.P M.w M.K M.mg M.base (L2.CX M.P M.w) j f fd ps (spP M.mg (tIns C fs :: ts) tr fn)
/-- a property -/
def LkR (M : Md) (C : Addr) (nm : Str) (fs : Flds) (tr : Ty) (fn : AT [tIns C fs] → Option (Except Exn tr.A)) (j : Nat) : Prop := ∃ f fd p ps, PropOf M.K C nm p f ∧ Binds M.K fd ps [] ∧ FnOk M.P M.w M.K M.mg M.base (L2.CX M.P M.w) j f fd ps (spP M.mg [tIns C fs] tr fn)
section
variable {X : Cx} {N : List Str} {sc : Scope} {B : List Str} {k : Nat} {Γ : Ctx} {os os' : Os} {pos p p1 p2 p3 cpos apos : Pos} {e a b : Expr} {es : List Expr} {t u : Ty} {C : Addr} {fs : Flds}
theorem pass_none : Passes (L2.CX X.prog X.w) X (fun _ _ _ => False) := fun _ _ _ _ _ _ _ ⟨_, _, _, _, _, _, _, _, _, _, _, _, z⟩ => z.elim
theorem InsR.look {nm : Str} : ∀ {fs : Flds} {x : AT (fs.map (·.2))} {ws : List (Str × V)} {F : Hp}, InsR fs x ws F → nm ∉ fs.map (·.1) → ws.lookup nm = none
  | [], _, ws, _, h, _ => by have h' : ws = [] := h; rw [h'] <;> rfl
  | f :: _, _, _, _, ⟨w, l, e, q, r⟩, hn => by
    subst e
    have hn' : (nm == f.1) = false := by rw [beq_eq_false_iff_ne]; exact fun e => hn (by rw [e]; exact List.mem_cons_self)
    rw [List.lookup_cons, hn']
    exact r.look fun h => hn (List.mem_cons_of_mem _ h)
/-- o.m(e, ..) -/
theorem re_meth (xo : XOk X N sc B k) {nm : Str} {ps : List Str} {ts : List Ty} {tr : Ty} {fn : AT (tIns C fs :: ts) → Option (Except Exn tr.A)} {j : Nat} {mo : SM (OT os) (AT (fs.map (·.2)))} {m : SM (OT os) (AT ts)} (c : Cls X.K C) (l : LkM X.md C nm ps fs ts tr fn j)
    (ho : RE X Γ os a (tIns C fs) mo) (ha : RA X Γ os (e :: es) ts m) (hj : Nat.ble j k = true := by rfl) (hnf : nm ∉ fs.map (·.1) := by decide) {pl : Sem Bool}
    (he : starEach (e :: es) X.env = (false, eval e X.env) :: starEach es X.env := by rfl) (hpl : (backTo pos (starEach es X.env)).any (·.1) = false := by rfl)
    (ht : eval (.Call (.Attribute a nm apos) (e :: es) [] pos) X.env = (do
      let ov ← eval a X.env
      standAt apos.atName
      let (f, first) ← holding [ov] (getMethod ov nm pl)
      callWith pos f first (backTo pos (starEach (e :: es) X.env)) (backToKw pos (keywordEach [] X.env))) := by rfl) :
    RE X Γ os (.Call (.Attribute a nm apos) (e :: es) [] pos) tr (SM.bind mo fun x => SM.bind m fun y => SM.lifo (fn (x, y))) := by
  obtain ⟨f, fd, hm, hb, F⟩ := l
  intro σ F0 M R H o W Q tk cc w gd h
  refine ⟨_, pe_meth (pl := pl) (pe_best X a) c hm F (xo.room.mono (Nat.le_of_ble_eq_true hj)) hb .nil pass_none (pa_best X (e :: es)) he hpl ht, ?_⟩
  refine one_end (ta := tIns C fs) im_ins ho tk cc w gd h fun x o2 v F2 M2 H2 h2 s2 w2 g2 r1 => ?_
  obtain ⟨_, d, dx, ws, ev, fd', rk⟩ := r1
  subst ev
  refine ⟨d, dx, ws, rfl, g2.f _ _ fd', rk.look hnf, ?_⟩
  refine args_end ha tk (cc.mono s2) w2 g2 (h2.imp (fun _ _ z => z) fun _ _ z => z.mono s2) fun y o3 vs F3 M3 H3 h3 s3 w3 g3 r3 => ?_
  refine ⟨(x, y), F3, M3, ⟨.ref d, _, rfl, ⟨rfl, d, dx, ws, rfl, s3 _ _ fd', InsR.mono (x := x) rk s3⟩, by rw [List.append_nil]; exact r3⟩, g3, ?_⟩
  unfold SM.lifo at h3
  cases z : fn (x, y) with
  | none => rw [z] at h3; exact h3.elim
  | some r =>
    rw [z] at h3
    cases r with
    | error ex => exact h3.elim
    | ok y2 => exact fun v F' mm M' H' s' p' g' r' => (show NormE os tr σ F0 R Q y2 o3 from h3) v F' M3 mm M' H' ((s2.trans s3).trans s') (w3.mono s') p' g' r'
/-- o.m() -/
theorem re_meth0 (xo : XOk X N sc B k) {nm : Str} {ps : List Str} {tr : Ty} {fn : AT [tIns C fs] → Option (Except Exn tr.A)} {j : Nat} {mo : SM (OT os) (AT (fs.map (·.2)))} (c : Cls X.K C) (l : LkM X.md C nm ps fs [] tr fn j)
    (ho : RE X Γ os a (tIns C fs) mo) (hj : Nat.ble j k = true := by rfl) (hnf : nm ∉ fs.map (·.1) := by decide) {pl : Sem Bool}
    (ht : eval (.Call (.Attribute a nm apos) [] [] pos) X.env = (do
      let ov ← eval a X.env
      standAt apos.atName
      let (f, first) ← holding [ov] (getMethod ov nm pl)
      callWith pos f first (backTo pos (starEach [] X.env)) (backToKw pos (keywordEach [] X.env))) := by rfl) :
    RE X Γ os (.Call (.Attribute a nm apos) [] [] pos) tr (SM.bind mo fun x => SM.lifo (fn (x, ()))) := by
  obtain ⟨f, fd, hm, hb, F⟩ := l
  intro σ F0 M R H o W Q tk cc w gd h
  refine ⟨_, pe_meth0 (pl := pl) (pe_best X a) c hm F (xo.room.mono (Nat.le_of_ble_eq_true hj)) hb .nil pass_none ht, ?_⟩
  refine one_end (ta := tIns C fs) im_ins ho tk cc w gd h fun x o2 v F2 M2 H2 h2 s2 w2 g2 r1 => ?_
  obtain ⟨_, d, dx, ws, ev, fd', rk⟩ := r1
  subst ev
  refine ⟨d, dx, ws, rfl, g2.f _ _ fd', rk.look hnf, ?_⟩
  refine ⟨(x, ()), F2, M2, ⟨.ref d, [], rfl, ⟨rfl, d, dx, ws, rfl, fd', rk⟩, rfl⟩, g2, ?_⟩
  unfold SM.lifo at h2
  cases z : fn (x, ()) with
  | none => rw [z] at h2; exact h2.elim
  | some r =>
    rw [z] at h2
    cases r with
    | error ex => exact h2.elim
    | ok y2 => exact fun v F' mm M' H' s' p' g' r' => (show NormE os tr σ F0 R Q y2 o2 from h2) v F' M2 mm M' H' (s2.trans s') (w2.mono s') p' g' r'
/-- o.p, a property -/
theorem re_prop (xo : XOk X N sc B k) {nm : Str} {tr : Ty} {fn : AT [tIns C fs] → Option (Except Exn tr.A)} {j : Nat} {mo : SM (OT os) (AT (fs.map (·.2)))} (c : Cls X.K C) (l : LkR X.md C nm fs tr fn j)
    (ho : RE X Γ os a (tIns C fs) mo) (hj : Nat.ble (j + 1) k = true := by rfl) (hab : attributeBase a nm X.env (eval a X.env) = eval a X.env := by rfl) :
    RE X Γ os (.Attribute a nm pos) tr (SM.bind mo fun x => SM.lifo (fn (x, ()))) := by
  obtain ⟨f, fd, p, ps, hm, hb, F⟩ := l
  intro σ F0 M R H o W Q tk cc w gd h
  refine ⟨_, pe_prop (pe_best X a) c hm F (xo.room.mono (Nat.le_of_ble_eq_true hj)) hb .nil (E := fun _ _ _ => False) (fun _ _ _ _ _ _ _ ⟨_, _, _, _, _, _, _, _, _, _, _, _, z⟩ => z.elim) hab, ?_⟩
  refine one_end (ta := tIns C fs) im_ins ho tk cc w gd h fun x o2 v F2 M2 H2 h2 s2 w2 g2 r1 => ?_
  obtain ⟨_, d, dx, ws, ev, fd', rk⟩ := r1
  subst ev
  refine ⟨d, dx, ws, rfl, g2.f _ _ fd', ?_⟩
  refine ⟨(x, ()), F2, M2, ⟨.ref d, [], rfl, ⟨rfl, d, dx, ws, rfl, fd', rk⟩, rfl⟩, g2, ?_⟩
  unfold SM.lifo at h2
  cases z : fn (x, ()) with
  | none => rw [z] at h2; exact h2.elim
  | some r =>
    rw [z] at h2
    cases r with
    | error ex => exact h2.elim
    | ok y2 => exact fun v F' mm M' H' s' p' g' r' => (show NormE os tr σ F0 R Q y2 o2 from h2) v F' M2 mm M' H' (s2.trans s') (w2.mono s') p' g' r'
end
end Mi

namespace Mi
open PySem PySem.Spec PyProof.Rows L2
def dcS {O A C : Type} (mt : A → SM O Bool) (mk : A → SM O (List Nat)) (me : A → SM O C) : List A → List (List Nat × C) → SM O (List (List Nat × C))
  | [], acc => SM.ret acc
  | x :: xs, acc => SM.bind (noX (mt x)) fun b => if b = true then SM.bind (noX (mk x)) fun k => SM.bind (noX (me x)) fun y => dcS mt mk me xs (dput k y acc) else dcS mt mk me xs acc
section
variable {X : Cx} {Γ : Ctx} {os : Os} {N : List Str} {sc scope : Scope} {B : List Str} {k : Nat} {pos : Pos} {t u : Ty} {elt kx tg iter : Expr} {ifs : List Expr}
/-- {kx: elt for tg in iter if ..} -/
theorem dc_read {Lks : Md → Prop} (lks : Lks X.md) (xo : XOk X N sc B k) (own : List (Str × Nat)) (kp : List Nat) {mi : SM (OT os) (List t.A)} {Γx : t.A → Ctx} {mt : t.A → SM (OT os) Bool} {mk : t.A → SM (OT os) (List Nat)} {me : t.A → SM (OT os) u.A} (iu : Imm u)
    (hi : RI X Γ os tg iter t mi)
    (hg : ∀ X', XOk X' N scope B k → RG X' kp (wipeC Γ (own.map (·.2))) os tg t Γx)
    (ht : ∀ X', Lks X'.md → XOk X' N scope B k → ∀ x, RTs X' (Γx x) os ifs (mt x))
    (hk : ∀ X', Lks X'.md → XOk X' N scope B k → ∀ x, RE X' (Γx x) os kx tStr (mk x))
    (he : ∀ X', Lks X'.md → XOk X' N scope B k → ∀ x, RE X' (Γx x) os elt u (me x))
    (hb : blkB N sc scope own = true := by decide +kernel) (hkp : (List.range Γ.length).all (fun i => (own.map (·.2)).contains i || kp.contains i) = true := by rfl)
    (ho : (own.all fun p => noSlot p.2 os) = true := by rfl)
    (hs : ∀ x, foldedSetIterable iter X.env x = pure x := by intro _; rfl) :
    ∃ wi g tt tk te, PI X tg iter wi ∧ BlkOk X.N X.env.scope scope own ∧ (∀ (s : Shared) (H : Hp) (C : Addr) (cl : List (Str × Addr)) (fp : List Addr), PG (X.blk s H scope (compEnvC scope cl C X.env) fp) tg g) ∧
      (∀ (s : Shared) (H : Hp) (C : Addr) (cl : List (Str × Addr)) (fp : List Addr), PTs (X.blk s H scope (compEnvC scope cl C X.env) fp) ifs tt) ∧ (∀ (s : Shared) (H : Hp) (C : Addr) (cl : List (Str × Addr)) (fp : List Addr), PE (X.blk s H scope (compEnvC scope cl C X.env) fp) kx tk) ∧ (∀ (s : Shared) (H : Hp) (C : Addr) (cl : List (Str × Addr)) (fp : List Addr), PE (X.blk s H scope (compEnvC scope cl C X.env) fp) elt te) ∧
      ∀ (σ : L2.St) (F M R H : Hp) (o : OT os) (W : WX) (Q : VK), Takes X W → CtxOk Γ σ F → OwnOk os o σ F M R → Good F M H →
        Want ((SM.bind mi fun xs => if xs.length ≤ sizeLine then dcS mt mk me xs [] else SM.fail) o) (NormE os (tOwnD u) σ F R Q) (ExcE X os σ F R W) → tDc wi g tt tk te (own.map (·.2)) σ H Q := by
  obtain ⟨ok, _⟩ := blkB_ok xo hb
  -- the family of the blocks' contexts
  let Fam : Cx → Prop := fun X' => ∃ s H C cl fp, X' = X.blk s H scope (compEnvC scope cl C X.env) fp
  have fo : ∀ X', Fam X' → XOk X' N scope B k := by rintro _ ⟨s, H, C, cl, fp, rfl⟩; exact xo_blk xo hb s H C cl fp
  have fl : ∀ X', Fam X' → Lks X'.md := by rintro _ ⟨s, H, C, cl, fp, rfl⟩; exact lks
  have ft : ∀ X', Fam X' → Takes X' (fun _ _ _ _ => False) := by
    rintro _ ⟨s, H, C, cl, fp, rfl⟩ u s' ⟨a, B, sI, pins, σ, H, cls, d, e, I, nb, up, sky, na, os, ag, w⟩
    exact w.elim
  let gg : TG := fun v σ H K => ∀ X', Fam X' → ∃ g', PG X' tg g' ∧ g' v σ H K
  let tt : TT := fun σ H Q => ∀ X', Fam X' → bestTs X' ifs σ H Q
  let tkk : TE := fun σ H Q => ∀ X', Fam X' → best X' kx σ H Q
  let te : TE := fun σ H Q => ∀ X', Fam X' → best X' elt σ H Q
  have pg : ∀ (s : Shared) (H : Hp) (C : Addr) (cl : List (Str × Addr)) (fp : List Addr), PG (X.blk s H scope (compEnvC scope cl C X.env) fp) tg gg := fun s H C cl fp =>
    ⟨fun pins s1 σ H1 v u Q I r h => by obtain ⟨g', p, z⟩ := h _ ⟨s, H, C, cl, fp, rfl⟩; exact p.run pins s1 σ H1 v u Q I r z⟩
  have pt : ∀ (s : Shared) (H : Hp) (C : Addr) (cl : List (Str × Addr)) (fp : List Addr), PTs (X.blk s H scope (compEnvC scope cl C X.env) fp) ifs tt := fun s H C cl fp =>
    ⟨fun pins s1 σ H1 Q I h => by obtain ⟨g', p, z⟩ := h _ ⟨s, H, C, cl, fp, rfl⟩; exact p.run pins s1 σ H1 Q I z⟩
  have pk : ∀ (s : Shared) (H : Hp) (C : Addr) (cl : List (Str × Addr)) (fp : List Addr), PE (X.blk s H scope (compEnvC scope cl C X.env) fp) kx tkk := fun s H C cl fp =>
    ⟨fun pins s1 σ H1 Q I h => by obtain ⟨g', p, z⟩ := h _ ⟨s, H, C, cl, fp, rfl⟩; exact p.run pins s1 σ H1 Q I z⟩
  have pe : ∀ (s : Shared) (H : Hp) (C : Addr) (cl : List (Str × Addr)) (fp : List Addr), PE (X.blk s H scope (compEnvC scope cl C X.env) fp) elt te := fun s H C cl fp =>
    ⟨fun pins s1 σ H1 Q I h => by obtain ⟨g', p, z⟩ := h _ ⟨s, H, C, cl, fp, rfl⟩; exact p.run pins s1 σ H1 Q I z⟩
  refine ⟨bestI X tg iter, gg, tt, tkk, te, pi_best X tg iter, ok, pg, pt, pk, pe, fun σ F M R H o W Q tk c w g q => ?_⟩
  refine hi σ F M R H o W _ tk c w g (q.bind.imp (fun xs o1 z => ?_) fun _ _ z => z)
  intro J F1 M1 H1 s1 w1 g1 y1 D hD
  by_cases hlen : xs.length ≤ sizeLine
  · rw [if_pos hlen] at z
    have hsl : ∀ (σ2 : L2.St), (∀ i, i ∉ own.map (·.2) → σ2[i]? = σ[i]?) → ∀ p ∈ os, σ2[p.1]? = σ[p.1]? := fun σ2 h p hp => h p.1 fun hm => by
      obtain ⟨y, hy, e⟩ := List.mem_map.mp hm
      exact noSlot_ne (List.all_eq_true.mp ho y hy) p hp e.symm
    refine ⟨fun i m H2 => m = xs.length - i ∧ i ≤ xs.length ∧ ∃ accx acc o2 F2 M0 M2, Sub F1 F2 ∧ OwnOk os o2 σ F2 M0 R ∧ Sep (sing D (.dK acc)) M0 M2 ∧ Good F2 M2 H2 ∧ KvR u accx acc F2 ∧ acc.length ≤ i ∧
      Want (dcS mt mk me (xs.drop i) accx o2) (fun ys o => NormE os (tOwnD u) σ F2 R Q ys o) (ExcE X os σ F2 R W), ?_, ?_⟩
    · obtain ⟨g2, s2⟩ := g1.newM (o := .dK []) hD
      exact ⟨_, rfl, Nat.zero_le _, [], [], o1, F1, M1, _, .refl _, w1, s2, g2, rfl, Nat.le_refl _, z.imp (fun ys o2 y => NormE.mono y s1) fun _ _ y => y.mono s1⟩
    · rintro i m H2 ⟨rfl, hi2, accx, acc, o2, F2, M0, M2, s2, w2, p2, g2, r2, l2, q2⟩
      obtain ⟨st, go⟩ := y1 F2 M2 H2 s2 g2 i
      by_cases hlt : i < xs.length
      · have hx : xs[i]? = some xs[i] := List.getElem?_eq_getElem hlt
        obtain ⟨go1, go2⟩ := go xs[i] hx
        refine .inr ⟨go1, fun H3 => i + 1 ≤ xs.length ∧ ∃ accx acc o2 F2 M0 M2, Sub F1 F2 ∧ OwnOk os o2 σ F2 M0 R ∧ Sep (sing D (.dK acc)) M0 M2 ∧ Good F2 M2 H3 ∧ KvR u accx acc F2 ∧ acc.length ≤ i + 1 ∧
          Want (dcS mt mk me (xs.drop (i + 1)) accx o2) (fun ys o => NormE os (tOwnD u) σ F2 R Q ys o) (ExcE X os σ F2 R W), fun H3 h => ⟨xs.length - (i + 1), by omega, rfl, h.1, h.2⟩, fun v H3 hy => ?_⟩
        obtain ⟨F3, s3, g3, r3⟩ := go2 v H3 hy
        intro X' fam
        obtain ⟨g', pg', hg'⟩ := hg X' (fo X' fam)
        have cw : CtxOk (wipeC Γ (own.map (·.2))) (wipe σ (own.map (·.2))) F3 := (c.mono ((s1.trans s2).trans s3)).wipe _
        obtain ⟨R2, pR, w3⟩ := (w2.mono s3).frame p2
        have w4 : OwnOk os o2 (wipe σ (own.map (·.2))) F3 M2 R2 := w3.slots (hsl _ fun i hi => wipe_ne hi)
        refine ⟨g', pg', hg' _ F3 M2 R2 H3 o2 xs[i] v _ cw w4 g3 r3 fun σ4 k4 c4 w5 => ?_⟩
        have ew : wipe σ4 (own.map (·.2)) = wipe σ (own.map (·.2)) := wipe_same c.1.symm hkp k4
        have es : ∀ i, i ∉ own.map (·.2) → σ4[i]? = σ[i]? := fun i hi => by
          have z1 := wipe_ne (σ := σ4) hi
          rw [ew, wipe_ne hi] at z1
          exact z1.symm
        refine ⟨ew, fun X2 fam2 => ?_⟩
        have q3 : Want (dcS mt mk me (xs.drop i) accx o2) (fun ys o => NormE os (tOwnD u) σ F2 R Q ys o) (ExcE X os σ F2 R W) := q2
        rw [List.drop_eq_getElem_cons hlt] at q3
        have q4 := (show Want (SM.bind (noX (mt xs[i])) _ o2) _ _ from q3).bind
        refine ht X2 (fl X2 fam2) (fo X2 fam2) xs[i] σ4 F3 M2 R2 H3 o2 _ _ (ft X2 fam2) c4 w5 g3 ?_
        unfold noX at q4
        cases et : mt xs[i] o2 with
        | none => rw [et] at q4; exact q4
        | some rt =>
          obtain ⟨rt, o3⟩ := rt
          rw [et] at q4
          cases rt with
          | error ex => exact q4.elim
          | ok b =>
            intro F4 M4 H4 s4 w6 g4
            have w7 := w6.slots (fun p hp => (hsl σ4 es p hp).symm)
            cases b with
            | false =>
              obtain ⟨M5, p5, w8⟩ := OwnOk.unframe w7 pR
              exact ⟨hlt, accx, acc, o3, F4, M5, M4, (s2.trans s3).trans s4, w8, p5, g4, r2.mono (s3.trans s4), Nat.le_succ_of_le l2, (show Want (dcS mt mk me (xs.drop (i + 1)) accx o3) _ _ from q4).imp (fun ys o y => NormE.mono y (s3.trans s4)) fun _ _ y => y.mono (s3.trans s4)⟩
            | true =>
              intro X3 fam3
              have q5 := (show Want (SM.bind (noX (mk xs[i])) _ o3) _ _ from q4).bind
              refine hk X3 (fl X3 fam3) (fo X3 fam3) xs[i] σ4 F4 M4 R2 H4 o3 _ _ (ft X3 fam3) (c4.mono s4) w6 g4 ?_
              unfold noX at q5
              cases ek : mk xs[i] o3 with
              | none => rw [ek] at q5; exact q5
              | some rk =>
                obtain ⟨rk, o3'⟩ := rk
                rw [ek] at q5
                cases rk with
                | error ex => exact q5.elim
                | ok yk =>
                  intro vk F4' M4' mmk Mk H4' s4' w6' p6' g4' rk4
                  obtain ⟨e, eyk⟩ := rk4
                  subst e
                  have e := p6'.emp_l; subst e
                  intro X4 fam4
                  have q6 := (show Want (SM.bind (noX (me xs[i])) _ o3') _ _ from q5).bind
                  refine he X4 (fl X4 fam4) (fo X4 fam4) xs[i] σ4 F4' Mk R2 H4' o3' _ _ (ft X4 fam4) ((c4.mono s4).mono s4') w6' g4' ?_
                  unfold noX at q6
                  cases ee : me xs[i] o3' with
                  | none => rw [ee] at q6; exact q6
                  | some re =>
                    obtain ⟨re, o4⟩ := re
                    rw [ee] at q6
                    cases re with
                    | error ex => exact q6.elim
                    | ok y =>
                      intro v' F5 M5 mm M5' H5 s5 w8 p8 g5 r5
                      have e := iu r5; subst e
                      have e := p8.emp_l; subst e
                      have w9 := w8.slots (fun p hp => (hsl σ4 es p hp).symm)
                      obtain ⟨M6, p6, w10⟩ := OwnOk.unframe w9 pR
                      have hDm : H5 D = some (.dK acc) := g5.m _ _ (p6.l _ _ sing_same)
                      have sAll := ((s3.trans s4).trans s4').trans s5
                      have hlp : (putK acc (.inr (sOf yk)) v').length ≤ i + 1 := Nat.le_trans (length_putK acc _ v') (Nat.succ_le_succ l2)
                      refine ⟨acc, .inr (sOf yk), eyk, hDm, Nat.lt_of_le_of_lt l2 (Nat.lt_of_lt_of_le hlt hlen), ?_⟩
                      obtain ⟨M7, p7, g7⟩ := g5.set (o' := .dK (putK acc (.inr (sOf yk)) v')) p6
                      refine ⟨hlt, dput yk y accx, _, o4, F5, M6, M7, s2.trans sAll, w10, p7, g7, (r2.mono sAll).put r5, hlp, ?_⟩
                      exact (show Want (dcS mt mk me (xs.drop (i + 1)) (dput yk y accx) o4) _ _ from q6).imp (fun ys o y => NormE.mono y sAll) fun _ _ y => y.mono sAll
      · have e : i = xs.length := by omega
        subst e
        rw [List.drop_length] at q2
        have q3 : NormE os (tOwnD u) σ F2 R Q accx o2 := q2
        exact .inl ⟨st (Nat.le_refl _), q3 (.ref D) F2 M0 _ M2 H2 (.refl _) w2 p2 g2 ⟨D, acc, rfl, rfl, r2⟩⟩
  · rw [if_neg hlen] at z; exact z.elim
theorem re_dc {Lks : Md → Prop} (lks : Lks X.md) (xo : XOk X N sc B k) (own : List (Str × Nat)) (kp : List Nat) {mi : SM (OT os) (List t.A)} {Γx : t.A → Ctx} {mt : t.A → SM (OT os) Bool} {mk : t.A → SM (OT os) (List Nat)} {me : t.A → SM (OT os) u.A} (iu : Imm u)
    (hi : RI X Γ os tg iter t mi)
    (hg : ∀ X', XOk X' N scope B k → RG X' kp (wipeC Γ (own.map (·.2))) os tg t Γx)
    (ht : ∀ X', Lks X'.md → XOk X' N scope B k → ∀ x, RTs X' (Γx x) os ifs (mt x))
    (hk : ∀ X', Lks X'.md → XOk X' N scope B k → ∀ x, RE X' (Γx x) os kx tStr (mk x))
    (he : ∀ X', Lks X'.md → XOk X' N scope B k → ∀ x, RE X' (Γx x) os elt u (me x))
    (hb : blkB N sc scope own = true := by decide +kernel) (hkp : (List.range Γ.length).all (fun i => (own.map (·.2)).contains i || kp.contains i) = true := by rfl)
    (ho : (own.all fun p => noSlot p.2 os) = true := by rfl)
    (hs : ∀ x, foldedSetIterable iter X.env x = pure x := by intro _; rfl) :
    RE X Γ os (.DictComp kx elt [⟨tg, iter, ifs, 0⟩] scope pos) (tOwnD u) (SM.bind mi fun xs => if xs.length ≤ sizeLine then dcS mt mk me xs [] else SM.fail) := by
  obtain ⟨wi, g, tt, tk, te, h1, ok, h2, h3, h6, h4, h5⟩ := dc_read lks xo own kp iu hi hg ht hk he hb hkp ho hs
  exact fun σ F M R H o W Q tk c w gd q => ⟨_, pe_dc xo.calm xo.nd h1 ok h2 h3 h6 h4 hs, h5 σ F M R H o W Q tk c w gd q⟩
end
end Mi

namespace Mi
open PySem PySem.Spec PyProof.Rows L2
section
variable {X : Cx} {N : List Str} {sc : Scope} {B : List Str} {k : Nat} {Γ : Ctx} {os os' : Os} {pos p p1 p2 p3 cpos apos : Pos} {e a b c : Expr} {es : List Expr} {t u : Ty}
/-! ### a op1 b op2 c, of ints -/
def SM.chain {O : Type} (f g : Int → Int → Bool) (ma mb mc : SM O Int) : SM O Bool := SM.bind ma fun x => SM.bind mb fun y => if f x y = true then SM.bind mc fun z => SM.ret (g y z) else SM.ret false
theorem re_chain {op op' : CmpOp} {f g : Int → Int → Bool} {ma mb mc : SM (OT os) Int} (ho : OpR X (compareOp op) (rI0 fun i j => .bl (f i j))) (ho' : OpR X (compareOp op') (rI0 fun i j => .bl (g i j))) (ha : RE X Γ os a tInt ma) (hb : RE X Γ os b tInt mb) (hc : RE X Γ os c tInt mc)
    (hm : lastMarks [op, op'] [b, c] = false := by with_unfolding_all rfl) : RE X Γ os (.Compare a [op, op'] [b, c] pos) tBool (SM.chain f g ma mb mc) := by
  intro σ F M R H o W Q tk cc w gd h
  refine ⟨_, pe_chain ho ho' (pe_best X a) (pe_best X b) (pe_best X c) hm, ?_⟩
  refine one_end (ta := tInt) imF ha tk cc w gd h fun x o2 v F2 M2 H2 h2 s2 w2 g2 r1 => ?_
  refine one_end (ta := tInt) imF hb tk (cc.mono s2) w2 g2 (h2.imp (fun _ _ z => NormE.mono z s2) fun _ _ z => z.mono s2) fun y o3 u F3 M3 H3 h3 s3 w3 g3 r2 => ?_
  refine ⟨x, y, r1.2, r2.2, f x y, rfl, ?_⟩
  by_cases hf : f x y = true
  · rw [if_pos hf] at h3
    rw [if_pos hf]
    refine one_end (ta := tInt) imF hc tk ((cc.mono s2).mono s3) w3 g3 (h3.imp (fun _ _ z => NormE.mono z s3) fun _ _ z => z.mono s3) fun z o4 q F4 M4 H4 h4 s4 w4 g4 r3 => ?_
    exact ⟨y, z, r2.2, r3.2, end_flat (g := V.bl) (show NormE os tBool σ F3 R Q (g y z) o4 from h4) s4 w4 g4⟩
  · rw [if_neg hf] at h3
    rw [if_neg hf]
    exact end_flat (g := V.bl) (show NormE os tBool σ F2 R Q false o3 from h3) s3 w3 g3
theorem rt_chain {op op' : CmpOp} {f g : Int → Int → Bool} {ma mb mc : SM (OT os) Int} (ho : OpR X (compareOp op) (rI0 fun i j => .bl (f i j))) (ho' : OpR X (compareOp op') (rI0 fun i j => .bl (g i j))) (ha : RE X Γ os a tInt ma) (hb : RE X Γ os b tInt mb) (hc : RE X Γ os c tInt mc)
    (hm : lastMarks [op, op'] [b, c] = false := by with_unfolding_all rfl) : RT X Γ os (.Compare a [op, op'] [b, c] pos) (SM.chain f g ma mb mc) := by
  intro σ F M R H o W Q tk cc w gd h
  refine ⟨_, pt_chain ho ho' (pe_best X a) (pe_best X b) (pe_best X c) hm, ?_⟩
  refine one_end (ta := tInt) imF ha tk cc w gd h fun x o2 v F2 M2 H2 h2 s2 w2 g2 r1 => ?_
  refine one_end (ta := tInt) imF hb tk (cc.mono s2) w2 g2 (h2.imp (fun _ _ z => z) fun _ _ z => z.mono s2) fun y o3 u F3 M3 H3 h3 s3 w3 g3 r2 => ?_
  refine ⟨x, y, r1.2, r2.2, f x y, rfl, ?_⟩
  by_cases hf : f x y = true
  · rw [if_pos hf] at h3
    rw [if_pos hf]
    refine one_end (ta := tInt) imF hc tk ((cc.mono s2).mono s3) w3 g3 (h3.imp (fun _ _ z => z) fun _ _ z => z.mono s3) fun z o4 q F4 M4 H4 h4 s4 w4 g4 r3 => ?_
    exact ⟨y, z, r2.2, r3.2, g y z, rfl, (show NormT os σ F R Q (g y z) o4 from h4) F4 M4 H4 ((s2.trans s3).trans s4) w4 g4⟩
  · rw [if_neg hf] at h3
    rw [if_neg hf]
    exact ⟨false, rfl, (show NormT os σ F R Q false o3 from h3) F3 M3 H3 (s2.trans s3) w3 g3⟩
/-! ### isinstance where the type is known -/
def STy (t : Ty) (T : String) : Prop := ∀ {x : t.A} {v : V} {F M H : Hp} {K : PySem.W.Frag}, t.rep x v F emp → Good F M H → TyX K H v (.type T)
theorem sty_int : STy tInt "int" := fun {x v F M H K} r _ => by rw [r.2]; exact .base (.int _)
theorem sty_bool : STy tBool "bool" := fun {x v F M H K} r _ => by rw [r.2]; exact .base (.bl _)
theorem sty_str : STy tStr "str" := fun {x v F M H K} r _ => by rw [r.2]; exact .base (.str _)
theorem sty_chr : STy tChr "str" := fun {x v F M H K} r _ => by rw [r.2]; exact .base (.str _)
theorem sty_non : STy tNone "NoneType" := fun {x v F M H K} r _ => by rw [r.2]; exact .base .non
theorem sty_lst : STy (tLst t) "list" := fun {x v F M H K} ⟨_, a, vs, e, q, _⟩ g => by subst e; exact .base (.lst (g.f _ _ q))
theorem sty_dct : STy (tDct t) "dict" := fun {x v F M H K} ⟨_, a, vs, e, q, _⟩ g => by
  subst e
  rcases q with q | ⟨o, q⟩
  · exact .base (.dK (g.f _ _ q))
  · exact .fDict (g.f _ _ q)
theorem sty_dctL : STy (tDctL t) "dict" := fun {x v F M H K} ⟨_, a, o, vs, e, q, _⟩ g => by subst e; exact .fDict (g.f _ _ q)
theorem re_isiT (xo : XOk X N sc B k) (ga ma g2 m2 : Nat) {nm : Str} {T T' : String} {r : Bool} (st : STy t T') (it : Imm t) (hk : kitB T' T = some r) (hbt : bootBuiltins nm = some (.type T)) (hn : nm ≠ "__name__") (hd : (nm == ("__debug__" : Str)) = false) {m : SM (OT os) t.A} (h : RE X Γ os e t m) (hg : sc.names[ga]? = some (gI "isinstance") := by rfl) (hm : B[ma]? = some "isinstance" := by rfl) (hg2 : sc.names[g2]? = some (gI nm) := by rfl) (hm2 : B[m2]? = some nm := by rfl)
    (he : starEach [e, .Name nm p2] X.env = (false, eval e X.env) :: starEach [.Name nm p2] X.env := by rfl) (he2 : starEach [.Name nm p2] X.env = (false, eval (.Name nm p2) X.env) :: starEach [] X.env := by rfl) (hpl : (backTo pos (starEach [.Name nm p2] X.env)).any (·.1) = false := by rfl) :
    RE X Γ os (.Call (.Name "isinstance" p) [e, .Name nm p2] [] pos) tBool (SM.bind m fun _ => SM.ret r) := by
  intro σ F M R H o W Q tk c w g q
  refine ⟨_, pe_callB call_isi (xo.gl ga _ hg) (xo.fr ma _ hm) boot_isi (pa_cons (pe_best X e) (pa_cons (pe_bltn (v := .ty T) (xo.gl g2 _ hg2) (xo.fr m2 _ hm2) hbt rfl hn hd) pa_nil he2) he) (by decide) (by decide) he hpl, ?_⟩
  refine one_end it h tk c w g q fun x o2 v F2 M2 H2 h2 s2 w2 g2 r2 => ?_
  exact ⟨v, .ty T, .type T', .type T, r, rfl, .ty T, st r2 g2, kit_ty hk, end_flat (g := V.bl) (show NormE os tBool σ F R Q r o2 from h2) s2 w2 g2⟩
/-! ### is None where it is never -/
def NonN (t : Ty) : Prop := ∀ {x : t.A} {v : V} {F : Hp}, t.rep x v F emp → v ≠ .non
theorem nn_dctL : NonN (tDctL t) := fun {x v F} ⟨_, a, o, vs, e, q, _⟩ h => by rw [e] at h; cases h
theorem nn_dct : NonN (tDct t) := fun {x v F} ⟨_, a, vs, e, q, _⟩ h => by rw [e] at h; cases h
theorem nn_str : NonN tStr := fun {x v F} r h => by have z := r.2; rw [h] at z; cases z
theorem nn_int : NonN tInt := fun {x v F} r h => by have z := r.2; rw [h] at z; cases z
theorem re_isNF (it : Imm t) (nn : NonN t) {m : SM (OT os) t.A} {i1 : Nat} (h : RE X Γ os e t m) (hm : behindInMarks .Is (.Constant .none i1 p) = false := by rfl) : RE X Γ os (.Compare e [.Is] [.Constant .none i1 p] pos) tBool (SM.bind m fun _ => SM.ret false) := by
  intro σ F M R H o W Q tk c w g q
  refine ⟨_, pe_cmpR op_isN (pe_best X e) pe_non hm, ?_⟩
  refine one_end it h tk c w g q fun x o2 v F2 M2 H2 h2 s2 w2 g2 r2 => ?_
  refine ⟨rfl, ?_⟩
  rw [decide_eq_false (nn r2)]
  exact end_flat (g := V.bl) (show NormE os tBool σ F R Q false o2 from h2) s2 w2 g2
theorem rt_isNF (it : Imm t) (nn : NonN t) {m : SM (OT os) t.A} {i1 : Nat} (h : RE X Γ os e t m) (hm : behindInMarks .Is (.Constant .none i1 p) = false := by rfl) : RT X Γ os (.Compare e [.Is] [.Constant .none i1 p] pos) (SM.bind m fun _ => SM.ret false) := by
  intro σ F M R H o W Q tk c w g q
  refine ⟨_, pt_cmpR op_isN (pe_best X e) pe_non hm, ?_⟩
  refine one_end it h tk c w g q fun x o2 v F2 M2 H2 h2 s2 w2 g2 r2 => ?_
  exact ⟨rfl, false, by rw [decide_eq_false (nn r2)], (show NormT os σ F R Q false o2 from h2) F2 M2 H2 s2 w2 g2⟩
/-- a if c else b, c never -/
theorem re_ifF {m : SM (OT os) t.A} {mc : SM (OT os) Bool} (hc : RT X Γ os c mc) (hb : RE X Γ os b t m) : RE X Γ os (.IfExp c a b pos) t (SM.bind mc fun r => if r = true then SM.fail else m) := by
  intro σ F M R H o W Q tk cc w g h
  refine ⟨_, pe_ifExp (pt_best X c) (pe_best X a) (pe_best X b), ?_⟩
  refine hc σ F M R H o W _ tk cc w g (h.bind.imp (fun r o1 h1 => ?_) fun _ _ z => z)
  intro F1 M1 H1 s1 w1 g1
  cases r with
  | true => exact h1.elim
  | false => exact hb σ F1 M1 R H1 o1 W Q tk (cc.mono s1) w1 g1 ((show Want (m o1) _ _ from h1).imp (fun _ _ z => NormE.mono z s1) fun _ _ z => z.mono s1)
/-! ### sum of ints -/
theorem boot_sum : bootBuiltins "sum" = some (.builtin "sum") := by decide +kernel
theorem allR_int {F : Hp} : ∀ {l : List Int} {vs : List V}, AllR tInt l vs F → vs = l.map V.int
  | [], vs, h => h
  | c :: l, _, ⟨v, r, e, q, k⟩ => by
    subst e
    rw [allR_int k, show v = V.int c from q.2] <;> rfl
theorem re_sum (xo : XOk X N sc B k) {m : SM (OT os) (AT [tLst tInt])} (ga ma : Nat) (ha : RA X Γ os [e] [tLst tInt] m) (hg : sc.names[ga]? = some (gI "sum") := by rfl) (hm : B[ma]? = some "sum" := by rfl)
    (he : starEach [e] X.env = (false, eval e X.env) :: starEach [] X.env := by rfl) :
    RE X Γ os (.Call (.Name "sum" p) [e] [] pos) tInt (SM.bind m fun x => SM.lift (some x.1.sum)) := by
  refine re_callB (ts := [tLst tInt]) (tc := tInt) (f := fun x => some x.1.sum) (cr_sum xo.calm) (fun {x z vs F M H Q} e h g q => ?_) (xo.gl ga _ hg) (xo.fr ma _ hm) boot_sum ha (by decide) (by decide) he rfl
  obtain ⟨v, us, e1, ⟨_, a, ws, ea, fa, r⟩, e2⟩ := h
  have e2' : us = [] := e2
  subst e2' e1 ea
  cases e
  have ew := allR_int r
  subst ew
  exact ⟨a, x.1, rfl, .inl (.inl (g.f _ _ fa)), fl (gA := V.int) q g⟩
/-! ### a list of signs as a list of texts -/
theorem AllR.chr {F : Hp} : ∀ {l : List Nat} {vs : List V}, AllR tChr l vs F → AllR tStr (l.map fun c => [c]) vs F
  | [], _, h => h
  | _ :: _, _, ⟨v, r, e, q, k⟩ => ⟨v, r, e, q, k.chr⟩
theorem cv_lstC : Cv (tLst tChr) (tLst tStr) (fun l => l.map fun c => [c]) := fun ⟨e, a, vs, ev, q, r⟩ => ⟨e, a, vs, ev, q, r.chr⟩
/-! ### x += e, of ints -/
variable {G : FX} {L : LC} {β : Type} {Γn : β → Ctx} {osn : Os} {rest : List Stmt}
theorem rb_augI (xo : XOk X N sc B k) (hS : OSub os G.ps) (i j : Nat) {nm : Str} {kd : NameKind} {x : Int} {me : SM (OT os) Int} {kk : Int → OT os → OutT G L β osn} (he : RE X Γ os e tInt me)
    (hk : ∀ x, RB X G L (Γ.set i (some ⟨tInt, x⟩)) os rest Γn osn (kk x))
    (hΓ : Γ[i]? = some (some ⟨tInt, x⟩) := by rfl)
    (hj : sc.names[j]? = some (nm, kd) := by rfl) (hkd : locK kd = true := by rfl) (hN : N[i]? = some nm := by rfl) (hf : noSlot i os = true := by rfl) (hkp : G.kp.all (· != i) = true := by rfl) :
    RB X G L Γ os (.AugAssign (.Name nm p) .Add e pos :: rest) Γn osn (fun o => bindX hS (me o) fun y => kk (x + y)) := by
  intro σ F M R H o W D tk c w g q
  obtain ⟨l1, l2⟩ := xo.lc j nm kd hj hkd
  obtain ⟨v, e0, r0⟩ := c.2 i tInt x hΓ
  refine ⟨_, pss_cons (ps_aug (i := i) xo.nd (by rw [xo.nN]; exact hN) l1 (pe_best X e) ip_add l2) (pss_best X rest), v, e0, ?_⟩
  refine he σ F M R H o W _ tk c w g (q.bindX.imp (fun y o1 z => ?_) fun _ _ z => z)
  intro u F' M1 mm M' H' s' w' p' g' r'
  have e := r'.1; subst e
  have e := p'.emp_l; subst e
  refine ⟨x, y, r0.2, r'.2, ?_⟩
  exact hk (x + y) (σ.set i (some (.int (x + y)))) F' _ R H' o1 W D tk ((c.mono s').set (t := tInt) (x := x + y) ⟨rfl, rfl⟩) (w'.set hf) g' (z.mono s' (keep_set hkp))
end
end Mi

namespace Mi
open PySem PySem.Spec PyProof.Rows L2
/-! ### in, not in, of instances whose class says what they contain -/
section
open PySem.W
variable {M : Model} {A : Around} {E : Value → Shared → Prop} {s : Shared} {K : Frag} {x C f : Addr} {ox : Obj} {od : Option Obj} {v : Value}
theorem contains_X {Q : Bool → Shared → Prop} (X : K.In s.heap) (I : InstAt s.heap x ox C od) (hs : findIn K (.ref C) "__contains__" = some (some (.ref f))) (hf : isFn K (.ref f) = true)
    (h : wpAny M A (call (.ref f) [.ref x, v]) (fun r s' => wpAny M A (truthy r) Q E s') E s) : wpAny M A (contains (.ref x) v) Q E s := by
  unfold contains
  refine wpAny_holding (wpAny_bind (wpAny_bind (I.type.here ((looks_findIn X hs).here ?_))))
  rw [if_neg (by simp)]
  exact wpAny_bind (unlessNone_K X I hs hf h)
theorem in_X {Q : Value → Shared → Prop} (X : K.In s.heap) (I : InstAt s.heap x ox C od) (hs : findIn K (.ref C) "__contains__" = some (some (.ref f))) (hf : isFn K (.ref f) = true)
    (h : wpAny M A (call (.ref f) [.ref x, v]) (fun r s' => wpAny M A (truthy r) (fun b => Q (.bool b)) E s') E s) : wpAny M A (compareOp .In v (.ref x)) Q E s :=
  wpAny_bind (contains_X X I hs hf (wpAny_mono h (fun _ _ z => wpAny_mono z (fun _ _ z => wpAny_pure z) fun _ _ z => z) fun _ _ z => z))
theorem notIn_X {Q : Value → Shared → Prop} (X : K.In s.heap) (I : InstAt s.heap x ox C od) (hs : findIn K (.ref C) "__contains__" = some (some (.ref f))) (hf : isFn K (.ref f) = true)
    (h : wpAny M A (call (.ref f) [.ref x, v]) (fun r s' => wpAny M A (truthy r) (fun b => Q (.bool (!b))) E s') E s) : wpAny M A (compareOp .NotIn v (.ref x)) Q E s :=
  wpAny_bind (contains_X X I hs hf (wpAny_mono h (fun _ _ z => wpAny_mono z (fun _ _ z => wpAny_pure z) fun _ _ z => z) fun _ _ z => z))
end
def rHas (C : Addr) (sp : Sp) (g : Bool → Bool) : R2 := fun x y H Q => ∃ a dx fs, y = .ref a ∧ H a = some (.ins C dx fs) ∧ sp [.ref a, x] H (fun v H' => ∃ b, v = .bl b ∧ Q (.bl (g b)) H') (fun _ _ _ => False)
section
variable {X : Cx} {N : List Str} {sc : Scope} {B : List Str} {k : Nat} {Γ : Ctx} {os os' : Os} {pos p p1 p2 p3 cpos apos : Pos} {e a b c : Expr} {es : List Expr} {t u : Ty} {C f : Addr} {fd : FuncData} {ps : List Str} {sp : Sp} {fs : Flds}
theorem run_has {g : Bool → Bool} {op : CmpOp} {pins : List (Addr × Obj)} {s : Shared} {σ : L2.St} {H : Hp} {x y : V} {v u : Value} {Q : VK} (hm : Meth X.K C "__contains__" f) (F : FnOk X.prog X.w X.K X.mg X.base (L2.CX X.prog X.w) k f fd ps sp) (hr : Room k X.A) (hb : Binds X.K fd ps []) (I : Inv X pins σ H s) (rx : RelV x v) (ry : RelV y u) (h : rHas C sp g x y H Q)
    (hop : ∀ {a : Addr} {ox : Obj} {od : Option Obj}, PySem.W.InstAt s.heap a ox C od → wpAny (model X.prog X.w) X.A (call (.ref f) [.ref a, v]) (fun r s' => wpAny (model X.prog X.w) X.A (truthy r) (fun b => EP X pins σ Q (.bool (g b))) X.xe s') X.xe s → wpAny (model X.prog X.w) X.A (compareOp op v (.ref a)) (EP X pins σ Q) X.xe s) :
    wpAny (model X.prog X.w) X.A (compareOp op v u) (EP X pins σ Q) X.xe s := by
  obtain ⟨a, dx, fs, ey, ea, q⟩ := h
  subst ey
  obtain rfl : u = Value.ref a := ry
  obtain ⟨mA, O, _, _, _, _⟩ := ins_get I.hok ea
  obtain ⟨od, J, _⟩ := O.look
  refine hop J (thn (run_fn (us := [.ref a, v]) (vs := [.ref a, x]) F hr hb .nil pass_none I (.cons rfl (.cons rx .nil)) q) fun r s2 ⟨w, H2, I2, rw', b, ew, q2⟩ => ?_)
  subst ew
  cases rw'
  exact wpAny_truthy_bool ⟨.bl (g b), H2, I2, rfl, q2⟩
theorem op_inO (hm : Meth X.K C "__contains__" f) (F : FnOk X.prog X.w X.K X.mg X.base (L2.CX X.prog X.w) k f fd ps sp) (hr : Room k X.A) (hb : Binds X.K fd ps []) : OpR X (compareOp .In) (rHas C sp id) := fun pins s σ H x y v u Q I rx ry h =>
  run_has hm F hr hb I rx ry h fun J z => in_X I.kIn J hm.at_ hm.fn z
theorem op_niO (hm : Meth X.K C "__contains__" f) (F : FnOk X.prog X.w X.K X.mg X.base (L2.CX X.prog X.w) k f fd ps sp) (hr : Room k X.A) (hb : Binds X.K fd ps []) : OpR X (compareOp .NotIn) (rHas C sp not) := fun pins s σ H x y v u Q I rx ry h =>
  run_has hm F hr hb I rx ry h fun J z => notIn_X I.kIn J hm.at_ hm.fn z
theorem has_fin {ts : Ty} {g : Bool → Bool} {fn : AT [tIns C fs, ts] → Option (Except Exn Bool)} {x : AT (fs.map (·.2))} {y : ts.A} {v w : V} {F M R H : Hp} {o : OT os} {σ : L2.St} {Q : VK} {E : Exn → OT os → Prop} (hx : (tIns C fs).rep x v F emp) (hy : ts.rep y w F emp) (gd : Good F M H)
    (ww : OwnOk os o σ F M R) (h : Want (SM.bind (SM.lifo (fn (x, (y, ())))) (fun b => SM.ret (g b)) o) (NormE os tBool σ F R Q) E) : rHas C (spP X.mg [tIns C fs, ts] tBool fn) g w v H Q := by
  obtain ⟨_, d, dx, ws, ev, fa, rk⟩ := hx
  subst ev
  refine ⟨d, dx, ws, rfl, gd.f _ _ fa, (x, (y, ())), F, M, ⟨.ref d, _, rfl, ⟨rfl, d, dx, ws, rfl, fa, rk⟩, w, [], rfl, hy, rfl⟩, gd, ?_⟩
  unfold SM.bind SM.lifo at h
  cases z : fn (x, (y, ())) with
  | none => rw [z] at h; exact h.elim
  | some r =>
    rw [z] at h
    cases r with
    | error ex => exact h.elim
    | ok b =>
      refine fun v F' mm M' H' s' p' g' r' => ?_
      obtain ⟨em, ev⟩ := r'
      subst em
      have e := p'.emp_l; subst e
      exact ⟨b, ev, end_flat (g := V.bl) (show NormE os tBool σ F R Q (g b) o from h) s' (ww.mono s') g'⟩
theorem re_inO (xo : XOk X N sc B k) {ps : List Str} {ts : Ty} {fn : AT [tIns C fs, ts] → Option (Except Exn Bool)} {j : Nat} {mo : SM (OT os) (AT (fs.map (·.2)))} {m : SM (OT os) ts.A} (l : LkM X.md C "__contains__" ps fs [ts] tBool fn j) (it : Imm ts)
    (ha : RE X Γ os a ts m) (ho : RE X Γ os b (tIns C fs) mo) (hj : Nat.ble j k = true := by rfl) (hm : behindInMarks .In b = false := by rfl) :
    RE X Γ os (.Compare a [.In] [b] pos) tBool (SM.bind m fun y => SM.bind mo fun x => SM.bind (SM.lifo (fn (x, (y, ())))) fun b => SM.ret (id b)) := by
  obtain ⟨f, fd, hme, hb, F⟩ := l
  intro σ F0 M R H o W Q tk cc w gd h
  refine ⟨_, pe_cmpR (op_inO hme F (xo.room.mono (Nat.le_of_ble_eq_true hj)) hb) (pe_best X a) (pe_best X b) hm, ?_⟩
  exact two_ends (ta := ts) (tb := tIns C fs) it im_ins ha ho tk cc w gd h fun y x o2 v u F2 M2 H2 h2 s2 w2 g2 r1 r2 => has_fin (g := id) r2 r1 g2 w2 (h2.imp (fun _ _ z => NormE.mono z s2) fun _ _ z => z)
theorem re_niO (xo : XOk X N sc B k) {ps : List Str} {ts : Ty} {fn : AT [tIns C fs, ts] → Option (Except Exn Bool)} {j : Nat} {mo : SM (OT os) (AT (fs.map (·.2)))} {m : SM (OT os) ts.A} (l : LkM X.md C "__contains__" ps fs [ts] tBool fn j) (it : Imm ts)
    (ha : RE X Γ os a ts m) (ho : RE X Γ os b (tIns C fs) mo) (hj : Nat.ble j k = true := by rfl) (hm : behindInMarks .NotIn b = false := by rfl) :
    RE X Γ os (.Compare a [.NotIn] [b] pos) tBool (SM.bind m fun y => SM.bind mo fun x => SM.bind (SM.lifo (fn (x, (y, ())))) fun b => SM.ret (not b)) := by
  obtain ⟨f, fd, hme, hb, F⟩ := l
  intro σ F0 M R H o W Q tk cc w gd h
  refine ⟨_, pe_cmpR (op_niO hme F (xo.room.mono (Nat.le_of_ble_eq_true hj)) hb) (pe_best X a) (pe_best X b) hm, ?_⟩
  exact two_ends (ta := ts) (tb := tIns C fs) it im_ins ha ho tk cc w gd h fun y x o2 v u F2 M2 H2 h2 s2 w2 g2 r1 r2 => has_fin (g := not) r2 r1 g2 w2 (h2.imp (fun _ _ z => NormE.mono z s2) fun _ _ z => z)
/-! ### a class's constant -/
def LkV (M : Md) (nm f : Str) (i : Int) : Prop := ∃ C mc u, M.mg nm = some (.ref C) ∧ ClX.CRead M.K C mc ∧ ClX.CVal M.K C mc f (.int i) u
theorem re_cval (xo : XOk X N sc B k) {nm f : Str} {i : Int} (l : LkV X.md nm f i) (g : Nat) (hg : sc.names[g]? = some (nm, .globalImplicit) := by rfl) (hb : attributeBase (.Name nm p) f X.env (eval (.Name nm p) X.env) = eval (.Name nm p) X.env := by rfl) :
    RE X Γ os (.Attribute (.Name nm p) f pos) tInt (SM.ret i) := by
  obtain ⟨C, mc, u, hm, r, v⟩ := l
  intro σ F M R H o W Q tk cc w gd h
  refine ⟨_, ClX.pe_cval (pe_glob (v := .ref C) (xo.gl g nm hg) hm rfl (xo.db g nm _ hg).1) hb, ?_⟩
  exact ⟨C, mc, .int i, u, rfl, r, v, end_flat (g := V.int) h (.refl F) w gd⟩
end
end Mi

namespace Mi
open PySem PySem.Spec PyProof.Rows L2
def enumL {A : Type} (xs : List A) : List (Int × (A × Unit)) := xs.zipIdx.map fun p => ((p.2 : Int), (p.1, ()))
theorem enumL_length {A : Type} (xs : List A) : (enumL xs).length = xs.length := by unfold enumL; rw [List.length_map, List.length_zipIdx]
theorem enumL_get {A : Type} {xs : List A} {i : Nat} {y : Int × (A × Unit)} (h : (enumL xs)[i]? = some y) : xs[i]? = some y.2.1 ∧ y.1 = (i : Int) := by
  unfold enumL at h
  rw [List.getElem?_map, List.getElem?_zipIdx] at h
  cases e : xs[i]? with
  | none => rw [e] at h; cases h
  | some x =>
    rw [e] at h
    simp only [Option.map_some, Option.some.injEq] at h
    subst h
    exact ⟨rfl, by simp⟩
section
variable {X : Cx} {N : List Str} {sc : Scope} {B : List Str} {k : Nat} {Γ : Ctx} {os os' : Os} {pos p p1 p2 p3 cpos apos : Pos} {e a b c : Expr} {es : List Expr} {t u : Ty}
theorem ri_enum (xo : XOk X N sc B k) {m : SM (OT os) (AT [tLst u])} {elts : List Expr} {kk : Nat} {tpos : Pos} (ga ma : Nat) (ha : RA X Γ os [e] [tLst u] m) (hg : sc.names[ga]? = some (gI "enumerate") := by rfl) (hm : B[ma]? = some "enumerate" := by rfl)
    (hs : starEach [e] X.env = [(false, eval e X.env)] := by rfl) :
    RI X Γ os (.Tuple elts kk tpos) (.Call (.Name "enumerate" p) [e] [] pos) (tTup [tInt, u]) (SM.bind m fun x => SM.ret (enumL x.1)) := by
  intro σ F M R H o W K tk cc w g q
  refine ⟨_, pi_enum (xo.gl ga _ hg) (xo.fr ma _ hm) (pa_best X [e]) hs, ?_⟩
  refine args_end ha tk cc w g q fun x o2 vs F2 M2 H2 h2 s2 w2 g2 r2 => ?_
  obtain ⟨v, us, e1, ⟨_, a, ws, ea, fa, r⟩, e2⟩ := r2
  have e2' : us = [] := e2
  subst e2' e1 ea
  refine ⟨a, ws, rfl, .inl (.inl (g2.f _ _ fa)), (show NormI os (tTup [tInt, u]) σ F R K (enumL x.1) o2 from h2) _ F2 M2 H2 s2 w2 g2 fun F3 M3 H3 s3 g3 i => ?_⟩
  have hq : SqL X.K H3 a ws := .inl (.inl (g3.f _ _ (s3 _ _ fa)))
  refine ⟨fun hi => ⟨ws, hq, by rw [r.length]; rw [enumL_length] at hi; exact hi⟩, fun y hy => ?_⟩
  obtain ⟨y1, y2⟩ := enumL_get hy
  obtain ⟨w1, e1, e2⟩ := r.get y1
  refine ⟨⟨ws, w1, hq, e1⟩, fun v' H4 ⟨T, z, ev, hT, eH, hz⟩ => ?_⟩
  have q := hz ws hq
  rw [e1] at q
  cases q
  subst ev eH
  have hF : F3 T = none := g3.fnone hT
  have s4 := sub_upd (o := .tup [.int (i : Nat), w1]) hF
  refine ⟨_, s4, g3.newF hT, rfl, T, _, rfl, upd_same, .int (i : Nat), [w1], rfl, ⟨rfl, by rw [y2]⟩, w1, [], rfl, (u.mono e2 s3 |> fun z => u.mono z s4), rfl⟩
/-- (a, b) as a target -/
theorem rg_tup2 (xo : XOk X N sc B k) (i i2 j j2 : Nat) {kp : List Nat} {nm nm2 : Str} {kd kd2 : NameKind} {kk : Nat} (hc : X.calm = true) (hne : i ≠ i2) (hj : sc.names[j]? = some (nm, kd) := by rfl) (hkd : locK kd = true := by rfl) (hN : N[i]? = some nm := by rfl) (hf : noSlot i os = true := by rfl) (hkp : kp.all (· != i) = true := by rfl)
    (hj2 : sc.names[j2]? = some (nm2, kd2) := by rfl) (hkd2 : locK kd2 = true := by rfl) (hN2 : N[i2]? = some nm2 := by rfl) (hf2 : noSlot i2 os = true := by rfl) (hkp2 : kp.all (· != i2) = true := by rfl)
    (hn : (assignEach [.Name nm p1, .Name nm2 p2] X.env).length = 2 := by rfl) (hst : (assignEach [.Name nm p1, .Name nm2 p2] X.env).findIdx? (·.1) = none := by rfl)
    (h1 : (assignEach [.Name nm p1, .Name nm2 p2] X.env).map (·.2) = assign (.Name nm p1) X.env :: (assignEach [.Name nm2 p2] X.env).map (·.2) := by rfl) (h2 : (assignEach [.Name nm2 p2] X.env).map (·.2) = assign (.Name nm2 p2) X.env :: (assignEach [] X.env).map (·.2) := by rfl) :
    RG X kp Γ os (.Tuple [.Name nm p1, .Name nm2 p2] kk pos) (tTup [t, u]) (fun x => (Γ.set i (some ⟨t, x.1⟩)).set i2 (some ⟨u, x.2.1⟩)) := by
  obtain ⟨l1, l2⟩ := xo.lc j nm kd hj hkd
  obtain ⟨m1, m2⟩ := xo.lc j2 nm2 kd2 hj2 hkd2
  refine ⟨_, pg_tup (n := 2) hc (pgs_cons (pg_name (i := i) xo.nd (by rw [xo.nN]; exact hN) l1 l2) (pgs_cons (pg_name (i := i2) xo.nd (by rw [xo.nN]; exact hN2) m1 m2) pgs_nil h2) h1) hn hst, fun σ F M R H o x v K c w g r h => ?_⟩
  obtain ⟨_, a, vs, ev, fa, v1, us, e1, r1, v2, us2, e2, r2, e3⟩ := r
  have e3' : us2 = [] := e3
  subst e3' e2 e1 ev
  refine ⟨a, [v1, v2], rfl, .inl (.inl (g.f _ _ fa)), rfl, v1, [v2], rfl, v2, [], rfl, rfl, ?_⟩
  exact h _ (keep_set hkp |>.trans (keep_set hkp2)) ((c.set r1).set r2) ((w.set hf).set hf2)
end
end Mi

namespace Mi
open PySem PySem.Spec PyProof.Rows L2
def runJ {C : Addr} {fs : Flds} {kp : List Nat} {tr : Ty} {L : LC} {β : Type} {i : Nat} (r : OutT ⟨kp, [], tr⟩ L β [(i, tOwnI C fs)]) : Option (Except Exn (AT (fs.map (·.2)))) := match r with
  | some (.nxt n) => some (.ok n.2.1)
  | some (.exc e _) => some (.error e)
  | _ => none
theorem fn_J {M : Md} {x qual : Str} {params : Arguments} {body : List Stmt} {scope : Scope} {f : Addr} {fd : FuncData} {N ps : List Str} {B : List Str} {k : Nat} {dvs : List V} {kws : List (Str × V)} (F : FunD M.K x qual params body scope dvs kws f fd) {Lks : Md → Prop} (lks : Lks M) {C : Addr} {fs : Flds} {ts : List Ty} {β : Type} {Γn : β → Ctx}
    {m : AT ts → OT [(0, tOwnI C [])] → OutT ⟨[0], [], tNone⟩ LC.none β [(0, tOwnI C fs)]}
    (hB : ∀ (i : Nat) (x : Str), B[i]? = some x → M.mg x = none) (hsc : fnScB N ps scope = true) (hl : ts.length + 1 = ps.length)
    (hb : ∀ X, Lks X.md → XOk X N scope B k → XS X → ∀ x, RB X ⟨[0], [], tNone⟩ LC.none (none :: (argCtx ts x ++ List.replicate (N.length - (ts.length + 1)) none)) [(0, tOwnI C [])] body Γn [(0, tOwnI C fs)] (m x)) :
    FnOk M.P M.w M.K M.mg M.base (L2.CX M.P M.w) (k + 1) f fd ps (spI M.mg C fs ts fun x => runJ (m x ((), ()))) := by
  obtain ⟨S, hu, hd⟩ := fnScB_ok hsc
  refine F.ok S (fun vs H Q E h => ?_) fun cdv A outer s H vs Q E hr h => ?_
  · obtain ⟨_, _, us, _, _, _, _, rfl, _, _, h, _⟩ := h
    rw [List.length_cons, h.length, hl]
  · obtain ⟨a, dx, us, x, F, R, M1, rfl, nd, s0, ha, g, h⟩ := h
    refine ⟨_, pss_best _ body, ?_⟩
    have hlen := ha.length
    have c := ctx_args (n := N.length - (us.length + 1)) ha
    have c2 : CtxOk (none :: (argCtx ts x ++ List.replicate (N.length - (ts.length + 1)) none)) (L2.start N (.ref a :: us)) F := by
      unfold L2.start
      rw [List.length_cons, hlen]
      rw [hlen] at c
      refine ⟨by have z := c.1; simp only [List.map_cons, List.cons_append, List.length_cons]; rw [z], fun i u y e => ?_⟩
      cases i with
      | zero => cases e
      | succ i => exact c.2 i u y e
    refine hb (cxOf (L2.CX M.P M.w) M.P M.w M.K M.mg M.base N qual scope f cdv A outer s H E) lks (xo_body S hu hd hB hr) xs_body x (L2.start N (.ref a :: us)) F M1 R H ((), ()) (fun cls d _ H => E cls d H) _ takes_body c2 ⟨.ref a, _, R, rfl, ⟨a, dx, [], rfl, nd, rfl, rfl⟩, s0, rfl⟩ g ?_
    revert h
    show (match runJ (m x ((), ())) with
      | none => False
      | some (.ok y) => _
      | some (.error ex) => _) → WantS _ _ _ _ _ _ _ _ _ _ (m x ((), ()))
    cases q : m x ((), ()) with
    | none => exact fun h => h.elim
    | some r =>
      cases r with
      | nxt n =>
        intro h σ' F' M' H' s' k' c' w' g'
        obtain ⟨v1, m1, M3, e1, r1, s1, w1⟩ := w'
        have e : M3 = R := w1
        subst e
        have k0 := k'.2 0 (by simp)
        rw [show (L2.start N (.ref a :: us))[0]? = some (some (.ref a)) from rfl] at k0
        have e2 : σ'[0]? = some (some v1) := e1
        rw [k0] at e2
        cases e2
        exact h F' m1 M' H' s' r1 s1 g'
      | brk n => exact fun h => h.elim
      | cnt n => exact fun h => h.elim
      | ret y p => exact fun h => h.elim
      | exc e p =>
        intro h cls d σ' F' M' H' s' k' w' g' x'
        have e : M' = R := w'
        subst e
        exact h cls d F' H' s' g' x'

/-- nothing is promised -/
theorem fn_none {M : Md} {f : Addr} {fd : FuncData} {ps : List Str} {k : Nat} {ts : List Ty} {tr : Ty} :
    FnOk M.P M.w M.K M.mg M.base (L2.CX M.P M.w) k f fd ps (spP M.mg ts tr fun _ => none) :=
  ⟨fun vs H Q E ⟨_, _, _, _, _, h⟩ => h.elim, fun A outer s H args us vs Q E _ _ _ _ ⟨_, _, _, _, _, h⟩ => h.elim⟩
end Mi

namespace Mi
open PySem PySem.Spec PyProof.Rows L2
/-- the j-th statement of a class's body -/
def clsBody : Stmt → Nat → Stmt
  | .ClassDef _ _ _ body _ _ _ _ _ _ _, j => body.getD j (.Pass ⟨0, 0, 0, 0⟩)
  | s, _ => s
section
variable {X : Cx} {N : List Str} {sc : Scope} {B : List Str} {k : Nat} {Γ : Ctx} {os os' : Os} {pos p p1 p2 p3 cpos apos : Pos} {e a b c : Expr} {es : List Expr} {t u : Ty} {C f : Addr} {fd : FuncData} {ps : List Str} {sp : Sp} {fs : Flds}
theorem has_finT {ts : Ty} {g : Bool → Bool} {fn : AT [tIns C fs, ts] → Option (Except Exn Bool)} {x : AT (fs.map (·.2))} {y : ts.A} {v w : V} {F F0 M R H : Hp} {o : OT os} {σ : L2.St} {Q : Bool → Hp → Prop} {E : Exn → OT os → Prop} (hx : (tIns C fs).rep x v F emp) (hy : ts.rep y w F emp) (gd : Good F M H)
    (ww : OwnOk os o σ F M R) (s0 : Sub F0 F) (h : Want (SM.bind (SM.lifo (fn (x, (y, ())))) (fun b => SM.ret (g b)) o) (NormT os σ F0 R Q) E) : rHas C (spP X.mg [tIns C fs, ts] tBool fn) g w v H (fun x H' => ∃ k, x = .bl k ∧ Q k H') := by
  obtain ⟨_, d, dx, ws, ev, fa, rk⟩ := hx
  subst ev
  refine ⟨d, dx, ws, rfl, gd.f _ _ fa, (x, (y, ())), F, M, ⟨.ref d, _, rfl, ⟨rfl, d, dx, ws, rfl, fa, rk⟩, w, [], rfl, hy, rfl⟩, gd, ?_⟩
  unfold SM.bind SM.lifo at h
  cases z : fn (x, (y, ())) with
  | none => rw [z] at h; exact h.elim
  | some r =>
    rw [z] at h
    cases r with
    | error ex => exact h.elim
    | ok b =>
      refine fun v F' mm M' H' s' p' g' r' => ?_
      obtain ⟨em, ev⟩ := r'
      subst em
      have e := p'.emp_l; subst e
      exact ⟨b, ev, g b, rfl, (show NormT os σ F0 R Q (g b) o from h) F' _ H' (s0.trans s') (ww.mono s') g'⟩
theorem rt_inO (xo : XOk X N sc B k) {ps : List Str} {ts : Ty} {fn : AT [tIns C fs, ts] → Option (Except Exn Bool)} {j : Nat} {mo : SM (OT os) (AT (fs.map (·.2)))} {m : SM (OT os) ts.A} (l : LkM X.md C "__contains__" ps fs [ts] tBool fn j) (it : Imm ts)
    (ha : RE X Γ os a ts m) (ho : RE X Γ os b (tIns C fs) mo) (hj : Nat.ble j k = true := by rfl) (hm : behindInMarks .In b = false := by rfl) :
    RT X Γ os (.Compare a [.In] [b] pos) (SM.bind m fun y => SM.bind mo fun x => SM.bind (SM.lifo (fn (x, (y, ())))) fun b => SM.ret (id b)) := by
  obtain ⟨f, fd, hme, hb, F⟩ := l
  intro σ F0 M R H o W Q tk cc w gd h
  refine ⟨_, pt_cmpR (op_inO hme F (xo.room.mono (Nat.le_of_ble_eq_true hj)) hb) (pe_best X a) (pe_best X b) hm, ?_⟩
  exact two_ends (ta := ts) (tb := tIns C fs) it im_ins ha ho tk cc w gd h fun y x o2 v u F2 M2 H2 h2 s2 w2 g2 r1 r2 => has_finT (g := id) r2 r1 g2 w2 s2 h2
theorem rt_niO (xo : XOk X N sc B k) {ps : List Str} {ts : Ty} {fn : AT [tIns C fs, ts] → Option (Except Exn Bool)} {j : Nat} {mo : SM (OT os) (AT (fs.map (·.2)))} {m : SM (OT os) ts.A} (l : LkM X.md C "__contains__" ps fs [ts] tBool fn j) (it : Imm ts)
    (ha : RE X Γ os a ts m) (ho : RE X Γ os b (tIns C fs) mo) (hj : Nat.ble j k = true := by rfl) (hm : behindInMarks .NotIn b = false := by rfl) :
    RT X Γ os (.Compare a [.NotIn] [b] pos) (SM.bind m fun y => SM.bind mo fun x => SM.bind (SM.lifo (fn (x, (y, ())))) fun b => SM.ret (not b)) := by
  obtain ⟨f, fd, hme, hb, F⟩ := l
  intro σ F0 M R H o W Q tk cc w gd h
  refine ⟨_, pt_cmpR (op_niO hme F (xo.room.mono (Nat.le_of_ble_eq_true hj)) hb) (pe_best X a) (pe_best X b) hm, ?_⟩
  exact two_ends (ta := ts) (tb := tIns C fs) it im_ins ha ho tk cc w gd h fun y x o2 v u F2 M2 H2 h2 s2 w2 g2 r1 r2 => has_finT (g := not) r2 r1 g2 w2 s2 h2
variable {G : FX} {L : LC} {β : Type} {Γn : β → Ctx} {osn : Os} {rest : List Stmt}
theorem rb_setA (xo : XOk X N sc B k) (hS : OSub os G.ps) (i j : Nat) (h : OSel os i (tOwnI C fs) os') {f nm : Str} {kd : NameKind} {me : SM (OT os) t.A} {kk : OT ((i, tOwnI C (fs ++ [(f, t)])) :: os') → OutT G L β osn} (c : Cls X.K C) (n : NoAttr X.K C f) (it : Imm t) (he : RE X Γ os e t me)
    (hk : RB X G L Γ ((i, tOwnI C (fs ++ [(f, t)])) :: os') rest Γn osn kk) (hj : sc.names[j]? = some (nm, kd) := by rfl) (hkd : visK kd = true := by rfl) (hN : N[i]? = some nm := by rfl)
    (hf : f ∉ fs.map (·.1) := by decide) (hl : Nat.ble fs.length 900 = true := by rfl)
    (hs : swapsWith e (some (.Attribute (.Name nm p) f p2)) pos.line X.env = pure false := by rfl) :
    RB X G L Γ os (.Assign [.Attribute (.Name nm p) f p2] e pos :: rest) Γn osn (fun o => bindX hS (me o) fun y o => kk (atSnoc fs (h.get o) y, h.rest o)) := rb_setF xo hS h c n it he hk hj hkd hN hf hl hs
end
end Mi

namespace Mi
open PySem PySem.Spec PyProof.Rows L2
/-! ### the head's facts of properties and class constants -/
def fnWA (K : PySem.W.Frag) (a : Addr) : He.FnW := (K.lookup a).bind fun o => match o.data with
  | .func fd => some (fd.name, fd.qualname, fd.params, fd.body, fd.scope, fd.globals, fd.closure, fd.builtins)
  | _ => none
def okA (K : PySem.W.Frag) (a : Addr) (d : He.DefD) : Bool := PySem.W.keepIn K (.ref a) && ((K.lookup a).any fun o => match o.data with
  | .func fd => PySem.W.codeIn K fd.code d.qual && (He.dflB K fd.defaults (d.dvs K) && He.kwdB K fd.kwdefaults (d.kws K))
  | _ => false)
theorem funD_at {K : PySem.W.Frag} {a : Addr} {d : He.DefD} (e : fnWA K a = d.val) (c : okA K a d = true) : ∃ fd, FunD K d.name d.qual d.params d.body d.scope (d.dvs K) (d.kws K) a fd := by
  unfold okA at c
  rw [Bool.and_eq_true] at c
  obtain ⟨kp, c⟩ := c
  unfold fnWA at e
  cases q : K.lookup a with
  | none => rw [q] at e; cases e
  | some o =>
    rw [q] at e c
    rw [Option.bind_some] at e
    rw [Option.any_some] at c
    rcases o with ⟨oc, od, dt, osl⟩
    cases dt with
    | func fd =>
      rcases fd with ⟨m1, m2, m3, m4, m5, m6, m7, m8, m9, m10, m11, m12, m13, m14, m15⟩
      have e2 : some (m1, m2, m3, m4, m5, m6, m7, m15) = some (d.name, d.qual, d.params, FuncBody.stmts d.body, d.scope, mainGlobals, ([] : List (Str × Addr)), builtinsNs) := e
      simp only [Option.some.injEq, Prod.mk.injEq] at e2
      rcases e2 with ⟨rfl, rfl, rfl, rfl, rfl, rfl, rfl, rfl⟩
      have c2 : (PySem.W.codeIn K m13 d.qual && (He.dflB K m8 (d.dvs K) && He.kwdB K m9 (d.kws K))) = true := c
      simp only [Bool.and_eq_true] at c2
      exact ⟨_, ⟨oc, od, m8, m9, m10, m11, m12, m13, m14, osl, rfl, q, c2.1, He.dflB_ok c2.2.1, He.kwdB_ok c2.2.2⟩, kp⟩
    | _ => cases e
/-- a property's object, its getter -/
def pAd (K : PySem.W.Frag) (C f : Str) : Addr := match PySem.W.findIn K (.ref (He.ga K C)) f with
  | some (some (.ref p)) => p
  | _ => 0
def gAd (K : PySem.W.Frag) (C f : Str) : Addr := match PySem.W.recIn K (pAd K C f) "property" with
  | some (.ref g :: _) => g
  | _ => 0
def prB (K : PySem.W.Frag) (C f : Str) : Bool := He.eqO (PySem.W.findIn K (.ref (He.ga K C)) f) (some (some (.ref (pAd K C f)))) && He.eqO (PySem.W.specialIn K (.ref (pAd K C f)) "__get__") (some (some (.builtin "property.__get__"))) &&
  decide (PySem.W.takesIn K (.ref (pAd K C f)) = some true) && (match PySem.W.recIn K (pAd K C f) "property" with
  | some (.ref _ :: _) => true
  | _ => false)
theorem prB_ok {K : PySem.W.Frag} {C f : Str} (h : prB K C f = true) : PropOf K (He.ga K C) f (pAd K C f) (gAd K C f) := by
  unfold prB at h
  simp only [Bool.and_eq_true] at h
  obtain ⟨⟨⟨h1, h2⟩, h3⟩, h4⟩ := h
  refine ⟨He.eqO_ok h1, He.eqO_ok h2, of_decide_eq_true h3, ?_⟩
  unfold gAd
  split at h4
  · rename_i g r e
    exact ⟨r, by rw [e]⟩
  · cases h4
/-- a class constant that is a number -/
def isB (K : PySem.W.Frag) (C : Str) : Bool := He.eqO (PySem.W.findIn K (.ref (He.ga K C)) "__class__") (some (some (.builtin "object.__class__"))) && He.eqO (PySem.W.specialIn K (.builtin "object.__class__") "__get__") (some (some (.builtin "getset_descriptor.__get__"))) &&
  decide (PySem.W.takesIn K (.builtin "object.__class__") = some true) && decide (PySem.W.mroIn K (He.ga K C) (.type "object") = some true)
def neB (K : PySem.W.Frag) (C : Str) : Bool := He.eqO (PySem.W.findIn K (.ref (He.ga K C)) "__ne__") (some (some (.builtin "object.__ne__"))) && decide (PySem.W.mroIn K (He.ga K C) (.type "object") = some true)
def cvB (K : PySem.W.Frag) (C f : Str) (i : Int) : Bool := if f = "__class__" then isB K C else if f = "__ne__" then neB K C else PySem.W.readsIn K (He.ga K C) (.type "type") && He.eqO (PySem.W.specialIn K (.ref (He.ga K C)) "__getattribute__") (some (some (.builtin "type.__getattribute__"))) && (match PySem.W.findCls K (.ref (He.ga K C)) (.type "type") f with
  | some (.val (.int j _)) => decide (j = i)
  | _ => false)
theorem cvB_ok {K : PySem.W.Frag} {C f : Str} {i : Int} (h1 : f ≠ "__class__") (h2 : f ≠ "__ne__") (h : cvB K C f i = true) : ∃ mc u, ClX.CRead K (He.ga K C) mc ∧ ClX.CVal K (He.ga K C) mc f (.int i) u := by
  unfold cvB at h
  rw [if_neg h1, if_neg h2] at h
  simp only [Bool.and_eq_true] at h
  obtain ⟨⟨h1, h2⟩, h3⟩ := h
  split at h3
  · rename_i j t e
    refine ⟨.type "type", .int j t, ⟨h1, He.eqO_ok h2⟩, ⟨e, ?_⟩⟩
    rw [of_decide_eq_true h3]
    exact ⟨t, rfl⟩
  · cases h3
/-! ### the hook -/
structure PrD where
  C : Str
  f : Str
  d : He.DefD
abbrev CvD : Type := Str × Str × Int
abbrev AlX : Type := He.AlD × (Bool × List He.FnW)
def obsX (fa : List He.Fa) (fn : List He.DefD) (pr : List PrD) (cv : List CvD) (K : PySem.W.Frag) : AlX :=
  (He.obsD fa fn K, ((pr.all fun p => prB K p.C p.f && okA K (gAd K p.C p.f) p.d) && cv.all fun q => cvB K q.1 q.2.1 q.2.2, pr.map fun p => fnWA K (gAd K p.C p.f)))
def valX (fn : List He.DefD) (pr : List PrD) : AlX := (He.valD fn, (true, pr.map fun p => p.d.val))
def SaysX (fa : List He.Fa) (fn : List He.DefD) (pr : List PrD) (cv : List CvD) (K : PySem.W.Frag) : Prop := obsX fa fn pr cv K = valX fn pr
def obsXG (n : Nat) (fa : List He.Fa) (fn : List He.DefD) (pr : List PrD) (cv : List CvD) (g : Addr → Option Obj) : AlX := obsX fa fn pr cv (He.frG g (cStatics :: He.asD g n))
def hookX (n : Nat) (fa : List He.Fa) (fn : List He.DefD) (pr : List PrD) (cv : List CvD) : PySem.W.Hook where
  α := AlX
  obs := fun sh => obsXG n fa fn pr cv sh.heap.get?
  val := fun _ => valX fn pr
  says := fun _ hp => ∃ K : PySem.W.Frag, K.In hp ∧ SaysX fa fn pr cv K
  of := fun _ _ eq => ⟨_, He.frG_in, eq⟩
  keeps := fun _ _ _ ⟨K, kin, says⟩ kp => ⟨K, PySem.W.Frag.In.keeps kin kp, says⟩
theorem obsX_eq {n : Nat} {fa : List He.Fa} {fn : List He.DefD} {pr : List PrD} {cv : List CvD} {g : Addr → Option Obj} {sh : Shared} (h : ∀ a, g a = sh.heap.get? a) : obsXG n fa fn pr cv g = (hookX n fa fn pr cv).obs sh := by
  show _ = obsXG n fa fn pr cv sh.heap.get?
  rw [show g = sh.heap.get? from funext h]
theorem SaysX.base {fa : List He.Fa} {fn : List He.DefD} {pr : List PrD} {cv : List CvD} {K : PySem.W.Frag} (c : SaysX fa fn pr cv K) : He.SaysD fa fn K := congrArg (fun z : AlX => z.1) c
theorem SaysX.prop {fa : List He.Fa} {fn : List He.DefD} {pr : List PrD} {cv : List CvD} {K : PySem.W.Frag} (c : SaysX fa fn pr cv K) (i : Nat) {p : PrD} (h : pr[i]? = some p := by rfl) :
    ∃ fd, PropOf K (He.ga K p.C) p.f (pAd K p.C p.f) (gAd K p.C p.f) ∧ FunD K p.d.name p.d.qual p.d.params p.d.body p.d.scope (p.d.dvs K) (p.d.kws K) (gAd K p.C p.f) fd := by
  have c2 : ((pr.all fun p => prB K p.C p.f && okA K (gAd K p.C p.f) p.d) && cv.all fun q => cvB K q.1 q.2.1 q.2.2) = true := congrArg (fun z : AlX => z.2.1) c
  have c3 : (pr.map fun p => fnWA K (gAd K p.C p.f)) = pr.map fun p => p.d.val := congrArg (fun z : AlX => z.2.2) c
  have c4 := congrArg (fun l => l[i]?) c3
  simp only [List.getElem?_map, h, Option.map_some] at c4
  have c5 := List.all_eq_true.mp (Bool.and_eq_true_iff.mp c2).1 p (List.mem_of_getElem? h)
  obtain ⟨b1, b2⟩ := Bool.and_eq_true_iff.mp c5
  obtain ⟨fd, F⟩ := funD_at (Option.some.inj c4) b2
  exact ⟨fd, prB_ok b1, F⟩
theorem SaysX.cv_ {fa : List He.Fa} {fn : List He.DefD} {pr : List PrD} {cv : List CvD} {K : PySem.W.Frag} (c : SaysX fa fn pr cv K) (i : Nat) {q : CvD} (h : cv[i]? = some q := by rfl) : cvB K q.1 q.2.1 q.2.2 = true := by
  have c2 : ((pr.all fun p => prB K p.C p.f && okA K (gAd K p.C p.f) p.d) && cv.all fun q => cvB K q.1 q.2.1 q.2.2) = true := congrArg (fun z : AlX => z.2.1) c
  exact List.all_eq_true.mp (Bool.and_eq_true_iff.mp c2).2 q (List.mem_of_getElem? h)
theorem SaysX.cval {fa : List He.Fa} {fn : List He.DefD} {pr : List PrD} {cv : List CvD} {K : PySem.W.Frag} (c : SaysX fa fn pr cv K) (i : Nat) {q : CvD} (h : cv[i]? = some q := by rfl) (h1 : q.2.1 ≠ "__class__" := by decide) (h2 : q.2.1 ≠ "__ne__" := by decide) : ∃ mc u, ClX.CRead K (He.ga K q.1) mc ∧ ClX.CVal K (He.ga K q.1) mc q.2.1 (.int q.2.2) u := by
  have c2 : ((pr.all fun p => prB K p.C p.f && okA K (gAd K p.C p.f) p.d) && cv.all fun q => cvB K q.1 q.2.1 q.2.2) = true := congrArg (fun z : AlX => z.2.1) c
  exact cvB_ok h1 h2 (List.all_eq_true.mp (Bool.and_eq_true_iff.mp c2).2 q (List.mem_of_getElem? h))
end Mi

namespace Mi
open PySem PySem.Spec PyProof.Rows L2
/-- values by their places, the others by keyword, all of them -/
theorem kbnK {K : PySem.W.Frag} {x qual : Str} {params : Arguments} {body : List Stmt} {scope : Scope} {kws : List (Str × V)} {f : Addr} {fd : FuncData} {ps ks : List Str} {n : Nat} (F : FunD K x qual params body scope [] kws f fd)
    (h : ∀ (kV doc pm : Value) (an : Option Addr) (cdv ct : Value) (us ws : List Value), us.length = n → ws.length = ks.length → bindArgs (PySem.W.fnOf x qual params body scope .none kV doc pm an cdv ct) ⟨us, ks.zip ws⟩ = pure (ps.zip (us ++ ws))) : KBn K fd ps n ks (fun us ws => us ++ ws) (fun vs zs => vs ++ zs) := by
  obtain ⟨oc, od, dV, kV, doc, pm, an, cdv, ct, osl, rfl, lk, hcd, hD, hK⟩ := F.ex
  rcases hD with ⟨_, rfl⟩ | ⟨e, _⟩
  · exact ⟨fun s us ws _ hu hw => .of_eq (h kV doc pm an cdv ct us ws hu hw), fun r z => r.append z⟩
  · exact absurd rfl e
end Mi

namespace Mi
open PySem PySem.Spec PyProof.Rows L2
/-! ### what leans on no dict that may change -/
def SubK (F F' : Hp) : Prop := ∀ a o, F a = some o → (∀ kvs, o ≠ .dK kvs) → F' a = some o
def FlK (t : Ty) : Prop := ∀ {x v F F' m}, t.rep x v F m → SubK F F' → t.rep x v F' m
theorem flk_flat {A : Type} {g : A → V} : FlK (flat A g) := fun h _ => h
theorem allR_k {t : Ty} (ft : FlK t) {F F' : Hp} (s : SubK F F') : ∀ {xs : List t.A} {vs : List V}, AllR t xs vs F → AllR t xs vs F'
  | [], _, h => h
  | _ :: _, _, ⟨v, r, e, q, k⟩ => ⟨v, r, e, ft q s, allR_k ft s k⟩
theorem kvR_k {t : Ty} (ft : FlK t) {F F' : Hp} (s : SubK F F') : ∀ {xs : List (List Nat × t.A)} {kvs : List (Key × V)}, KvR t xs kvs F → KvR t xs kvs F'
  | [], _, h => h
  | _ :: _, _, ⟨v, l, e, q, k⟩ => ⟨v, l, e, ft q s, kvR_k ft s k⟩
theorem flk_lst {t : Ty} (ft : FlK t) : FlK (tLst t) := fun ⟨e, a, vs, ev, q, r⟩ s => ⟨e, a, vs, ev, s _ _ q (fun _ z => nomatch z), allR_k ft s r⟩
theorem flk_own {t : Ty} (ft : FlK t) : FlK (tOwn t) := fun ⟨a, vs, e, q, r⟩ s => ⟨a, vs, e, q, allR_k ft s r⟩
theorem flk_dctL {t : Ty} (ft : FlK t) : FlK (tDctL t) := fun ⟨e, a, o, kvs, ev, q, r⟩ s => ⟨e, a, o, kvs, ev, s _ _ q (fun _ z => nomatch z), kvR_k ft s r⟩
theorem flk_ownD {t : Ty} (ft : FlK t) : FlK (tOwnD t) := fun ⟨a, kvs, e, q, r⟩ s => ⟨a, kvs, e, q, kvR_k ft s r⟩
def FlsK : Flds → Prop
  | [] => True
  | f :: r => FlK f.2 ∧ FlsK r
theorem insR_k {F F' : Hp} (s : SubK F F') : ∀ {fs : Flds} {x : AT (fs.map (·.2))} {ws : List (Str × V)}, FlsK fs → InsR fs x ws F → InsR fs x ws F'
  | [], _, _, _, h => h
  | _ :: _, _, _, ⟨f, fr⟩, ⟨v, l, e, q, k⟩ => ⟨v, l, e, f q s, insR_k s fr k⟩
theorem flk_ins {C : Addr} {fs : Flds} (hf : FlsK fs) : FlK (tIns C fs) := fun {x v F F' m} h s => by
  obtain ⟨e, a, dx, ws, ev, q, r⟩ := h
  exact ⟨e, a, dx, ws, ev, s _ _ q (fun _ z => nomatch z), insR_k (x := x) s hf r⟩
theorem flk_ownI {C : Addr} {fs : Flds} (hf : FlsK fs) : FlK (tOwnI C fs) := fun {x v F F' m} h s => by
  obtain ⟨a, dx, ws, e, n, q, r⟩ := h
  exact ⟨a, dx, ws, e, n, q, insR_k (x := x) s hf r⟩
theorem atk : ∀ {ts : List Ty} {x : AT ts} {vs : List V} {F F' : Hp}, SubK F F' → (∀ t ∈ ts, FlK t) → ArgsOk ts x vs F → ArgsOk ts x vs F'
  | [], _, _, _, _, _, _, h => h
  | t :: r, _, _, _, _, s, f, ⟨v, us, e, q, k⟩ => ⟨v, us, e, f t (List.mem_cons_self ..) q s, atk s (fun u hu => f u (List.mem_cons_of_mem _ hu)) k⟩
theorem flk_tup {ts : List Ty} (f : ∀ t ∈ ts, FlK t) : FlK (tTup ts) := fun {x v F F' m} h s => by
  obtain ⟨e, a, vs, ev, q, r⟩ := h
  exact ⟨e, a, vs, ev, s _ _ q (fun _ z => nomatch z), atk s f r⟩
def OsK : Os → Prop
  | [] => True
  | p :: r => FlK p.2 ∧ OsK r
theorem OwnOk.k : ∀ {os : Os} {o : OT os} {σ : L2.St} {F F' M R : Hp}, SubK F F' → OsK os → OwnOk os o σ F M R → OwnOk os o σ F' M R
  | [], _, _, _, _, _, _, _, _, h => h
  | _ :: _, _, _, _, _, _, _, s, ⟨f, fr⟩, ⟨v, m, M', e, r, p, k⟩ => ⟨v, m, M', e, f r s, p, k.k s fr⟩
/-- all slots but the i-th -/
def CtxK : Nat → Ctx → Prop
  | _, [] => True
  | 0, _ :: r => ∀ y ∈ r, ∀ u x, y = some ⟨u, x⟩ → FlK u
  | i + 1, none :: r => CtxK i r
  | i + 1, some p :: r => FlK p.1 ∧ CtxK i r
theorem CtxK.at : ∀ {i : Nat} {Γ : Ctx}, CtxK i Γ → ∀ j u x, j ≠ i → Γ[j]? = some (some ⟨u, x⟩) → FlK u
  | _, [], _, _, _, _, _, h => by simp at h
  | 0, _ :: r, k, 0, _, _, n, _ => absurd rfl n
  | 0, _ :: r, k, j + 1, u, x, _, h => k _ (List.mem_of_getElem? (by simpa using h)) u x rfl
  | i + 1, none :: r, k, 0, u, x, _, h => by simp at h
  | i + 1, none :: r, k, j + 1, u, x, n, h => (show CtxK i r from k).at j u x (fun e => n (by rw [e])) (by simpa using h)
  | i + 1, some p :: r, k, 0, u, x, _, h => by simp at h; rw [h] at k; exact k.1
  | i + 1, some p :: r, k, j + 1, u, x, n, h => k.2.at j u x (fun e => n (by rw [e])) (by simpa using h)
section
variable {X : Cx} {N : List Str} {sc : Scope} {B : List Str} {k : Nat} {Γ : Ctx} {os os' : Os} {pos p p1 p2 p3 cpos apos : Pos} {e a b : Expr} {es : List Expr} {t u : Ty}
theorem want_noX {O A : Type} {m : SM O A} {o : O} {N' : A → O → Prop} {E' : Exn → O → Prop} (h : Want (noX m o) N' E') : ∃ x o', m o = some (.ok x, o') ∧ N' x o' := by
  unfold noX at h
  cases e : m o with
  | none => rw [e] at h; exact h.elim
  | some r =>
    obtain ⟨r, o'⟩ := r
    rw [e] at h
    cases r with
    | ok x => exact ⟨x, o', rfl, h⟩
    | error x => exact h.elim
/-- a dict that is lent is locked while e walks it -/
theorem re_lockD {i : Nat} {x : List (List Nat × t.A)} {m : SM (OT os) u.A} (hc : CtxK i Γ) (ho : OsK os) (ft : FlK t) (fu : Fl u) (fo : FlOs os) (he : RE X (Γ.set i (some ⟨tDctL t, x⟩)) os e u m) (hΓ : Γ[i]? = some (some ⟨tDct t, x⟩) := by rfl) :
    RE X Γ os e u (noX m) := by
  intro σ F M R H o W Q tk c w g q
  obtain ⟨y, o', em, q⟩ := want_noX q
  obtain ⟨v, e0, _, a, kvs, ev, rd, r⟩ := c.2 i (tDct t) x hΓ
  have hset : ∀ {F' : Hp}, CtxOk Γ σ F' → (tDctL t).rep x v F' emp → CtxOk (Γ.set i (some ⟨tDctL t, x⟩)) σ F' := fun c' r' => by
    have c3 := c'.set (i := i) (t := tDctL t) (x := x) (v := v) r'
    have e3 : σ.set i (some v) = σ := by
      apply List.ext_getElem?
      intro j
      by_cases hj : j = i
      · subst hj
        have hl : j < σ.length := (List.getElem?_eq_some_iff.mp e0).1
        rw [List.getElem?_set_self hl, e0]
      · rw [List.getElem?_set_ne (Ne.symm hj)]
    rw [e3] at c3
    exact c3
  rcases rd with fa | ⟨od, fa⟩
  · have ha : H a = some (.dK kvs) := g.f _ _ fa
    refine ⟨_, pe_lock (pe_best X e), a, .dK kvs, ha, True.intro, fun od => ?_⟩
    have sk : SubK F (upd F a (.frz od (.dK kvs))) := fun b u' eb n => by
      by_cases hb : b = a
      · subst hb; rw [fa] at eb; cases eb; exact absurd rfl (n kvs)
      · rw [upd_ne hb]; exact eb
    have hMa : M a = none := by
      rcases g.dis a with z | z
      · rw [fa] at z; cases z
      · exact z
    have g2 : Good (upd F a (.frz od (.dK kvs))) M (upd H a (.frz od (.dK kvs))) := by
      refine ⟨fun b u' eb => ?_, fun b u' eb => ?_, fun b => ?_, g.nt⟩
      · by_cases hb : b = a
        · subst hb; rw [upd_same] at eb; cases eb; exact HF.of upd_same fun _ e => nomatch e
        · rw [upd_ne hb] at eb
          exact (g.f _ _ eb).up' (fun c φ ec => by rw [upd_ne (fun z => by rw [z, fa] at ec; cases ec)]; exact ec) (upd_ne hb)
      · rw [upd_ne (fun z => by rw [z, hMa] at eb; cases eb)]; exact g.m _ _ eb
      · by_cases hb : b = a
        · subst hb; exact .inr hMa
        · rw [upd_ne hb]; exact g.dis b
    have c2 : CtxOk (Γ.set i (some ⟨tDctL t, x⟩)) σ (upd F a (.frz od (.dK kvs))) := by
      have cc : CtxOk (Γ.set i none) σ (upd F a (.frz od (.dK kvs))) := by
        refine ⟨by rw [List.length_set]; exact c.1, fun j u' y' ej => ?_⟩
        by_cases hj : j = i
        · subst hj
          have hl : j < Γ.length := (List.getElem?_eq_some_iff.mp hΓ).1
          rw [List.getElem?_set_self hl] at ej
          cases ej
        · rw [List.getElem?_set_ne (Ne.symm hj)] at ej
          obtain ⟨v', e1, r1⟩ := c.2 j u' y' ej
          exact ⟨v', e1, hc.at j u' y' hj ej r1 sk⟩
      have c3 := cc.set (i := i) (t := tDctL t) (x := x) (v := v) ⟨rfl, a, od, kvs, ev, upd_same, kvR_k ft sk r⟩
      rw [List.set_set] at c3
      have e3 : σ.set i (some v) = σ := by
        apply List.ext_getElem?
        intro j
        by_cases hj : j = i
        · subst hj
          have hl : j < σ.length := (List.getElem?_eq_some_iff.mp e0).1
          rw [List.getElem?_set_self hl, e0]
        · rw [List.getElem?_set_ne (Ne.symm hj)]
      rw [e3] at c3
      exact c3
    refine he σ _ M R _ o W _ tk c2 (w.k sk ho) g2 ?_
    rw [em]
    intro v2 F3 M1 mm M2 H3 s3 w3 p3 g3 r3
    have f3 : F3 a = some (.frz od (.dK kvs)) := s3 _ _ upd_same
    refine ⟨g3.f _ _ f3, ?_⟩
    have m2 : M2 a = none := by
      rcases g3.dis a with z | z
      · rw [f3] at z; cases z
      · exact z
    refine q v2 (upd F3 a (.dK kvs)) M1 mm M2 _ (fun b u' eb => ?_) (w3.fl fo) p3 ⟨fun b u' eb => ?_, fun b u' eb => ?_, fun b => ?_, g3.nt⟩ (fu r3)
    · by_cases hb : b = a
      · subst hb; rw [upd_same, ← fa]; exact eb
      · rw [upd_ne hb]; exact s3 _ _ (by rw [upd_ne hb]; exact eb)
    · by_cases hb : b = a
      · subst hb; rw [upd_same] at eb; cases eb; exact HF.of upd_same fun _ e => nomatch e
      · rw [upd_ne hb] at eb
        exact (g3.f _ _ eb).up' (fun c φ ec => by rw [upd_ne (fun z => by rw [z, f3] at ec; cases ec)]; exact ec) (upd_ne hb)
    · rw [upd_ne (fun z => by rw [z, m2] at eb; cases eb)]; exact g3.m _ _ eb
    · by_cases hb : b = a
      · subst hb; exact .inr m2
      · rw [upd_ne hb]; exact g3.dis b
  · refine he σ F M R H o W Q tk (hset c ⟨rfl, a, od, kvs, ev, fa, r⟩) w g ?_
    rw [em]
    exact q
/-- a dict of ours is lent, and what comes back leans not on it -/
theorem re_borK {i : Nat} {t1 : Ty} {m : List (List Nat × t1.A) → SM (OT os') t.A} (h : OSel os i (tOwnD t1) os') (f0 : FlK t1) (fo : OsK os') (ft : FlK t) (he : ∀ x, RE X (Γ.set i (some ⟨tDct t1, x⟩)) os' e t (m x)) : RE X Γ os e t (SM.bor h id m) := by
  intro σ F M R H o W Q tk c w g q
  obtain ⟨m0, v, M', r0, e0, d, s0, c2, w2, g2, s2, s3⟩ := bor_core (Γ := Γ) h frz_ownD c w g
  have q' := q
  unfold SM.bor at q'
  refine he _ σ (uni m0 F) M' R H (h.rest o) W Q tk c2 w2 g2 ?_
  cases r : m (id (h.get o)) (h.rest o) with
  | none => rw [r] at q'; exact q'.elim
  | some y =>
    obtain ⟨y, o1⟩ := y
    rw [r] at q'
    cases y with
    | error x => exact q'.elim
    | ok y =>
      intro v2 F2 M1 mm M2 H2 s4 w4 p4 g4 r4
      obtain ⟨a, kvs, ev, em0, rk⟩ := r0
      subst em0
      have f2 : F2 a = some (.dK kvs) := s4 _ _ (uni_l sing_same)
      have fa : F a = none := (d a).resolve_left (by rw [sing_same]; exact fun z => nomatch z)
      have m2 : M2 a = none := by
        rcases g4.dis a with z | z
        · rw [f2] at z; cases z
        · exact z
      have m1 : M1 a = none := (p4.none m2).2
      have mma : mm a = none := (p4.none m2).1
      let F3 : Hp := fun b => if b = a then none else F2 b
      have e3 : ∀ b, b ≠ a → F3 b = F2 b := fun b hb => if_neg hb
      have ea : F3 a = none := if_pos rfl
      have sk : SubK F2 F3 := fun b o' eb n => by
        by_cases hb : b = a
        · subst hb; rw [f2] at eb; cases eb; exact absurd rfl (n kvs)
        · rw [e3 b hb]; exact eb
      have sF : Sub F F3 := fun b o' eb => by
        have hb : b ≠ a := fun z => by rw [z, fa] at eb; cases eb
        rw [e3 b hb]
        exact s4 _ _ (by rw [uni_r (sing_ne hb)]; exact eb)
      have hsing : ∀ b, (sing a (HO.dK kvs) : Hp) b = none ∨ M2 b = none := fun b => by
        by_cases hb : b = a
        · subst hb; exact .inr m2
        · exact .inl (sing_ne hb)
      have hsing1 : ∀ b, (sing a (HO.dK kvs) : Hp) b = none ∨ M1 b = none := fun b => (hsing b).imp id fun z => (p4.none z).2
      have skF : SubK F F3 := fun b o' eb _ => sF b o' eb
      refine (show NormE os t σ F R Q y (h.join (h.get o) o1) from q') v2 F3 (uni (sing a (.dK kvs)) M1) mm (uni (sing a (.dK kvs)) M2) H2 sF ?_ ?_ ?_ (ft r4 sk)
      · exact h.back e0 ⟨a, kvs, ev, rfl, kvR_k f0 skF rk⟩ (sep_mk hsing1) (w4.k sk fo)
      · obtain ⟨G, g1, gg⟩ := p4.assoc (sep_mk hsing)
        have e : G = uni (sing a (.dK kvs)) M1 := g1.eq
        subst e
        exact gg
      · refine ⟨fun b o' eb => ?_, fun b o' eb => ?_, fun b => ?_, fun b o' eb => ?_⟩
        · by_cases hb : b = a
          · subst hb; rw [ea] at eb; cases eb
          · rw [e3 b hb] at eb
            exact (g4.f _ _ eb).up' (fun c φ ec => by rw [e3 c (fun z => by rw [z, f2] at ec; cases ec)]; exact ec) rfl
        · by_cases hb : b = a
          · subst hb; rw [uni_l sing_same] at eb; rw [← eb]; exact g4.f _ _ f2
          · rw [uni_r (sing_ne hb)] at eb; exact g4.m _ _ eb
        · by_cases hb : b = a
          · subst hb; exact .inl ea
          · rw [e3 b hb, uni_r (sing_ne hb)]; exact g4.dis b
        · by_cases hb : b = a
          · subst hb; rw [uni_l sing_same] at eb; cases eb; exact ⟨(fun _ e => nomatch e), (fun _ e => nomatch e)⟩
          · rw [uni_r (sing_ne hb)] at eb; exact g4.nt _ _ eb
end
end Mi

namespace Mi
open PySem PySem.Spec PyProof.Rows L2
end Mi

namespace Mi
open PySem PySem.Spec PyProof.Rows L2
/-! ### defs that are told that no repr is under way -/
structure FnG (M : Md) (k : Nat) (f : Addr) (fd : FuncData) (ps : List Str) (sp : Sp) : Prop where
  size : ∀ vs H Q E, sp vs H Q E → vs.length = ps.length
  go : ∀ {A : Around} {outer : List Env} {s : Shared} {H : Hp} {args : Args} {us : List Value} {vs : List V} {Q : VK} {E : XK}, A.guards = some [] → Room k A → Env0 M.P M.w M.K M.mg M.base A outer s H →
    BindsTo s fd args (ps.zip us) → Vals vs us → sp vs H Q E → codeAny (model M.P M.w) A (.call (.ref f) args) (CR (L2.CX M.P M.w) outer M.P M.w H s Q E) s
section
variable {M : Md} {x qual : Str} {params : Arguments} {body : List Stmt} {scope : Scope} {dvs : List V} {kws : List (Str × V)} {f : Addr} {fd : FuncData} {N ps : List Str} {k : Nat} {sp : Sp}
theorem fn_G0 (F : FunD M.K x qual params body scope dvs kws f fd) (S : FnScope N ps scope) (size : ∀ vs H Q E, sp vs H Q E → vs.length = ps.length)
    (walk : ∀ (cdv : Value) (A : Around) (outer : List Env) (s : Shared) (H : Hp) (vs : List V) (Q : VK) (E : XK), A.guards = some [] → Room k (A.deeper (envOfC qual scope s.heap.objs.size f cdv)) → sp vs H Q E →
      ∃ t, PSs (cxOf (L2.CX M.P M.w) M.P M.w M.K M.mg M.base N qual scope f cdv A outer s H E) body t ∧ t { nx := fun _ H' => Q .non H', rt := Q } (L2.start N vs) H) : FnG M (k + 1) f fd ps sp := by
  obtain ⟨oc, od, dV, kV, doc, pm, an, cdv, ct, osl, rfl, found, code, _, _⟩ := F.ex
  refine ⟨size, fun {A outer s H args us vs Q E} gd room e0 binds rel hsp => ?_⟩
  have many := size _ _ _ _ hsp
  have old : ∀ b o, M.base.get? b = some o → s.heap.get? b = some o := fun b o e => (e0.bs b o e).1
  have inK : M.K.In s.heap := e0.mod.kin.keeps old
  have noLim : s.heap.NoLimit := e0.mod.nolimit.keeps old
  refine codeAny_call_function room.depth (inK _ _ found) rfl S.co S.gen rfl (PySem.W.codeRec_of inK code) (binds _ _ _ _ ?_)
  refine wpAny_newFunctionEnv_cells S.kind (fun y hy => ?_) fun env he s1 z => ?_
  · rcases S.par y.1 (List.of_mem_zip (show (y.1, y.2) ∈ ps.zip us from hy)).1 with q | q
    · exact .inl q
    · exact .inr ⟨q, PySem.W.cellsFrom_some _ _ _ (.inl q)⟩
  subst he
  refine ⟨noLim.keeps z.toInCall.keep, codeAny_func ?_⟩
  obtain ⟨t, pt, ht⟩ := walk cdv A outer s H vs Q E gd (room.deeper _) hsp
  have I0 := inv_start (CX := L2.CX M.P M.w) (E := E) S room.hd e0 many rel z
  refine wpAny_mono (pt.run [] s1 (L2.start N vs) H _ I0 ht) (fun way s2 h => ?_) fun _ _ h => h
  cases way with
  | ret u => obtain ⟨v, _, H2, J, r, q⟩ := h; exact ⟨v, H2, J.os, J.bare, J.base, J.hok, r, q⟩
  | next => obtain ⟨_, H2, J, q⟩ := h; exact ⟨.non, H2, J.os, J.bare, J.base, J.hok, rfl, q⟩
  | brk => exact h.choose_spec.choose_spec.2.elim
  | cont => exact h.choose_spec.choose_spec.2.elim
end
/-! ### the law's own def, so told -/
theorem pick_H {P : Program} {w : World} {K : PySem.W.Frag} {a : Addr} {vs : List Value} {ns : List Int} {s : Shared} (inK : K.In s.heap) (ho : s.heap.get? a = some { cls := .type "list", data := .seq vs.toArray }) (hi : IntsAre vs ns) (hl : ns.length ≤ sizeLine) :
    ∃ H : Hp, Only H ∧ SqL K H a (ns.map V.int) ∧ HOk P w H s.heap ∧ ∀ b, H b ≠ none → b = a ∧ K.lookup a = none := by
  have rel := vals_ints hi
  cases q : K.lookup a with
  | some o =>
    have e : o = { cls := .type "list", data := .seq vs.toArray } := Option.some.inj ((inK a o q).symm.trans ho)
    subst e
    have hsz : vs.toArray.size ≤ sizeLine := by rw [List.size_toArray, hi.length]; exact hl
    exact ⟨emp, fun _ => .inl rfl, .inr ⟨_, vs.toArray, _, q, rfl, rfl, rfl, hsz, by simpa using rel⟩, fun _ _ z => (nomatch z), fun _ z => absurd rfl z⟩
  | none =>
    let u : HO := .frz { cls := .type "list", data := .seq vs.toArray } (.lst (ns.map V.int))
    have at_ : ∀ b, (sing a u : Hp) b = if b = a then some u else none := fun _ => rfl
    refine ⟨sing a u, fun b => ?_, .inl (.inr ⟨_, sing_same⟩), fun b v z => ?_, fun b z => ?_⟩
    · by_cases hb : b = a
      · subst hb; exact .inr ⟨_, _, sing_same⟩
      · exact .inl (sing_ne hb)
    · by_cases hb : b = a
      · subst hb
        rw [sing_same] at z
        cases z
        exact ⟨ho, by rw [List.length_map]; exact hl, vs, _, rel, ho⟩
      · rw [sing_ne hb] at z; cases z
    · exact ⟨Classical.byContradiction fun hb => z (sing_ne hb), rfl⟩
theorem law_G {P : Program} {w : World} {K : PySem.W.Frag} {mg mb : Str → Option Value} {k : Nat} {fa a : Addr} {fd : FuncData} {x : Str} {sp : Sp} {s : Shared} {vs : List Value} {ns : List Int}
    (inK : K.In s.heap) (glob : s.heap.Ns mainGlobals mg) (blt : s.heap.Ns builtinsNs mb) (boot : ∀ x : Str, x ≠ "__name__" → mb x = bootBuiltins x) (lim : s.heap.NoLimit) (gens : s.gens = #[])
    (ho : s.heap.get? a = some { cls := .type "list", data := .seq vs.toArray }) (hi : IntsAre vs ns) (hl : ns.length ≤ sizeLine) (room : Room k callerA)
    (F : ∀ base : Heap, K.In base → base.Ns mainGlobals mg → FnG ⟨P, w, K, mg, base⟩ k fa fd [x] sp) (binds : ∀ (s : Shared) (u : Value), BindsTo s fd ⟨[u], []⟩ [(x, u)])
    (hsp : ∀ H : Hp, SqL K H a (ns.map V.int) → sp [.ref a] H (fun v _ => v = .bl true) fun _ _ _ => False) :
    codeAny (model P w) callerA (.call (.ref fa) ⟨[.ref a], []⟩) (fun r s' => r = .ok (.ret (.bool true)) ∧ OldK s.heap s'.heap ∧ s'.os = s.os ∧ AllBare s'.gens) s := by
  obtain ⟨H, only, seq, ok, most⟩ := pick_H (P := P) (w := w) inK ho hi hl
  have put : ∀ {b o}, s.heap.get? b = some o → H b = none → (hidT s.heap H).get? b = some o := hidT_get
  have nsOf : ∀ {b : Addr} {m : Str → Option Value}, s.heap.Ns b m → (hidT s.heap H).Ns b m := by
    rintro b m ⟨o, es, ep, e, d, r⟩
    refine ⟨o, es, ep, put e (Classical.byContradiction fun z => ?_), d, r⟩
    rw [(most b z).1, ho] at e
    cases e
    cases d
  have inB : K.In (hidT s.heap H) := fun b o e => put (inK b o e) (Classical.byContradiction fun z => by
    obtain ⟨h1, h2⟩ := most b z
    rw [h1, h2] at e
    cases e)
  obtain ⟨mc, c1, c2⟩ := lim
  have e0 : Env0 P w K mg (hidT s.heap H) callerA [] s H :=
    ⟨rfl, ⟨inB, nsOf glob, ⟨mb, nsOf blt, boot⟩, mc, nsOf c1, c2⟩, fun _ _ e => of_hidT e, Nat.le_of_eq (hidT_size _ _), trivial, fun _ z => (nomatch z), ok, .of_eq gens⟩
  have go := (F _ inB (nsOf glob)).go (M := ⟨P, w, K, mg, hidT s.heap H⟩) (A := callerA) (us := [.ref a]) (vs := [.ref a]) rfl room e0 (binds s (.ref a)) (.cons rfl .nil) (hsp H seq)
  refine codeAny_mono go fun r s2 h => ?_
  cases r with
  | error e =>
    obtain ⟨_, _, _, _, _, _, _, _, _, _, _, _, z⟩ := h
    exact z.elim
  | ok way =>
    cases way with
    | ret u =>
      obtain ⟨v, H2, os, bare, un, ok2, rel, q⟩ := h
      have q : v = .bl true := q
      subst q
      have rel : u = Value.bool true := rel
      subst rel
      refine ⟨rfl, OldK.of_keep fun b o e => ?_, os, bare⟩
      rcases only b with z | ⟨ob, xs, z⟩
      · exact un.keep b o e z (fun y => nomatch y) (fun y => nomatch y)
      · have y1 := (ok b _ z).1
        have y2 := (ok2 b _ (un.frzs b ob _ z)).1
        rw [e] at y1
        cases y1
        exact y2
    | next => exact h.elim
    | brk => exact h.elim
    | cont => exact h.elim
theorem walk_G {l : PySem.W.OpenLaw} {n k : Nat} {q : Program} {loose : List Str} {XP : (Str → Option Value) → Heap → Prop} {YP : World → Heap → Prop} {d : DefRec} {x : Str} (hn : l.most = some n) (hn2 : n ≤ sizeLine) (hdf : d.params.defaults = []) (room : Room k callerA)
    (F : ∀ (w : World) (mg : Str → Option Value) (fa : Addr) (h : Heap), YP w h → h.Ns mainGlobals mg → mg d.name = some (.ref fa) →
      ∃ (K : PySem.W.Frag) (fd : FuncData) (sp : Sp), K.In h ∧ (∀ (s : Shared) (u : Value), BindsTo s fd ⟨[u], []⟩ [(x, u)]) ∧ (∀ (H : Hp) (a : Addr) (ns : List Int), SqL K H a (ns.map V.int) → sp [.ref a] H (fun v _ => v = .bl true) fun _ _ _ => False) ∧
        ∀ base : Heap, K.In base → base.Ns mainGlobals mg → FnG ⟨l.prog, w, K, mg, base⟩ k fa fd [x] sp) :
    PySem.W.WalkO q loose XP YP l.row.toRowW d [] (fun f vs => PySem.call f vs) := by
  refine Att.attach_call hn hdf fun w _ s mg _ fa _ _ _ _ a vs ns G Y _ _ _ hmg ho hi hlen gens => ?_
  obtain ⟨K, fd, sp, inK, binds, hsp, hF⟩ := F w mg fa _ Y G.T.g hmg
  exact law_G inK G.T.g G.T.b G.T.builtins G.T.nolimit gens ho hi (Nat.le_trans hlen hn2) room hF binds fun H seq => hsp H a ns seq
end Mi

namespace Mi
open PySem PySem.Spec PyProof.Rows L2
/-! ### their making and their calls -/
section
variable {M : Md} {x qual : Str} {params : Arguments} {body : List Stmt} {scope : Scope} {f : Addr} {fd : FuncData} {N ps : List Str} {B : List Str} {k : Nat}
theorem fn_PG (F : FunD M.K x qual params body scope [] [] f fd) {Lks : Md → Prop} (lks : Lks M) {ts : List Ty} {tr : Ty} {β : Type} {Γn : β → Ctx} {osn : Os} {m : AT ts → OT [] → OutT ⟨[], [], tr⟩ LC.none β osn} {z : Option tr.A}
    (hB : ∀ (i : Nat) (x : Str), B[i]? = some x → M.mg x = none) (hsc : fnScB N ps scope = true) (hl : ts.length = ps.length)
    (hb : ∀ X : Cx, X.A.guards = some [] → Lks X.md → XOk X N scope B k → XS X → ∀ x, RB X ⟨[], [], tr⟩ LC.none (argCtx ts x ++ List.replicate (N.length - ts.length) none) [] body Γn osn (m x))
    (hz : ∀ y, z = some y → ∀ F, tr.rep y .non F emp) :
    FnG M (k + 1) f fd ps (spP M.mg ts tr fun x => runZ z (m x ())) := by
  obtain ⟨S, hu, hd⟩ := fnScB_ok hsc
  refine fn_G0 F S (fun vs H Q E h => ?_) fun cdv A outer s H vs Q E gd hr h => ?_
  · obtain ⟨_, _, _, h, _⟩ := h
    rw [h.length, hl]
  · obtain ⟨x, F, R, ha, g, h⟩ := h
    refine ⟨_, pss_best _ body, ?_⟩
    have c := ctx_args (n := N.length - vs.length) ha
    have hlen := ha.length
    rw [hlen] at c
    refine hb (cxOf (L2.CX M.P M.w) M.P M.w M.K M.mg M.base N qual scope f cdv A outer s H E) gd lks (xo_body S hu hd hB hr) xs_body x (L2.start N vs) F R R H () (fun cls d _ H => E cls d H) _ takes_body ?_ rfl g ?_
    · unfold L2.start
      rw [hlen]
      exact c
    · revert h
      show (match runZ z (m x ()) with
        | none => False
        | some (.ok y) => _
        | some (.error ex) => _) → WantS _ _ _ _ _ _ _ _ _ _ (m x ())
      cases q : m x () with
      | none => exact fun h => h.elim
      | some r =>
        cases r with
        | nxt n =>
          cases z with
          | none => exact fun h => h.elim
          | some y =>
            intro h σ' F' M' H' s' k' c' w' g'
            obtain ⟨M0, s0, w0⟩ := (dropAll osn).own w'
            have w0' : M0 = R := w0
            subst w0'
            exact h .non F' emp _ H' s' (sep_emp_l _) (g'.less s0) (hz y rfl F')
        | brk n => exact fun h => h.elim
        | cnt n => exact fun h => h.elim
        | ret y p =>
          intro h v σ' F' M1 mm M' H' s' k' w' p' g' r'
          have e : M1 = R := w'
          subst e
          exact h v F' mm M' H' s' p' g' r'
        | exc e p =>
          intro h cls d σ' F' M' H' s' k' w' g' x'
          have e : M' = R := w'
          subst e
          exact h cls d F' H' s' g' x'
end
def LkPG (M : Md) (nm : Str) (ps : List Str) (ts : List Ty) (tr : Ty) (fn : AT ts → Option (Except Exn tr.A)) (j : Nat) : Prop := ∃ f fd, M.mg nm = some (.ref f) ∧ PySem.W.keepIn M.K (.ref f) = true ∧ Binds M.K fd ps [] ∧ FnG M j f fd ps (spP M.mg ts tr fn)
section
variable {X : Cx} {N : List Str} {sc : Scope} {B : List Str} {k : Nat} {Γ : Ctx} {os : Os} {pos p : Pos} {e : Expr} {es : List Expr}
theorem re_callG (gd : X.A.guards = some []) (xo : XOk X N sc B k) {nm : Str} {ps : List Str} {ts : List Ty} {tr : Ty} {fn : AT ts → Option (Except Exn tr.A)} {j : Nat} {m : SM (OT os) (AT ts)} (l : LkPG X.md nm ps ts tr fn j) (g : Nat)
    (ha : RA X Γ os (e :: es) ts m) (hg : sc.names[g]? = some (nm, .globalImplicit) := by rfl) (hj : j ≤ k := by decide)
    (he : starEach (e :: es) X.env = (false, eval e X.env) :: starEach es X.env := by rfl) (hpl : (backTo pos (starEach es X.env)).any (·.1) = false := by rfl) :
    RE X Γ os (.Call (.Name nm p) (e :: es) [] pos) tr (SM.bind m fun x => SM.lifx (fn x)) := by
  obtain ⟨f, fd, mgf, kp, bd, ok⟩ := l
  intro σ F M R H o W Q tk c w gd' h
  have pe : PE X (.Call (.Name nm p) (e :: es) [] pos) (fun σ' H' Q' => σ' = σ ∧ bestA X (e :: es) σ' H' fun vs H1 => spP X.mg ts tr fn vs H1 Q' (WE W σ)) := by
    refine ⟨fun pins s σ' H' Q' I q => ?_⟩
    obtain ⟨rfl, q⟩ := q
    refine wpAny_Call_Name_kw (ld_glob I (xo.gl g nm hg) mgf ?_ (xo.db g nm _ hg).1)
    refine PySem.W.callWith_K (h₀ := X.base) I.ok.mod.kin kp (thn ((pa_best X (e :: es)).run pos pins s σ' H' _ I q) fun us s1 ⟨vs, H1, I1, r, q1⟩ => ⟨I1.kIn, ?_⟩) he hpl
    have many : us.length = ps.length := by rw [← r.length]; exact ok.size _ _ _ _ q1
    have bds := bd s1 us I1.kIn (by simpa using many)
    rw [List.append_nil] at bds
    refine wpAny_call (codeAny_mono (ok.go (M := X.md) gd (xo.room.mono hj) I1.env0 bds r q1) fun w' s2 hq => ?_)
    cases w' with
    | error ex => exact passAt tk σ' pins H1 s1 ex s2 I1 hq
    | ok way =>
      cases way with
      | ret u => exact I1.after hq
      | next => exact hq.elim
      | brk => exact hq.elim
      | cont => exact hq.elim
  refine ⟨_, pe, rfl, ?_⟩
  refine args_end ha tk c w gd' h fun x o2 vs F2 M2 H2 h2 s2 w2 g2 r2 => ?_
  refine ⟨x, F2, M2, r2, g2, ?_⟩
  unfold SM.lifx at h2
  cases z : fn x with
  | none => rw [z] at h2; exact h2
  | some r =>
    rw [z] at h2
    cases r with
    | ok y => exact fun v F' mm M' H' s' p' g' r' => (show NormE os tr σ F R Q y o2 from h2) v F' M2 mm M' H' (s2.trans s') (w2.mono s') p' g' r'
    | error ex => exact fun cls d F' H' s' g' x' => (show ExcE X os σ F R W ex o2 from h2) cls d F' M2 H' (s2.trans s') (w2.mono s') g' x'
end
end Mi

namespace Mi
open PySem PySem.Spec PyProof.Rows L2
/-! ### what a value reads as -/
mutual
def DV : PyData → V → Hp → Prop
  | .none, v, _ => v = .non
  | .bool b, v, _ => v = .bl b
  | .int i, v, _ => v = .int i
  | .str s, v, _ => v = .str s
  | .list xs, v, H => ∃ a vs, v = .ref a ∧ H a = some (.lst vs) ∧ DVs xs vs H
  | .tuple xs, v, H => ∃ a vs, v = .ref a ∧ H a = some (.tup vs) ∧ DVs xs vs H
  | .dict ks, v, H => ∃ a kw, v = .ref a ∧ Rd H a (.dK kw) ∧ DKs ks kw H
def DVs : List PyData → List V → Hp → Prop
  | [], vs, _ => vs = []
  | x :: xs, vs, H => ∃ v r, vs = v :: r ∧ DV x v H ∧ DVs xs r H
def DKs : List (PyData × PyData) → List (Key × V) → Hp → Prop
  | [], kw, _ => kw = []
  | (k, x) :: xs, kw, H => ∃ s v r, kw = (.inr s, v) :: r ∧ k = .str s ∧ DV x v H ∧ DKs xs r H
end
mutual
theorem DV.up : ∀ {d : PyData} {v : V} {F H : Hp}, SubN F H → DV d v F → DV d v H
  | .none, _, _, _, _, h => by unfold DV at h ⊢; exact h
  | .bool _, _, _, _, _, h => by unfold DV at h ⊢; exact h
  | .int _, _, _, _, _, h => by unfold DV at h ⊢; exact h
  | .str _, _, _, _, _, h => by unfold DV at h ⊢; exact h
  | .list xs, _, _, _, s, h => by
    unfold DV at h ⊢
    obtain ⟨a, vs, e, q, r⟩ := h
    exact ⟨a, vs, e, s _ _ (fun _ e => nomatch e) q, DVs.up s r⟩
  | .tuple xs, _, _, _, s, h => by
    unfold DV at h ⊢
    obtain ⟨a, vs, e, q, r⟩ := h
    exact ⟨a, vs, e, s _ _ (fun _ e => nomatch e) q, DVs.up s r⟩
  | .dict ks, _, _, _, s, h => by
    unfold DV at h ⊢
    obtain ⟨a, kw, e, q, r⟩ := h
    exact ⟨a, kw, e, q.imp (s _ _ fun _ e => nomatch e) fun ⟨o, z⟩ => ⟨o, s _ _ (fun _ e => nomatch e) z⟩, DKs.up s r⟩
theorem DVs.up : ∀ {xs : List PyData} {vs : List V} {F H : Hp}, SubN F H → DVs xs vs F → DVs xs vs H
  | [], _, _, _, _, h => by unfold DVs at h ⊢; exact h
  | x :: xs, _, _, _, s, h => by
    unfold DVs at h ⊢
    obtain ⟨v, r, e, q, k⟩ := h
    exact ⟨v, r, e, DV.up s q, DVs.up s k⟩
theorem DKs.up : ∀ {xs : List (PyData × PyData)} {kw : List (Key × V)} {F H : Hp}, SubN F H → DKs xs kw F → DKs xs kw H
  | [], _, _, _, _, h => by unfold DKs at h ⊢; exact h
  | (k, x) :: xs, _, _, _, s, h => by
    unfold DKs at h ⊢
    obtain ⟨t, v, r, e, e2, q, z⟩ := h
    exact ⟨t, v, r, e, e2, DV.up s q, DKs.up s z⟩
end
mutual
/-- dicts and what is no object -/
def dOnly : PyData → Bool
  | .list _ | .tuple _ => false
  | .dict ks => dOnlyK ks
  | _ => true
def dOnlyK : List (PyData × PyData) → Bool
  | [] => true
  | (_, x) :: r => dOnly x && dOnlyK r
end
section
variable {P : Program} {w : World} {H : Hp} {h : Heap}
mutual
theorem reads_of (ok : HOk P w H h) : ∀ {d : PyData} {v : V} {u : Value}, DV d v H → RelV v u → ∃ as, Reads h u d as ∧ (dOnly d = true → sysModules ∉ as)
  | .none, _, _, q, r => by
    unfold DV at q; subst q
    have r' : _ = Value.none := r
    subst r'
    exact ⟨_, .none, fun _ z => nomatch z⟩
  | .bool b, _, _, q, r => by
    unfold DV at q; subst q
    have r' : _ = Value.bool b := r
    subst r'
    exact ⟨_, .bool b, fun _ z => nomatch z⟩
  | .int i, _, _, q, r => by
    unfold DV at q; subst q
    obtain ⟨t, r'⟩ := r
    subst r'
    exact ⟨_, .int i t, fun _ z => nomatch z⟩
  | .str x, _, _, q, r => by
    unfold DV at q; subst q
    obtain ⟨t, r'⟩ := r
    subst r'
    exact ⟨_, .str x t, fun _ z => nomatch z⟩
  | .list xs, _, _, q, r => by
    unfold DV at q
    obtain ⟨a, vs, e, ha, q⟩ := q
    subst e
    have r' : _ = Value.ref a := r
    subst r'
    obtain ⟨_, its, n, rv, ho⟩ := ok a _ ha
    obtain ⟨as, rs⟩ := readsAll_of ok q rv
    exact ⟨_, .list ho rfl rfl rs, fun z => nomatch z⟩
  | .tuple xs, _, _, q, r => by
    unfold DV at q
    obtain ⟨a, vs, e, ha, q⟩ := q
    subst e
    have r' : _ = Value.ref a := r
    subst r'
    obtain ⟨_, its, rv, o, ho, hc, n, hd⟩ := ok a _ ha
    obtain ⟨as, rs⟩ := readsAll_of ok q rv
    exact ⟨_, .tuple ho hc hd rs, fun z => nomatch z⟩
  | .dict ks, _, _, q, r => by
    unfold DV at q
    obtain ⟨a, kw, e, ha, q⟩ := q
    subst e
    have r' : _ = Value.ref a := r
    subst r'
    obtain ⟨_, hsys, vs, kv, o, es, ep, ho, hx, hd, _, hp, _⟩ := dk_rd ok ha
    obtain ⟨bs, r1, r2, r3⟩ := readsKv_of ok q kv hp
    refine ⟨_, .dict ho hx.1 hd r1 r2, fun z => ?_⟩
    intro m
    rcases List.mem_cons.mp m with e | m
    · rw [← e] at hsys; simp at hsys
    · exact r3 z (by simpa using m)
theorem readsAll_of (ok : HOk P w H h) : ∀ {ds : List PyData} {vs : List V} {us : List Value}, DVs ds vs H → Vals vs us → ∃ as, ReadsAll h us ds as
  | [], _, _, q, r => by
    unfold DVs at q; subst q
    cases r
    exact ⟨_, .nil⟩
  | x :: xs, _, _, q, r => by
    unfold DVs at q
    obtain ⟨v, l, e, q, k⟩ := q
    subst e
    cases r with
    | cons r1 r2 =>
      obtain ⟨as, h1, _⟩ := reads_of ok q r1
      obtain ⟨bs, h2⟩ := readsAll_of ok k r2
      exact ⟨_, .cons h1 h2⟩
theorem readsKv_of (ok : HOk P w H h) : ∀ {ks : List (PyData × PyData)} {kw : List (Key × V)} {vs : List (Key × Value)} {es : List DictEntry}, DKs ks kw H → KV kw vs → Pairs (mixKind P w) es vs → ∃ bs, ReadsAll h (es.map (·.key)) (ks.map (·.1)) [] ∧ ReadsAll h (es.map (·.val)) (ks.map (·.2)) bs ∧ (dOnlyK ks = true → sysModules ∉ bs)
  | [], _, _, _, q, r, p => by
    unfold DKs at q; subst q
    cases r
    cases p
    exact ⟨_, .nil, .nil, fun _ z => nomatch z⟩
  | (k, x) :: xs, _, _, _, q, r, p => by
    unfold DKs at q
    obtain ⟨s, v, l, e, ek, q, z⟩ := q
    subst e ek
    cases r with
    | cons r1 r2 =>
      cases p with
      | @cons e' _ _ _ p1 p2 p3 =>
        obtain ⟨e1, r1⟩ := r1
        obtain ⟨as, h1, h1'⟩ := reads_of ok q r1
        obtain ⟨bs, h2, h3, h4⟩ := readsKv_of ok z r2 p3
        rw [← e1] at p1
        obtain ⟨t, ey⟩ := Value.isStrOf_shape (x := s) p1
        refine ⟨_, ?_, .cons (show Reads h e'.val x as by rw [p2]; exact h1) h3, fun hb m => ?_⟩
        · have := ReadsAll.cons (h := h) (Reads.str s t) h2
          rw [List.map_cons, ey]
          exact this
        · unfold dOnlyK at hb
          rw [Bool.and_eq_true] at hb
          rcases List.mem_append.mp m with m | m
          · exact h1' hb.1 m
          · exact h4 hb.2 m
end
end
/-! ### types that can be shown -/
def Sh (t : Ty) (dat : t.A → PyData) : Prop := ∀ {x v F}, t.rep x v F emp → DV (dat x) v F
theorem sh_int : Sh tInt PyData.int := fun {x v F} r => by unfold DV; exact r.2
theorem sh_bool : Sh tBool PyData.bool := fun {x v F} r => by unfold DV; exact r.2
theorem sh_str : Sh tStr (fun x => PyData.str (sOf x)) := fun {x v F} r => by unfold DV; exact r.2
theorem sh_chr : Sh tChr (fun x => PyData.str (sOf [x])) := fun {x v F} r => by unfold DV; exact r.2
theorem sh_none : Sh tNone (fun _ => PyData.none) := fun {x v F} r => by unfold DV; exact r.2
variable {t : Ty} {dat : t.A → PyData}
theorem allR_sh (h : Sh t dat) {F : Hp} : ∀ {xs : List t.A} {vs : List V}, AllR t xs vs F → DVs (xs.map dat) vs F
  | [], vs, r => by
    have r' : vs = [] := r
    rw [List.map_nil]; unfold DVs; exact r'
  | x :: xs, _, ⟨v, l, e, q, k⟩ => by
    rw [List.map_cons]; unfold DVs
    exact ⟨v, l, e, h q, allR_sh h k⟩
theorem sh_lst (h : Sh t dat) : Sh (tLst t) (fun x => PyData.list (x.map dat)) := fun {x v F} r => by
  obtain ⟨_, a, vs, e, q, k⟩ := r
  unfold DV
  exact ⟨a, vs, e, q, allR_sh h k⟩
def kvD (dat : t.A → PyData) (y : List Nat × t.A) : PyData × PyData := (.str (sOf y.1), dat y.2)
theorem kvR_sh (h : Sh t dat) {F : Hp} : ∀ {xs : List (List Nat × t.A)} {kvs : List (Key × V)}, KvR t xs kvs F → DKs (xs.map (kvD dat)) kvs F
  | [], vs, r => by
    have r' : vs = [] := r
    rw [List.map_nil]; unfold DKs; exact r'
  | x :: xs, _, ⟨v, l, e, q, k⟩ => by
    rw [List.map_cons]
    show DKs ((.str (sOf x.1), dat x.2) :: xs.map (kvD dat)) _ F
    unfold DKs
    exact ⟨sOf x.1, v, l, e, rfl, h q, kvR_sh h k⟩
theorem sh_dct (h : Sh t dat) : Sh (tDct t) (fun x => PyData.dict (x.map (kvD dat))) := fun {x v F} r => by
  obtain ⟨_, a, vs, e, q, k⟩ := r
  unfold DV
  exact ⟨a, vs, e, q, kvR_sh h k⟩
theorem sh_dctL (h : Sh t dat) : Sh (tDctL t) (fun x => PyData.dict (x.map (kvD dat))) := fun {x v F} r => by
  obtain ⟨_, a, o, vs, e, q, k⟩ := r
  unfold DV
  exact ⟨a, vs, e, .inr ⟨o, q⟩, kvR_sh h k⟩
/-- a value, or None -/
abbrev tOpt (t : Ty) : Ty := imTy (Option t.A) (fun x v F => match x with
  | none => v = .non
  | some y => t.rep y v F emp) fun {x v F F'} h s => by
  cases x with
  | none => exact h
  | some y => exact t.mono h s
theorem im_opt {t : Ty} : Imm (tOpt t) := fun a => a.1
def datO (dat : t.A → PyData) : Option t.A → PyData
  | none => .none
  | some x => dat x
theorem sh_opt (h : Sh t dat) : Sh (tOpt t) (datO dat) := fun {x v F} r => by
  obtain ⟨_, r⟩ := r
  cases x with
  | none => unfold datO DV; exact r
  | some y => exact h r
/-- a list of a written form -/
abbrev tHL (ts : List Ty) : Ty := imTy (AT ts) (fun x v F => ∃ a vs, v = .ref a ∧ F a = some (.lst vs) ∧ ArgsOk ts x vs F) fun ⟨a, vs, e, q, r⟩ s => ⟨a, vs, e, s _ _ q, r.mono s⟩
theorem im_hl {ts : List Ty} : Imm (tHL ts) := fun a => a.1
/-- what each of them reads as -/
inductive Shs : (ts : List Ty) → (AT ts → List PyData) → Prop
  | nil : Shs [] fun _ => []
  | cons {t : Ty} {dat : t.A → PyData} {ts : List Ty} {ds : AT ts → List PyData} : Sh t dat → Shs ts ds → Shs (t :: ts) fun x => dat x.1 :: ds x.2
theorem Shs.of : ∀ {ts : List Ty} {ds : AT ts → List PyData}, Shs ts ds → ∀ {x : AT ts} {vs : List V} {F : Hp}, ArgsOk ts x vs F → DVs (ds x) vs F
  | [], _, .nil, _, vs, _, r => by
    have r' : vs = [] := r
    unfold DVs; exact r'
  | _ :: _, _, .cons h k, _, _, _, ⟨v, us, e, q, z⟩ => by
    unfold DVs
    exact ⟨v, us, e, h q, k.of z⟩
theorem sh_hl {ts : List Ty} {ds : AT ts → List PyData} (h : Shs ts ds) : Sh (tHL ts) (fun x => PyData.list (ds x)) := fun {x v F} r => by
  obtain ⟨_, a, vs, e, q, k⟩ := r
  unfold DV
  exact ⟨a, vs, e, q, h.of k⟩
/-! ### repr -/
def textL (d : PyData) : List Nat := d.shown.cps.toList
theorem textL_of (d : PyData) : sOf (textL d) = d.shown := by
  unfold textL sOf
  cases h : d.shown with
  | mk a => simp
def ShowOk (d : PyData) : Prop := d.showable = true ∧ d.shown.length ≤ sizeLine ∧ d.depth ≤ 100
instance {d : PyData} : Decidable (ShowOk d) := by unfold ShowOk; exact inferInstance
def isLeaf : PyData → Bool
  | .list _ | .tuple _ | .dict _ => false
  | _ => true
section
variable {X : Cx} {N : List Str} {sc : Scope} {B : List Str} {k : Nat} {Γ : Ctx} {os : Os} {pos p p1 : Pos} {e : Expr} {es : List Expr}
def rRepr (ok : PyData → Prop) (xs : List V) (H : Hp) (Q : VK) : Prop := ∃ v d, xs = [v] ∧ DV d v H ∧ ok d ∧ ShowOk d ∧ Q (.str d.shown) H
theorem call_reprS : CallR X (.builtin "repr") (rRepr fun d => isLeaf d = true) := by
  intro pins s σ H xs us Q I r h
  obtain ⟨v, d, rfl, dv, leaf, ⟨ok1, ok2, _⟩, q⟩ := h
  obtain ⟨u, rfl, ru⟩ := vals1 r
  have fin : ∀ tk, EP X pins σ Q (.str d.shown tk) { s with toks := s.toks + 1 } := fun tk => ⟨.str d.shown, H, I.tok _, ⟨tk, rfl⟩, q⟩
  cases d with
  | none =>
    unfold DV at dv; subst dv
    have ru' : u = Value.none := ru
    subst ru'
    rw [PyData.shown_none] at fin
    exact PySem.P.repr_of_none (fin _)
  | bool b =>
    unfold DV at dv; subst dv
    have ru' : u = Value.bool b := ru
    subst ru'
    rw [PyData.shown_bool] at fin
    refine PySem.P.repr_of_bool ?_
    cases b <;> exact fin _
  | int i =>
    unfold DV at dv; subst dv
    obtain ⟨t, ru'⟩ := ru
    subst ru'
    rw [PyData.shown_int] at fin
    refine PySem.P.repr_of_int ?_ (fin _)
    simpa [PyData.showable] using ok1
  | str x =>
    unfold DV at dv; subst dv
    obtain ⟨t, ru'⟩ := ru
    subst ru'
    rw [PyData.shown_str] at fin ok2
    exact PySem.P.repr_of_str (fin _) ok2
  | list _ => cases leaf
  | tuple _ => cases leaf
  | dict _ => cases leaf
theorem call_reprG (gd : X.A.guards = some []) (hu : X.A.units + 150 < cLine) : CallR X (.builtin "repr") (rRepr fun d => isLeaf d = true ∨ d.hasDict = false ∨ dOnly d = true) := by
  intro pins s σ H xs us Q I r h
  obtain ⟨v, d, rfl, dv, ok, sok, q⟩ := h
  by_cases leaf : isLeaf d = true
  · exact call_reprS pins s σ H [v] us Q I r ⟨v, d, rfl, dv, leaf, sok, q⟩
  · obtain ⟨u, rfl, ru⟩ := vals1 r
    obtain ⟨as, rd, hs⟩ := reads_of I.hok dv ru
    have hsm : d.hasDict = true → sysModules ∉ as := fun hd => by
      rcases ok with z | z | z
      · exact absurd z leaf
      · rw [hd] at z; cases z
      · exact hs z
    have ref : ∃ a, u = .ref a := by
      cases rd with
      | none => exact absurd rfl leaf
      | bool b => exact absurd rfl leaf
      | int i t => exact absurd rfl leaf
      | str x t => exact absurd rfl leaf
      | list _ _ _ _ => exact ⟨_, rfl⟩
      | tuple _ _ _ _ => exact ⟨_, rfl⟩
      | dict _ _ _ _ _ => exact ⟨_, rfl⟩
    obtain ⟨a, rfl⟩ := ref
    obtain ⟨o1, o2, o3⟩ := sok
    exact repr_of_reads' rd o1 hsm gd (by omega) (fun _ _ e => e) (fun h' u tk kp => ⟨.str d.shown, H, I.kept kp, ⟨_, rfl⟩, q⟩) o2
def reprO (ok : PyData → Bool) (d : PyData) : Option (List Nat) := if ok d = true ∧ ShowOk d then some (textL d) else none
theorem v_repr {t : Ty} {dat : t.A → PyData} (sh : Sh t dat) (im : Imm t) {okB : PyData → Bool} {ok : PyData → Prop} (hok : ∀ d, okB d = true → ok d) : VCall (rRepr ok) [t] tStr (fun x => reprO okB (dat x.1)) := by
  intro x z vs F M H Q e h g q
  obtain ⟨v, us, e1, r, e2⟩ := h
  have e2' : us = [] := e2
  subst e2' e1
  have e : (if okB (dat x.1) = true ∧ ShowOk (dat x.1) then some (textL (dat x.1)) else none) = some z := e
  by_cases c : okB (dat x.1) = true ∧ ShowOk (dat x.1)
  · rw [if_pos c] at e
    cases e
    refine ⟨v, dat x.1, rfl, (sh r).up g.fn, hok _ c.1, c.2, ?_⟩
    rw [← textL_of]
    exact fl (gA := fun l => V.str (sOf l)) q g
  · rw [if_neg c] at e; cases e
/-- repr of what is no object -/
theorem re_reprS (xo : XOk X N sc B k) {t : Ty} {dat : t.A → PyData} (sh : Sh t dat) (im : Imm t) {m : SM (OT os) (AT [t])} (ga ma : Nat) (ha : RA X Γ os [e] [t] m) (hg : sc.names[ga]? = some (gI "repr") := by rfl) (hm : B[ma]? = some "repr" := by rfl)
    (he : starEach [e] X.env = (false, eval e X.env) :: starEach [] X.env := by rfl) :
    RE X Γ os (.Call (.Name "repr" p) [e] [] pos) tStr (SM.bind m fun x => SM.lift (reprO isLeaf (dat x.1))) :=
  re_callB (ts := [t]) (tc := tStr) (f := fun x => reprO isLeaf (dat x.1)) call_reprS (v_repr sh im fun _ h => h) (xo.gl ga _ hg) (xo.fr ma _ hm) boot_repr ha (by decide) (by decide) he rfl
def okG (d : PyData) : Bool := isLeaf d || !d.hasDict || dOnly d
/-- repr, where none is under way -/
theorem re_reprG (gd : X.A.guards = some []) (xo : XOk X N sc B k) {t : Ty} {dat : t.A → PyData} (sh : Sh t dat) (im : Imm t) {m : SM (OT os) (AT [t])} (ga ma : Nat) (ha : RA X Γ os [e] [t] m) (hg : sc.names[ga]? = some (gI "repr") := by rfl) (hm : B[ma]? = some "repr" := by rfl)
    (he : starEach [e] X.env = (false, eval e X.env) :: starEach [] X.env := by rfl) :
    RE X Γ os (.Call (.Name "repr" p) [e] [] pos) tStr (SM.bind m fun x => SM.lift (reprO okG (dat x.1))) :=
  re_callB (ts := [t]) (tc := tStr) (f := fun x => reprO okG (dat x.1)) (call_reprG gd (by have := xo.room.un; omega)) (v_repr sh im fun d h => by
    unfold okG at h
    simp only [Bool.or_eq_true, Bool.not_eq_true'] at h
    rcases h with (h | h) | h
    · exact .inl h
    · exact .inr (.inl h)
    · exact .inr (.inr h)) (xo.gl ga _ hg) (xo.fr ma _ hm) boot_repr ha (by decide) (by decide) he rfl
/-- [e, ..] of a written form -/
theorem re_hl {ts : List Ty} {m : SM (OT os) (AT ts)} (h : RA X Γ os es ts m) (hl : ts.length ≤ 1000 := by exact by decide) : RE X Γ os (.List es pos) (tHL ts) m := by
  intro σ F M R H o W Q tk c w g q
  refine ⟨_, pe_lst (pa_best X es), h σ F M R H o W _ tk c w g (q.imp (fun xs o1 z => ?_) fun _ _ z => z)⟩
  intro vs F' M' H' s w' g' r
  refine ⟨Nat.le_of_lt (small1000 (by rw [r.length]; exact hl)), fun p hp => ?_⟩
  have hF : F' p = none := g'.fnone hp
  have s2 := sub_upd (o := .lst vs) hF
  exact z (.ref p) (upd F' p (.lst vs)) M' emp M' _ (s.trans s2) (w'.mono s2) (sep_emp_l M') (g'.newF hp) ⟨rfl, p, vs, rfl, upd_same, r.mono s2⟩
end
end Mi

namespace Mi
open PySem PySem.Spec PyProof.Rows L2
section
variable {P : Program} {w : World} {H : Hp} {h : Heap}
theorem readsAll_low (ok : HOk P w H h) : ∀ {ds : List PyData} {vs : List V} {us : List Value}, ds.all dOnly = true → DVs ds vs H → Vals vs us → ∃ as, ReadsAll h us ds as ∧ sysModules ∉ as
  | [], _, _, _, q, r => by
    unfold DVs at q; subst q
    cases r
    exact ⟨_, .nil, fun z => nomatch z⟩
  | x :: xs, _, _, hd, q, r => by
    unfold DVs at q
    obtain ⟨v, l, e, q, k⟩ := q
    subst e
    rw [List.all_cons, Bool.and_eq_true] at hd
    cases r with
    | cons r1 r2 =>
      obtain ⟨as, h1, h1'⟩ := reads_of ok q r1
      obtain ⟨bs, h2, h2'⟩ := readsAll_low ok hd.2 k r2
      exact ⟨_, .cons h1 h2, fun m => (List.mem_append.mp m).elim (h1' hd.1) h2'⟩
end
section
variable {X : Cx} {N : List Str} {sc : Scope} {B : List Str} {k : Nat} {Γ : Ctx} {os os' : Os} {pos p p1 p2 p3 cpos apos : Pos} {e a b c : Expr} {es : List Expr} {t u : Ty}
/-- repr([e, ..]) -/
def reprL (ds : List PyData) : Option (List Nat) := if ds.all dOnly = true ∧ ShowOk (.list ds) ∧ ds.length ≤ 1000 then some (textL (.list ds)) else none
theorem re_reprL (gd : X.A.guards = some []) (xo : XOk X N sc B k) {ts : List Ty} {ds : AT ts → List PyData} (sh : Shs ts ds) {m : SM (OT os) (AT ts)} (ga ma : Nat) (ha : RA X Γ os es ts m) (hg : sc.names[ga]? = some (gI "repr") := by rfl) (hm : B[ma]? = some "repr" := by rfl)
    (he : starEach [.List es p1] X.env = (false, eval (.List es p1) X.env) :: starEach [] X.env := by rfl) (hpl : (backTo pos (starEach [] X.env)).any (·.1) = false := by rfl) :
    RE X Γ os (.Call (.Name "repr" p) [.List es p1] [] pos) tStr (SM.bind m fun x => SM.lift (reprL (ds x))) := by
  intro σ F M R H o W Q tk c w g h
  have pe : PE X (.Call (.Name "repr" p) [.List es p1] [] pos) (fun σ' H' Q' => bestA X es σ' H' fun vs H1 => ∃ d, DVs d vs H1 ∧ d.all dOnly = true ∧ ShowOk (.list d) ∧ d.length ≤ 1000 ∧ Q' (.str (PyData.list d).shown) H1) := by
    refine ⟨fun pins s σ' H' Q' I q => ?_⟩
    refine wpAny_Call_Name_kw (ld_blt I (xo.gl ga _ hg) (xo.fr ma _ hm) boot_repr ?_ (by decide) (by decide))
    refine PyProof.Rows.callWith_builtin1 ?_ he hpl
    rw [he]
    refine Calls.spliced_cons (wpAny_List_spliced (thn ((pa_best X es).run p1 pins s σ' H' _ I q) fun us s1 ⟨vs, H1, I1, r, d, dv, low, ok, few, q1⟩ => ?_))
    have hlen : us.length = d.length := by
      have : ∀ {ds : List PyData} {vs : List V}, DVs ds vs H1 → ds.length = vs.length := fun {ds} => by
        induction ds with
        | nil => intro vs z; unfold DVs at z; rw [z]; rfl
        | cons x xs ih => intro vs z; unfold DVs at z; obtain ⟨_, r, e, _, k⟩ := z; rw [e, List.length_cons, List.length_cons, ih k]
      rw [this dv]
      exact r.length.symm
    refine ⟨by rw [hlen]; exact Nat.le_of_lt (small1000 few), ?_⟩
    have I2 : Inv X pins σ' H1 { s1 with heap := s1.heap.push { cls := .type "list", data := .seq us.toArray } } := I1.kept (t' := s1.toks) fun b u e => Heap.get?_push_of_some _ e
    obtain ⟨as, rs, lo⟩ := readsAll_low I2.hok low dv r
    have rd : Reads (s1.heap.push { cls := .type "list", data := .seq us.toArray }) (.ref s1.heap.objs.size) (.list d) (s1.heap.objs.size :: as) := .list (Heap.get?_push_size _ rfl) rfl rfl (by simpa using rs)
    refine Calls.spliced_nil ?_
    obtain ⟨o1, o2, o3⟩ := ok
    refine repr_of_reads' rd o1 (fun _ m => ?_) gd (by have := xo.room.un; omega) (fun _ _ e => e) (fun h' u tk' kp => ⟨.str (PyData.list d).shown, H1, I2.kept kp, ⟨_, rfl⟩, q1⟩) o2
    rcases List.mem_cons.mp m with z | z
    · exact absurd z (Nat.ne_of_lt I1.big)
    · exact lo z
  refine ⟨_, pe, ?_⟩
  refine ha σ F M R H o W _ tk c w g (h.bind.imp (fun x o2 h2 => ?_) fun _ _ z => z)
  intro vs F2 M2 H2 s2 w2 g2 r2
  have h2' : Want (SM.lift (reprL (ds x)) o2) (NormE os tStr σ F R Q) (ExcE X os σ F R W) := h2
  unfold reprL at h2'
  by_cases cc : (ds x).all dOnly = true ∧ ShowOk (.list (ds x)) ∧ (ds x).length ≤ 1000
  · rw [if_pos cc] at h2'
    refine ⟨ds x, (DVs.up g2.fn (sh.of r2)), cc.1, cc.2.1, cc.2.2, ?_⟩
    rw [← textL_of]
    exact end_flat (g := fun l => V.str (sOf l)) (show NormE os tStr σ F R Q _ o2 from h2') s2 w2 g2
  · rw [if_neg cc] at h2'
    exact h2'.elim
/-! ### d.get(k) -/
theorem re_get1 (xo : XOk X N sc B k) {ob : Expr} {m : SM (OT os) (List (List Nat × t.A))} {n : SM (OT os) (List Nat)} (it : Imm t) (ho : RE X Γ os ob (tDct t) m) (ha : RE X Γ os a tStr n)
    (m1 : M1 X ob "get" apos a pos := by exact ⟨rfl, rfl, rfl, rfl⟩) :
    RE X Γ os (.Call (.Attribute ob "get" apos) [a] [] pos) (tOpt t) (SM.bind m fun x => SM.bind n fun y => SM.ret (dget y x)) := by
  intro σ F M R H o W Q tk c w g h
  refine ⟨_, pe_dget1 (hu1 xo) (pe_best X ob) (pe_best X a) m1, ?_⟩
  refine one_end (ta := tDct t) im_dct ho tk c w g h fun x o2 v F2 M2' H2 h2 s2 w2 g2 r1 => ?_
  obtain ⟨_, d, kvs, ev, fd, rk⟩ := r1
  refine ⟨d, ev, .inl ⟨kvs, rd_good g2 fd⟩, ?_⟩
  refine one_end (ta := tStr) imF ha tk (c.mono s2) w2 g2 (h2.imp (fun _ _ z => NormE.mono z s2) fun _ _ z => z.mono s2) fun y o3 vy F3 M3 H3 h3 s3 w3 g3 r2 => ?_
  obtain ⟨_, ey⟩ := r2
  have rk3 := rk.mono s3
  have z1 := rk3.val (k := y)
  refine ⟨_, .inl ⟨kvs, .inr (sOf y), rd_good g3 (fd.imp (s3 _ _) fun ⟨o, h⟩ => ⟨o, s3 _ _ h⟩), ey, rfl⟩, ?_⟩
  have h3' : NormE os (tOpt t) σ F2 R Q (dget y x) o3 := h3
  cases hd : dget y x with
  | none =>
    rw [hd] at z1 h3'
    rw [z1]
    exact h3' .non F3 M3 emp M3 H3 s3 w3 (sep_emp_l M3) g3 ⟨rfl, rfl⟩
  | some q =>
    rw [hd] at z1 h3'
    obtain ⟨w1, e1, e2⟩ := z1
    rw [e1]
    exact h3' w1 F3 M3 emp M3 H3 s3 w3 (sep_emp_l M3) g3 ⟨rfl, e2⟩
theorem cv_opt (it : Imm t) : Cv t (tOpt t) some := fun {x v F m} r => by
  have e := it r
  subst e
  exact ⟨rfl, r⟩
theorem cv_non : Cv tNone (tOpt t) (fun _ => none) := fun {x v F m} ⟨e, r⟩ => ⟨e, r⟩
/-! ### dict(d), d.clear() -/
theorem boot_dict' : bootBuiltins "dict" = some (.type "dict") := by decide +kernel
theorem re_dictD (xo : XOk X N sc B k) {m : SM (OT os) (AT [tDct t])} (ga ma : Nat) (ha : RA X Γ os [e] [tDct t] m) (hg : sc.names[ga]? = some (gI "dict") := by rfl) (hm : B[ma]? = some "dict" := by rfl)
    (he : starEach [e] X.env = (false, eval e X.env) :: starEach [] X.env := by rfl) :
    RE X Γ os (.Call (.Name "dict" p) [e] [] pos) (tOwnD t) (SM.bind m fun x => SM.lift (some x.1)) := by
  refine re_callTy (ts := [tDct t]) (tc := tOwnD t) (f := fun x => some x.1) call_dictD (fun {x z vs F M H Q} e h g q => ?_) (xo.gl ga _ hg) (xo.fr ma _ hm) boot_dict' ha (by decide) (by decide) he rfl
  obtain ⟨v, us, e1, ⟨_, a, kvs, ea, fa, r⟩, e2⟩ := h
  have e2' : us = [] := e2
  subst e2' e1 ea
  cases e
  refine ⟨a, kvs, rfl, rd_good g fa, fun p hp => ?_⟩
  obtain ⟨g2, s2⟩ := g.newM (o := .dK kvs) hp
  exact q (.ref p) F _ _ _ (.refl F) s2 g2 ⟨p, kvs, rfl, rfl, r⟩
end
end Mi

namespace Mi
open PySem PySem.Spec PyProof.Rows L2
/-! ### == and != of instances with an own == -/
section
open PySem.W
variable {prog : Program} {w : World} {A : Around} {E : Value → Shared → Prop} {s : Shared} {K : Frag} {x y C f : Addr} {ox oy : Obj} {od od' : Option Obj} {Q : Value → Shared → Prop}
open Builtin in
theorem ne_entry (hu : A.units < cLine) (X : K.In s.heap) (I : InstAt s.heap x ox C od) (heq : findIn K (.ref C) "__eq__" = some (some (.ref f))) (hf : isFn K (.ref f) = true) (hm : mroIn K C (.type "object") = some true) (hu1 : A.in1.units < cLine)
    (h : wpAny (model prog w) A.in1 (call (.ref f) [.ref x, .ref y]) (fun v s' => ∃ b, v = .bool b ∧ Q (.bool (!b)) s') E s) : wpAny (model prog w) A (call (.builtin "object.__ne__") [.ref x, .ref y]) Q E s := by
  refine wpAny_call (codeAny_call_builtin PySem.F.cmp_object.ne.plain PySem.F.cmpEntry_ne (check_slot (i := "object.__ne__") (owner := "object") (n := "__ne__") (by decide +kernel) (by decide +kernel) (I.type.andThen (looks_mroIn X hm)) (PySem.F.cmpArgs_ne _ _) ?_))
  unfold Builtin.«object.__ne__»
  refine wpAny_bind (m := slotArgs "__ne__" 1 _) (wpAny_pure ?_)
  refine wpAny_bind (m := cRoomFor _ _) (wpAny_cRoomFor hu1 ?_)
  refine wpAny_bind (m := callSpecialIfBound? (.ref x) (Str.ofString "__eq__") _) (ifBound_K X I heq hf (wpAny_mono h (fun r s' hq => ?_) fun _ _ y => y))
  obtain ⟨b, rfl, q⟩ := hq
  exact wpAny_bind (wpAny_truthy_bool (wpAny_pure q))
theorem ne_own (hu : A.units + 1 < cLine) (X : K.In s.heap) (I : InstAt s.heap x ox C od) (J : InstAt s.heap y oy C od') (hne : findIn K (.ref C) "__ne__" = some (some (.builtin "object.__ne__"))) (heq : findIn K (.ref C) "__eq__" = some (some (.ref f))) (hf : isFn K (.ref f) = true) (hm : mroIn K C (.type "object") = some true)
    (h : wpAny (model prog w) A.in1 (call (.ref f) [.ref x, .ref y]) (fun v s' => ∃ b, v = .bool b ∧ Q (.bool (!b)) s') E s) : wpAny (model prog w) A (compareOp .NotEq (.ref x) (.ref y)) Q E s := by
  have hu0 : A.units < cLine := Nat.lt_of_succ_lt hu
  have special : wpAny (model prog w) A (callSpecialIfBound? (.ref x) (cmpInfo .NotEq).2.1 [.ref y]) (fun r s' => ∃ b, r = some (.bool b) ∧ Q (.bool b) s') E s := by
    simp only [callSpecialIfBound?, bindSpecialIfBound?]
    refine wpAny_holding (wpAny_bind (wpAny_bind (wpAny_bind (I.type.here ((looks_findIn X hne).here ?_)))))
    refine wpAny_bind (wpAny_askSetting (wpAny_ite ?_))
    have fin : wpAny (model prog w) A (call (.builtin "object.__ne__") ([.ref x] ++ [.ref y]) >>= fun v => pure (some v)) (fun r s' => ∃ b, r = some (.bool b) ∧ Q (.bool b) s') E s :=
      wpAny_bind (wpAny_mono (ne_entry (Q := fun v s' => ∃ b, v = .bool b ∧ Q (.bool b) s') hu0 X I heq hf hm hu (wpAny_mono h (fun v s' ⟨b, e, q⟩ => ⟨b, e, _, rfl, q⟩) fun _ _ z => z)) (fun v s' ⟨b, e, q⟩ => wpAny_pure ⟨b, by rw [e], q⟩) fun _ _ z => z)
    split
    · exact wpAny_bind ((Looks.of_pure (PySem.F.cmp_object.ne.bind _)).here (wpAny_pure fin))
    · exact wpAny_tryCatch (wpAny_bind ((Looks.of_pure (PySem.F.cmp_object.ne.bind _)).here (wpAny_pure fin)))
  have one : wpAny (model prog w) A (tryCompare (.ref x) (cmpInfo .NotEq).2.1 (.ref y)) (fun r s' => ∃ v, r = some v ∧ Q v s') E s := by
    unfold tryCompare
    refine wpAny_bind (wpAny_mono special (fun r s' hr => ?_) fun _ _ e => e)
    obtain ⟨b, rfl, q⟩ := hr
    exact wpAny_pure ⟨_, rfl, q⟩
  show wpAny (model prog w) A (richCompare .NotEq (.ref x) (.ref y)) Q E s
  unfold richCompare
  simp only [oneThing_ref]
  refine wpAny_holding (wpAny_bind (wpAny_cRoomFor hu0 ?_))
  refine wpAny_bind (I.type.here (wpAny_bind (J.type.here ?_)))
  rw [show (Value.ref C != Value.ref C) = false from by simp]
  simp only [Bool.false_eq_true, if_false]
  refine wpAny_bind (wpAny_pure ?_)
  simp only [Bool.false_eq_true, if_false]
  refine wpAny_bind (wpAny_mono one (fun r s' z => ?_) fun _ _ e => e)
  obtain ⟨v, rfl, hq⟩ := z
  exact wpAny_pure hq
end
section
variable {X : Cx} {N : List Str} {sc : Scope} {B : List Str} {k : Nat} {Γ : Ctx} {os os' : Os} {pos p p1 p2 p3 cpos apos : Pos} {e a b c : Expr} {es : List Expr} {t u : Ty} {C f : Addr} {fd : FuncData} {ps : List Str} {sp : Sp} {fs : Flds}
def rCmp (C : Addr) (sp : Sp) (g : Bool → Bool) : R2 := fun x y H Q => ∃ a b dx dy fs gs, x = .ref a ∧ y = .ref b ∧ H a = some (.ins C dx fs) ∧ H b = some (.ins C dy gs) ∧ sp [.ref a, .ref b] H (fun v H' => ∃ z, v = .bl z ∧ Q (.bl (g z)) H') (fun _ _ _ => False)
theorem op_eqO (hm : Meth X.K C "__eq__" f) (F : FnOk X.prog X.w X.K X.mg X.base (L2.CX X.prog X.w) k f fd ps sp) (hr : Room k X.A) (hb : Binds X.K fd ps []) : OpR X (compareOp .Eq) (rCmp C sp id) := by
  intro pins s σ H x y v u Q I rx ry h
  obtain ⟨a, b, dx, dy, fs, gs, rfl, rfl, ea, eb, q⟩ := h
  obtain rfl : v = Value.ref a := rx
  obtain rfl : u = Value.ref b := ry
  obtain ⟨mA, O, _⟩ := ins_get I.hok ea
  obtain ⟨mB, O', _⟩ := ins_get I.hok eb
  obtain ⟨od, J, _⟩ := O.look
  obtain ⟨od', J', _⟩ := O'.look
  obtain ⟨m, hF⟩ := I.fr
  refine PySem.W.cmp_K (op := .Eq) (tb := .ref C) (by have := hr.un; omega) hF I.ok.mod.kin J J'.type (by simp [PySem.W.notFirst]) hm.at_ hm.fn ?_
  refine thn (run_fn (us := [.ref a, .ref b]) (vs := [.ref a, .ref b]) F hr hb .nil pass_none I (.cons rfl (.cons rfl .nil)) q) fun r s2 ⟨w, H2, I2, rw', z, ew, q2⟩ => ?_
  subst ew
  cases rw'
  exact ⟨.bl z, H2, I2, rfl, q2⟩
theorem op_neO (hm : Meth X.K C "__eq__" f) (hne : PySem.W.findIn X.K (.ref C) "__ne__" = some (some (.builtin "object.__ne__"))) (hob : PySem.W.mroIn X.K C (.type "object") = some true) (F : FnOk X.prog X.w X.K X.mg X.base (L2.CX X.prog X.w) k f fd ps sp) (hr : Room (k + 1) X.A) (hb : Binds X.K fd ps []) : OpR X (compareOp .NotEq) (rCmp C sp not) := by
  intro pins s σ H x y v u Q I rx ry h
  obtain ⟨a, b, dx, dy, fs, gs, rfl, rfl, ea, eb, q⟩ := h
  obtain rfl : v = Value.ref a := rx
  obtain rfl : u = Value.ref b := ry
  obtain ⟨mA, O, _⟩ := ins_get I.hok ea
  obtain ⟨mB, O', _⟩ := ins_get I.hok eb
  obtain ⟨od, J, _⟩ := O.look
  obtain ⟨od', J', _⟩ := O'.look
  refine ne_own (by have := hr.un; omega) I.kIn J J' hne hm.at_ hm.fn hob ?_
  have r2 : Vals [V.ref a, V.ref b] [Value.ref a, Value.ref b] := .cons rfl (.cons rfl .nil)
  have hl := F.len _ _ _ _ q
  have bd := hb s [.ref a, .ref b] I.kIn (by simpa using hl)
  rw [List.append_nil] at bd
  refine wpAny_call (codeAny_mono (F.run X.A.in1 X.stack s H ⟨[.ref a, .ref b], []⟩ [.ref a, .ref b] [.ref a, .ref b] _ _ hr.in1 I.env0.in1 bd r2 q) fun r s2 hq => ?_)
  cases r with
  | error ex =>
    obtain ⟨_, _, _, _, _, _, _, _, _, _, _, _, z⟩ := hq
    exact z.elim
  | ok way =>
    cases way with
    | ret w' =>
      obtain ⟨v', H2, I2, rw', z, ew, q2⟩ := I.after hq
      subst ew
      cases rw'
      exact ⟨z, rfl, .bl (!z), H2, I2, rfl, q2⟩
    | next => exact hq.elim
    | brk => exact hq.elim
    | cont => exact hq.elim
theorem cmp_fin {g : Bool → Bool} {fn : AT [tIns C fs, tIns C fs] → Option (Except Exn Bool)} {x y : AT (fs.map (·.2))} {v w : V} {F M R H : Hp} {o : OT os} {σ : L2.St} {Q : VK} {E : Exn → OT os → Prop} (hx : (tIns C fs).rep x v F emp) (hy : (tIns C fs).rep y w F emp) (gd : Good F M H)
    (ww : OwnOk os o σ F M R) (h : Want (SM.bind (SM.lifo (fn (x, (y, ())))) (fun b => SM.ret (g b)) o) (NormE os tBool σ F R Q) E) : rCmp C (spP X.mg [tIns C fs, tIns C fs] tBool fn) g v w H Q := by
  obtain ⟨_, d, dx, ws, ev, fa, rk⟩ := hx
  obtain ⟨_, d2, dx2, ws2, ev2, fa2, rk2⟩ := hy
  subst ev ev2
  refine ⟨d, d2, dx, dx2, ws, ws2, rfl, rfl, gd.f _ _ fa, gd.f _ _ fa2, (x, (y, ())), F, M, ⟨.ref d, _, rfl, ⟨rfl, d, dx, ws, rfl, fa, rk⟩, .ref d2, [], rfl, ⟨rfl, d2, dx2, ws2, rfl, fa2, rk2⟩, rfl⟩, gd, ?_⟩
  unfold SM.bind SM.lifo at h
  cases z : fn (x, (y, ())) with
  | none => rw [z] at h; exact h.elim
  | some r =>
    rw [z] at h
    cases r with
    | error ex => exact h.elim
    | ok b =>
      refine fun v F' mm M' H' s' p' g' r' => ?_
      obtain ⟨em, ev⟩ := r'
      subst em
      have e := p'.emp_l; subst e
      exact ⟨b, ev, end_flat (g := V.bl) (show NormE os tBool σ F R Q (g b) o from h) s' (ww.mono s') g'⟩
/-- a class with its own == alone -/
structure CmpO (K : PySem.W.Frag) (C : Addr) : Prop where
  ne : PySem.W.findIn K (.ref C) "__ne__" = some (some (.builtin "object.__ne__"))
  ob : PySem.W.mroIn K C (.type "object") = some true
theorem re_eqO (xo : XOk X N sc B k) {ps : List Str} {fn : AT [tIns C fs, tIns C fs] → Option (Except Exn Bool)} {j : Nat} {mo m : SM (OT os) (AT (fs.map (·.2)))} (l : LkM X.md C "__eq__" ps fs [tIns C fs] tBool fn j)
    (ha : RE X Γ os a (tIns C fs) mo) (ho : RE X Γ os b (tIns C fs) m) (hj : Nat.ble j k = true := by rfl) (hm : behindInMarks .Eq b = false := by rfl) :
    RE X Γ os (.Compare a [.Eq] [b] pos) tBool (SM.bind mo fun x => SM.bind m fun y => SM.bind (SM.lifo (fn (x, (y, ())))) fun b => SM.ret (id b)) := by
  obtain ⟨f, fd, hme, hb, F⟩ := l
  intro σ F0 M R H o W Q tk cc w gd h
  refine ⟨_, pe_cmpR (op_eqO hme F (xo.room.mono (Nat.le_of_ble_eq_true hj)) hb) (pe_best X a) (pe_best X b) hm, ?_⟩
  exact two_ends (ta := tIns C fs) (tb := tIns C fs) im_ins im_ins ha ho tk cc w gd h fun x y o2 v u F2 M2 H2 h2 s2 w2 g2 r1 r2 => cmp_fin (g := id) r1 r2 g2 w2 (h2.imp (fun _ _ z => NormE.mono z s2) fun _ _ z => z)
theorem re_neO (xo : XOk X N sc B k) {ps : List Str} {fn : AT [tIns C fs, tIns C fs] → Option (Except Exn Bool)} {j : Nat} {mo m : SM (OT os) (AT (fs.map (·.2)))} (l : LkM X.md C "__eq__" ps fs [tIns C fs] tBool fn j) (cm : CmpO X.K C)
    (ha : RE X Γ os a (tIns C fs) mo) (ho : RE X Γ os b (tIns C fs) m) (hj : Nat.ble (j + 1) k = true := by rfl) (hm : behindInMarks .NotEq b = false := by rfl) :
    RE X Γ os (.Compare a [.NotEq] [b] pos) tBool (SM.bind mo fun x => SM.bind m fun y => SM.bind (SM.lifo (fn (x, (y, ())))) fun b => SM.ret (not b)) := by
  obtain ⟨f, fd, hme, hb, F⟩ := l
  intro σ F0 M R H o W Q tk cc w gd h
  refine ⟨_, pe_cmpR (op_neO hme cm.ne cm.ob F (xo.room.mono (Nat.le_of_ble_eq_true hj)) hb) (pe_best X a) (pe_best X b) hm, ?_⟩
  exact two_ends (ta := tIns C fs) (tb := tIns C fs) im_ins im_ins ha ho tk cc w gd h fun x y o2 v u F2 M2 H2 h2 s2 w2 g2 r1 r2 => cmp_fin (g := not) r1 r2 g2 w2 (h2.imp (fun _ _ z => NormE.mono z s2) fun _ _ z => z)
/-! ### isinstance(x, C) where x is of C -/
theorem re_isiO (xo : XOk X N sc B k) (ci : C8.InsC X.K C) {nm : Str} (ga ma gc : Nat) (hmc : X.mg nm = some (.ref C)) {m : SM (OT os) (AT (fs.map (·.2)))} (h : RE X Γ os e (tIns C fs) m)
    (hg : sc.names[ga]? = some (gI "isinstance") := by rfl) (hm : B[ma]? = some "isinstance" := by rfl) (hgc : sc.names[gc]? = some (nm, .globalImplicit) := by rfl)
    (he : starEach [e, .Name nm p2] X.env = (false, eval e X.env) :: starEach [.Name nm p2] X.env := by rfl) (he2 : starEach [.Name nm p2] X.env = (false, eval (.Name nm p2) X.env) :: starEach [] X.env := by rfl) (hpl : (backTo pos (starEach [.Name nm p2] X.env)).any (·.1) = false := by rfl) :
    RE X Γ os (.Call (.Name "isinstance" p) [e, .Name nm p2] [] pos) tBool (SM.bind m fun _ => SM.ret true) := by
  intro σ F M R H o W Q tk c w g q
  refine ⟨_, pe_callB (C8.call_isC ci) (xo.gl ga _ hg) (xo.fr ma _ hm) boot_isi (pa_cons (pe_best X e) (pa_cons (pe_glob (v := .ref C) (xo.gl gc nm hgc) hmc rfl (xo.db gc nm _ hgc).1) pa_nil he2) he) (by decide) (by decide) he hpl, ?_⟩
  refine one_end (ta := tIns C fs) im_ins h tk c w g q fun x o2 v F2 M2 H2 h2 s2 w2 g2 r2 => ?_
  obtain ⟨_, d, dx, ws, ev, fa, rk⟩ := r2
  subst ev
  exact ⟨d, dx, ws, rfl, g2.f _ _ fa, end_flat (g := V.bl) (show NormE os tBool σ F R Q true o2 from h2) s2 w2 g2⟩
end
end Mi

namespace Mi
open PySem PySem.Spec PyProof.Rows L2
section
variable {X : Cx} {N : List Str} {sc : Scope} {B : List Str} {k : Nat} {Γ : Ctx} {os os' : Os} {pos p p1 p2 p3 cpos apos : Pos} {e a b c : Expr} {es : List Expr} {t u : Ty} {C f : Addr} {fd : FuncData} {fs : Flds}
/-! ### == of what can be read as data -/
def rDV (g : Bool → Bool) : R2 := fun x y H Q => ∃ d e, DV d x H ∧ DV e y H ∧ SeqAt.shaped d = true ∧ SeqAt.shaped e = true ∧ Q (.bl (g (PyData.eqv d e))) H
theorem op_eqV (hu : X.A.units + 64 < cLine) : OpR X (compareOp .Eq) (rDV id) := by
  intro pins s σ H x y v u Q I rx ry h
  obtain ⟨d, e, hd, he, sd, se, q⟩ := h
  obtain ⟨as, r1, _⟩ := reads_of I.hok hd rx
  obtain ⟨bs, r2, _⟩ := reads_of I.hok he ry
  exact SeqAt.compareEq_shaped r1 r2 sd se hu ⟨.bl _, H, I, rfl, q⟩
theorem v_eqV {t u : Ty} {dt : t.A → PyData} {du : u.A → PyData} (st : Sh t dt) (su : Sh u du) (it : Imm t) (iu : Imm u) : VOp (rDV id) t u tBool (fun x y => if SeqAt.shaped (dt x) = true ∧ SeqAt.shaped (du y) = true then some (PyData.eqv (dt x) (du y)) else none) := by
  intro x y z v w F M H Q e rx ry g q
  have e' : (if SeqAt.shaped (dt x) = true ∧ SeqAt.shaped (du y) = true then some (PyData.eqv (dt x) (du y)) else none) = some z := e
  by_cases c : SeqAt.shaped (dt x) = true ∧ SeqAt.shaped (du y) = true
  · rw [if_pos c] at e'
    cases e'
    exact ⟨dt x, du y, (st rx).up g.fn, (su ry).up g.fn, c.1, c.2, fl (gA := V.bl) q g⟩
  · rw [if_neg c] at e'; cases e'
theorem re_eqV (xo : XOk X N sc B k) {dt : t.A → PyData} {du : u.A → PyData} (st : Sh t dt) (su : Sh u du) (it : Imm t) (iu : Imm u) {m : SM (OT os) t.A} {n : SM (OT os) u.A} (ha : RE X Γ os a t m) (hb : RE X Γ os b u n) (hm : behindInMarks .Eq b = false := by rfl) :
    RE X Γ os (.Compare a [.Eq] [b] pos) tBool (SM.bind m fun x => SM.bind n fun y => SM.lift (if SeqAt.shaped (dt x) = true ∧ SeqAt.shaped (du y) = true then some (PyData.eqv (dt x) (du y)) else none)) :=
  re_cmp (op_eqV (units_ok xo)) (v_eqV st su it iu) it iu ha hb hm
/-! ### two dicts that hold the same -/
def rDct : R2 := fun x y H Q => ∃ a b ks ls, x = .ref a ∧ y = .ref b ∧ Rd H a (.dK ks) ∧ Rd H b (.dK ls) ∧ ks.length = ls.length ∧ (∀ p ∈ ks, valV ls p.1 = some p.2 ∧ flatB p.2 = true) ∧ Q (.bl true) H
theorem op_eqDct (hu : X.A.units < cLine) : OpR X (compareOp .Eq) rDct := by
  intro pins s σ H x y v u Q I rx ry h
  obtain ⟨a, b, ks, ls, rfl, rfl, ea, eb, len, all, q⟩ := h
  obtain rfl : v = Value.ref a := rx
  obtain rfl : u = Value.ref b := ry
  obtain ⟨_, low1, va, rel1, da⟩ := dk_rd I.hok ea
  obtain ⟨_, low2, vb, rel2, db⟩ := dk_rd I.hok eb
  have many : va.length = vb.length := rel1.length.symm.trans (len.trans rel2.length)
  refine PySem.W.keq_eq (knd := mixKind X.prog X.w) (r := true) low1 low2 da db hu (fun _ => hits_all rel2 rel1 all) (fin_bl I q ?_)
  simp [many]
def eqD {A : Type} [DecidableEq A] (x y : List (List Nat × A)) : Bool := decide (x.length = y.length) && x.all fun p => decide (dget p.1 y = some p.2)
theorem kvR_flat {A : Type} {g : A → V} {F : Hp} : ∀ {xs : List (List Nat × A)} {kvs : List (Key × V)}, KvR (flat A g) xs kvs F → kvs = xs.map fun y => (.inr (sOf y.1), g y.2)
  | [], _, h => h
  | y :: r, _, ⟨v, l, e, q, k⟩ => by
    subst e
    rw [List.map_cons, kvR_flat k, show v = g y.2 from q.2]
theorem v_eqDct {A : Type} [DecidableEq A] {g : A → V} (hg : ∀ x, flatB (g x) = true) : VOp rDct (tDct (flat A g)) (tDct (flat A g)) tBool (fun x y => if eqD x y = true then some true else none) := by
  intro x y z v w F M H Q e ⟨_, a, ka, ea, fa, ra⟩ ⟨_, b, kb, eb, fb, rb⟩ gd q
  have e' : (if eqD x y = true then some true else none) = some z := e
  by_cases c : eqD x y = true
  · rw [if_pos c] at e'
    cases e'
    subst ea eb
    unfold eqD at c
    rw [Bool.and_eq_true, decide_eq_true_eq, List.all_eq_true] at c
    refine ⟨a, b, ka, kb, rfl, rfl, rd_good gd fa, rd_good gd fb, by rw [ra.length, rb.length]; exact c.1, fun p hp => ?_, fl (gA := V.bl) q gd⟩
    have hka := kvR_flat ra
    subst hka
    obtain ⟨y0, hy, rfl⟩ := List.mem_map.mp hp
    have h1 : dget y0.1 y = some y0.2 := of_decide_eq_true (c.2 y0 hy)
    have h2 := rb.val (k := y0.1)
    rw [h1] at h2
    obtain ⟨v, e1, e2⟩ := h2
    refine ⟨?_, hg _⟩
    rw [e1, show v = g y0.2 from e2.2]
  · rw [if_neg c] at e'; cases e'
theorem re_eqDct (xo : XOk X N sc B k) {A : Type} [DecidableEq A] {g : A → V} (hg : ∀ x, flatB (g x) = true) {m n : SM (OT os) (List (List Nat × A))} (ha : RE X Γ os a (tDct (flat A g)) m) (hb : RE X Γ os b (tDct (flat A g)) n) (hm : behindInMarks .Eq b = false := by rfl) :
    RE X Γ os (.Compare a [.Eq] [b] pos) tBool (SM.bind m fun x => SM.bind n fun y => SM.lift (if eqD x y = true then some true else none)) :=
  re_cmp (op_eqDct (by have := xo.room.un; omega)) (v_eqDct hg) im_dct im_dct ha hb hm
theorem flB_int : ∀ i : Int, flatB (V.int i) = true := fun _ => rfl
theorem flB_str : ∀ l : List Nat, flatB (V.str (sOf l)) = true := fun _ => rfl
/-! ### texts of one sign -/
def ones (x : List (List Nat)) : Option (List Nat) := if (x.all fun y => decide (y.length = 1)) = true then some (x.map fun y => y.headD 0) else none
theorem allR_ones {F : Hp} : ∀ {x : List (List Nat)} {vs : List V}, (x.all fun y => decide (y.length = 1)) = true → AllR tStr x vs F → AllR tChr (x.map fun y => y.headD 0) vs F
  | [], _, _, h => h
  | y :: r, _, ha, ⟨v, l, e, q, k⟩ => by
    rw [List.all_cons, Bool.and_eq_true, decide_eq_true_eq] at ha
    obtain ⟨c, hc⟩ := List.length_eq_one_iff.mp ha.1
    subst hc
    exact ⟨v, l, e, q, allR_ones ha.2 k⟩
theorem re_ones {m : SM (OT os) (List (List Nat))} (h : RE X Γ os e (tLst tStr) m) : RE X Γ os e (tLst tChr) (SM.bind m fun x => SM.lift (ones x)) := by
  intro σ F M R H o W Q tk c w g q
  refine h σ F M R H o W Q tk c w g (q.bind.imp (fun x o1 z => ?_) fun _ _ z => z)
  intro v F' M1 mm M' H' s w' p' g' r
  unfold ones at z
  by_cases cc : (x.all fun y => decide (y.length = 1)) = true
  · rw [if_pos cc] at z
    obtain ⟨em, a, vs, ev, fa, ra⟩ := r
    exact (show NormE os (tLst tChr) σ F R Q _ o1 from z) v F' M1 mm M' H' s w' p' g' ⟨em, a, vs, ev, fa, allR_ones cc ra⟩
  · rw [if_neg cc] at z; exact z.elim
def one1 (x : List Nat) : Option Nat := if x.length = 1 then some (x.headD 0) else none
theorem re_one1 {m : SM (OT os) (List Nat)} (h : RE X Γ os e tStr m) : RE X Γ os e tChr (SM.bind m fun x => SM.lift (one1 x)) := by
  intro σ F M R H o W Q tk c w g q
  refine h σ F M R H o W Q tk c w g (q.bind.imp (fun x o1 z => ?_) fun _ _ z => z)
  intro v F' M1 mm M' H' s w' p' g' r
  unfold one1 at z
  by_cases cc : x.length = 1
  · rw [if_pos cc] at z
    obtain ⟨c, hc⟩ := List.length_eq_one_iff.mp cc
    subst hc
    exact (show NormE os tChr σ F R Q _ o1 from z) v F' M1 mm M' H' s w' p' g' r
  · rw [if_neg cc] at z; exact z.elim
/-! ### d.clear() -/
theorem re_clear (xo : XOk X N sc B k) {nm : Str} {i : Nat} {kd : NameKind} (h : OMem os i (tOwnD t)) (jn : Nat)
    (hjb : sc.names[jn]? = some (nm, kd) := by rfl) (hkb : visK kd = true := by rfl) (hN : N[i]? = some nm := by rfl)
    (hbase : attributeBase (.Name nm p) "clear" X.env (eval (.Name nm p) X.env) = eval (.Name nm p) X.env := by rfl) (hline : (apos.endLine == pos.line) = true := by rfl) :
    RE X Γ os (.Call (.Attribute (.Name nm p) "clear" apos) [] [] pos) tNone (fun o => some (.ok (), h.set [] o)) := by
  intro σ F M R H o W Q tk c w gd q
  refine ⟨_, pe_dclear (pe_var (by rw [xo.nN]; exact hN) (xo.vs jn nm kd hjb hkb) (xo.db jn nm kd hjb).1 (xo.db jn nm kd hjb).2.1) hbase hline, ?_⟩
  obtain ⟨v0, m0, M0, e0, r0, s0, up⟩ := h.at w
  obtain ⟨a, kvs, ev, em, rk⟩ := r0
  subst ev em
  have ha : H a = some (.dK kvs) := gd.m _ _ (s0.l _ _ sing_same)
  refine ⟨.ref a, e0, .inr (.inr (.inl ⟨rfl, .inl ⟨kvs, ha⟩⟩)), a, kvs, rfl, rfl, ha, ?_⟩
  have hF : F a = none := by
    rcases gd.dis a with z | z
    · exact z
    · rw [s0.l _ _ sing_same] at z; cases z
  have hM0 : M0 a = none := by
    rcases s0.dis a with z | z
    · rw [sing_same] at z; cases z
    · exact z
  have sep : Sep (sing a (.dK [])) M0 (uni (sing a (.dK [])) M0) := sep_mk fun b => by
    by_cases hb : b = a
    · subst hb; exact .inr hM0
    · exact .inl (sing_ne hb)
  obtain ⟨M2, s2, g2⟩ := gd.set (o' := .dK []) s0
  have e2 := s2.eq
  subst e2
  exact (show NormE os tNone σ F R Q () (h.set [] o) from q) .non F _ emp _ _ (.refl F) (up [] _ _ F (.refl F) ⟨a, [], rfl, rfl, rfl⟩ s2) (sep_emp_l _) g2 ⟨rfl, rfl⟩
/-! ### methods called by keyword -/
def LkMK (M : Md) (C : Addr) (nm : Str) (ps kns : List Str) (fs : Flds) (ts : List Ty) (tr : Ty) (fn : AT (tIns C fs :: ts) → Option (Except Exn tr.A)) (j : Nat) (rev : Bool) : Prop := ∃ f fd, Meth M.K C nm f ∧
  FnOk M.P M.w M.K M.mg M.base (L2.CX M.P M.w) j f fd ps (spP M.mg (tIns C fs :: ts) tr fn) ∧ ∀ (s : Shared) (u : Value) (ws : List Value), ws.length = ts.length → BindsTo s fd ⟨[u], kns.zip ws⟩ (ps.zip (u :: if rev = true then ws.reverse else ws))
/-- the two values, turned -/
def swapT {t u : Ty} (x : AT [t, u]) : AT [u, t] := (x.2.1, (x.1, ()))
theorem swap_ok {t u : Ty} {x : AT [t, u]} {vs : List V} {F : Hp} (h : ArgsOk [t, u] x vs F) : ArgsOk [u, t] (swapT x) vs.reverse F := by
  obtain ⟨v, l, e, q, v2, l2, e2, q2, e3⟩ := h
  have e3' : l2 = [] := e3
  subst e3' e2 e
  exact ⟨v2, [v], rfl, q2, v, [], rfl, q, rfl⟩
theorem vals_rev {vs : List V} {us : List Value} (h : Vals vs us) : Vals vs.reverse us.reverse := by
  induction h with
  | nil => exact .nil
  | cons h _ ih =>
    rw [List.reverse_cons, List.reverse_cons]
    exact ih.append (.cons h .nil)
theorem re_methK (xo : XOk X N sc B k) {nm : Str} {ps kns : List Str} {ts ts' : List Ty} {tr : Ty} {fn : AT (tIns C fs :: ts) → Option (Except Exn tr.A)} {j : Nat} {rev : Bool} {kws : List Keyword} {mo : SM (OT os) (AT (fs.map (·.2)))} {m : SM (OT os) (AT ts')} (pr : AT ts' → AT ts)
    (hpr : ∀ {x vs F}, ArgsOk ts' x vs F → ArgsOk ts (pr x) (if rev = true then vs.reverse else vs) F) (c : Cls X.K C) (l : LkMK X.md C nm ps kns fs ts tr fn j rev)
    (ho : RE X Γ os a (tIns C fs) mo) (ha : RK X Γ os kws ts' m) (hj : Nat.ble j k = true := by rfl) (hnf : nm ∉ fs.map (·.1) := by decide) {pl : Sem Bool} (hlen : ts'.length = ts.length := by rfl)
    (hall : (backToKw pos (keywordEach kws X.env)).all (·.1.isSome) = true := by rfl) (hks : (backToKw pos (keywordEach kws X.env)).filterMap (·.1) = kns := by rfl)
    (hpl : ((backTo pos (starEach [] X.env)).any (·.1) || (backToKw pos (keywordEach kws X.env)).any (·.1.isNone)) = false := by rfl)
    (ht : eval (.Call (.Attribute a nm apos) [] kws pos) X.env = (do
      let ov ← eval a X.env
      standAt apos.atName
      let (f, first) ← holding [ov] (getMethod ov nm pl)
      callWith pos f first (backTo pos (starEach [] X.env)) (backToKw pos (keywordEach kws X.env))) := by rfl) :
    RE X Γ os (.Call (.Attribute a nm apos) [] kws pos) tr (SM.bind mo fun x => SM.bind m fun y => SM.lifo (fn (x, pr y))) := by
  obtain ⟨f, fd, hm, F, hb⟩ := l
  intro σ F0 M R H o W Q tk cc w gd h
  have pe : PE X (.Call (.Attribute a nm apos) [] kws pos) (fun σ' H' Q' => best X a σ' H' fun v H1 => ∃ d dx ws, v = .ref d ∧ H1 d = some (.ins C dx ws) ∧ ws.lookup nm = none ∧
      bestK X kws σ' H1 fun vs H2 => vs.length = ts.length ∧ spP X.mg (tIns C fs :: ts) tr fn (.ref d :: if rev = true then vs.reverse else vs) H2 Q' (fun _ _ _ => False)) := by
    refine ⟨fun pins s σ' H' Q' I q => ?_⟩
    refine PySem.W.methodCall_KW (pl := pl) (thn ((pe_best X a).run pins s σ' H' _ I q) fun u s1 ⟨x, H1, I1, rx, d, dx, ws, ex, ed, l, q⟩ => ?_) ht
    subst ex
    obtain rfl : u = Value.ref d := rx
    refine getmeth_ok I1 ed c hm l ?_
    refine PySem.W.callWith_KW0 (first := [.ref d]) (h₀ := X.base) I.ok.mod.kin hm.kp hall ?_ hpl
    refine thn ((pk_best X kws).run pos pins s1 σ' H1 _ I1 q) fun us s2 ⟨zs, H2, I2, rz, many, q2⟩ => ⟨I2.kIn, ?_⟩
    rw [hks]
    have r2 : Vals (V.ref d :: if rev = true then zs.reverse else zs) (Value.ref d :: if rev = true then us.reverse else us) := by
      refine .cons rfl ?_
      cases rev with
      | true => exact vals_rev rz
      | false => exact rz
    refine wpAny_call (codeAny_mono (F.run X.A X.stack s2 H2 ⟨[.ref d], kns.zip us⟩ _ _ Q' (fun _ _ _ => False) (xo.room.mono (Nat.le_of_ble_eq_true hj)) I2.env0 (hb s2 (.ref d) us (by rw [← many]; exact rz.length.symm)) r2 q2) fun r s3 hq => ?_)
    cases r with
    | error ex =>
      obtain ⟨_, _, _, _, _, _, _, _, _, _, _, _, z⟩ := hq
      exact z.elim
    | ok way =>
      cases way with
      | ret u => exact I2.after hq
      | next => exact hq.elim
      | brk => exact hq.elim
      | cont => exact hq.elim
  refine ⟨_, pe, ?_⟩
  refine one_end (ta := tIns C fs) im_ins ho tk cc w gd h fun x o2 v F2 M2 H2 h2 s2 w2 g2 r1 => ?_
  obtain ⟨_, d, dx, ws, ev, fd', rk⟩ := r1
  subst ev
  refine ⟨d, dx, ws, rfl, g2.f _ _ fd', rk.look hnf, ?_⟩
  refine ha σ F2 M2 R H2 o2 W _ tk (cc.mono s2) w2 g2 (h2.bind.imp (fun y o3 z => ?_) fun _ _ z => z.mono s2)
  intro vs F3 M3 H3 s3 w3 g3 r3
  refine ⟨by rw [r3.length, hlen], (x, pr y), F3, M3, ⟨.ref d, _, rfl, ⟨rfl, d, dx, ws, rfl, s3 _ _ fd', InsR.mono (x := x) rk s3⟩, hpr r3⟩, g3, ?_⟩
  have z' := z
  unfold SM.lifo at z'
  cases q : fn (x, pr y) with
  | none => rw [q] at z'; exact z'.elim
  | some r =>
    rw [q] at z'
    cases r with
    | error ex => exact z'.elim
    | ok y2 => exact fun v F' mm M' H' s' p' g' r' => (show NormE os tr σ F0 R Q y2 o3 from z') v F' M3 mm M' H' ((s2.trans s3).trans s') (w3.mono s') p' g' r'
end
end Mi

namespace Mi
open PySem PySem.Spec PyProof.Rows L2
section
variable {X : Cx} {N : List Str} {sc : Scope} {B : List Str} {k : Nat} {Γ : Ctx} {os os' : Os} {pos p p1 p2 p3 cpos apos : Pos} {e a b c : Expr} {es : List Expr} {t u : Ty} {G : FX} {L : LC} {β : Type} {Γn : β → Ctx} {osn : Os} {rest : List Stmt}
/-- x = e, where x holds a thing of ours already -/
theorem rb_reasgO (xo : XOk X N sc B k) (hS : OSub os G.ps) (i j : Nat) {nm : Str} {kd : NameKind} {t0 : Ty} {me : SM (OT os) t.A} {kk : OT ((i, t) :: os') → OutT G L β osn} (h : OSel os i t0 os') (he : RE X Γ os e t me)
    (hk : RB X G L (Γ.set i none) ((i, t) :: os') rest Γn osn kk)
    (hlt : Nat.ble (i + 1) Γ.length = true := by rfl)
    (hj : sc.names[j]? = some (nm, kd) := by rfl) (hkd : locK kd = true := by rfl) (hN : N[i]? = some nm := by rfl) (hf : noSlot i os' = true := by rfl) (hkp : G.kp.all (· != i) = true := by rfl)
    (hs : swapsWith e (some (.Name nm p)) pos.line X.env = pure false := by rfl) : RB X G L Γ os (.Assign [.Name nm p] e pos :: rest) Γn osn (fun o => bindX hS (me o) fun x o => kk (x, h.rest o)) := by
  intro σ F M R H o W D tk c w g q
  obtain ⟨l1, l2⟩ := xo.lc j nm kd hj hkd
  refine ⟨_, pss_cons (ps_set (i := i) xo.nd (by rw [xo.nN]; exact hN) l1 (pe_best X e) hs l2) (pss_best X rest), ?_⟩
  refine he σ F M R H o W _ tk c w g (q.bindX.imp (fun x o1 z => ?_) fun _ _ z => z)
  intro v F' M1 mm M' H' s' w' p' g' r'
  obtain ⟨v0, m0, M0, e0, r0, s0, w0⟩ := h.own w'
  have dis : ∀ q, mm q = none ∨ M0 q = none := fun q => by
    rcases p'.dis q with z | z
    · exact .inl z
    · exact .inr (s0.none z).2
  have sub : Sub (uni mm M0) M' := fun q o hq => by
    cases y : mm q with
    | some o2 => rw [uni_l y] at hq; rw [← hq]; exact p'.l _ _ y
    | none => rw [uni_r y] at hq; exact p'.r _ _ (s0.r _ _ hq)
  exact hk (σ.set i (some v)) F' (uni mm M0) R H' (x, h.rest o1) W D tk ((c.mono s').out) ⟨v, mm, M0, List.getElem?_set_self (by rw [← c.1]; exact Nat.le_of_ble_eq_true hlt), r', sep_mk dis, w0.set hf⟩ (g'.less sub) (z.mono s' (keep_set hkp))
theorem boot_int : bootBuiltins "int" = some (.type "int") := by decide +kernel
/-- int(a bool) -/
theorem re_intB (xo : XOk X N sc B k) {m : SM (OT os) (AT [tBool])} (ga ma : Nat) (ha : RA X Γ os [e] [tBool] m) (hg : sc.names[ga]? = some (gI "int") := by rfl) (hm : B[ma]? = some "int" := by rfl)
    (he : starEach [e] X.env = (false, eval e X.env) :: starEach [] X.env := by rfl) :
    RE X Γ os (.Call (.Name "int" p) [e] [] pos) tInt (SM.bind m fun x => SM.lift (some (if x.1 = true then 1 else 0))) := by
  refine re_callTy (ts := [tBool]) (tc := tInt) (f := fun x => some (if x.1 = true then 1 else 0)) call_int1 (fun {x z vs F M H Q} e h g q => ?_) (xo.gl ga _ hg) (xo.fr ma _ hm) boot_int ha (by decide) (by decide) he rfl
  obtain ⟨v, us, e1, ⟨_, ev⟩, e2⟩ := h
  have e2' : us = [] := e2
  subst e2' e1 ev
  cases e
  exact .inr ⟨x.1, rfl, fl (gA := V.int) q g⟩
end
theorem SaysX.isc {fa : List He.Fa} {fn : List He.DefD} {pr : List PrD} {cv : List CvD} {K : PySem.W.Frag} (c : SaysX fa fn pr cv K) (i : Nat) {C : Str} (h : cv[i]? = some (C, ("__class__" : Str), (0 : Int))) (cl : Cls K (He.ga K C)) : C8.InsC K (He.ga K C) := by
  have z := c.cv_ i h
  have z : cvB K C "__class__" 0 = true := z
  unfold cvB at z
  rw [if_pos rfl] at z
  unfold isB at z
  simp only [Bool.and_eq_true] at z
  obtain ⟨⟨⟨h1, h2⟩, h3⟩, h4⟩ := z
  exact ⟨cl, He.eqO_ok h1, He.eqO_ok h2, of_decide_eq_true h3, of_decide_eq_true h4, by unfold PySem.W.kitOne; simp⟩
theorem SaysX.cmpo {fa : List He.Fa} {fn : List He.DefD} {pr : List PrD} {cv : List CvD} {K : PySem.W.Frag} (c : SaysX fa fn pr cv K) (i : Nat) {C : Str} (h : cv[i]? = some (C, ("__ne__" : Str), (0 : Int))) : CmpO K (He.ga K C) := by
  have z := c.cv_ i h
  have z : cvB K C "__ne__" 0 = true := z
  unfold cvB at z
  rw [if_neg (by decide), if_pos rfl] at z
  unfold neB at z
  simp only [Bool.and_eq_true] at z
  exact ⟨He.eqO_ok z.1, of_decide_eq_true z.2⟩
theorem fl_opt {t : Ty} (f : Fl t) : Fl (tOpt t) := fun {x v F F' m} r => by
  cases x with
  | none => exact r
  | some y => exact ⟨r.1, f r.2⟩
theorem flk_opt {t : Ty} (f : FlK t) : FlK (tOpt t) := fun {x v F F' m} r s => by
  cases x with
  | none => exact r
  | some y => exact ⟨r.1, f r.2 s⟩
theorem flk_hl {ts : List Ty} (f : ∀ t ∈ ts, FlK t) : FlK (tHL ts) := fun {x v F F' m} h s => by
  obtain ⟨e, a, vs, ev, q, r⟩ := h
  exact ⟨e, a, vs, ev, s _ _ q (fun _ z => nomatch z), atk s f r⟩
theorem bindsG {K : PySem.W.Frag} {x qual : Str} {params : Arguments} {body : List Stmt} {scope : Scope} {kws : List (Str × V)} {f : Addr} {fd : FuncData} {args : Args} {binds : List (Str × Value)} (F : FunD K x qual params body scope [] kws f fd)
    (h : ∀ (kV doc pm : Value) (an : Option Addr) (cdv ct : Value), bindArgs (PySem.W.fnOf x qual params body scope .none kV doc pm an cdv ct) args = pure binds) (s : Shared) : BindsTo s fd args binds := by
  obtain ⟨oc, od, dV, kV, doc, pm, an, cdv, ct, osl, rfl, lk, hcd, hD, hK⟩ := F.ex
  rcases hD with ⟨_, rfl⟩ | ⟨e, _⟩
  · exact .of_eq (h kV doc pm an cdv ct)
  · exact absurd rfl e
/-! ### xs + ys -/
theorem allR_app {t : Ty} {F : Hp} : ∀ {xs ys : List t.A} {vs us : List V}, AllR t xs vs F → AllR t ys us F → AllR t (xs ++ ys) (vs ++ us) F
  | [], _, vs, _, h, k => by
    have h' : vs = [] := h
    subst h'
    exact k
  | x :: xs, _, _, _, ⟨v, l, e, q, z⟩, k => by
    subst e
    exact ⟨v, _, rfl, q, allR_app z k⟩
section
variable {X : Cx} {Γ : Ctx} {os : Os} {pos : Pos} {a b : Expr} {t : Ty}
theorem re_catL {m n : SM (OT os) (List t.A)} (ha : RE X Γ os a (tLst t) m) (hb : RE X Γ os b (tLst t) n) :
    RE X Γ os (.BinOp a .Add b pos) (tOwn t) (SM.bind m fun x => SM.bind n fun y => SM.lift (if x.length + y.length ≤ sizeLine then some (x ++ y) else none)) := by
  refine re_op (ta := tLst t) (tb := tLst t) (tc := tOwn t) (f := fun x y => if x.length + y.length ≤ sizeLine then some (x ++ y) else none) op_cat (fun {x y z v u F M H Q} e hx hy g q => ?_) im_lst im_lst ha hb
  obtain ⟨_, c, vs, e1, f1, r1⟩ := hx
  obtain ⟨_, d, us, e2, f2, r2⟩ := hy
  subst e1 e2
  have e' : (if x.length + y.length ≤ sizeLine then some (x ++ y) else none) = some z := e
  by_cases h : x.length + y.length ≤ sizeLine
  · rw [if_pos h] at e'
    cases e'
    refine ⟨c, d, vs, us, rfl, rfl, g.f _ _ f1, g.f _ _ f2, by rw [r1.length, r2.length]; exact h, fun p hp => ?_⟩
    obtain ⟨g2, s2⟩ := g.newM (o := .lst (vs ++ us)) hp
    exact q (.ref p) F _ _ _ (.refl F) s2 g2 ⟨p, _, rfl, rfl, allR_app r1 r2⟩
  · rw [if_neg h] at e'; cases e'
end
/-! ### the same as tests -/
section
variable {X : Cx} {N : List Str} {sc : Scope} {B : List Str} {k : Nat} {Γ : Ctx} {os os' : Os} {pos : Pos} {a b : Expr} {t u : Ty} {C f : Addr} {fs : Flds}
theorem cmp_finT {g : Bool → Bool} {fn : AT [tIns C fs, tIns C fs] → Option (Except Exn Bool)} {x y : AT (fs.map (·.2))} {v w : V} {F F0 M R H : Hp} {o : OT os} {σ : L2.St} {Q : Bool → Hp → Prop} {E : Exn → OT os → Prop} (hx : (tIns C fs).rep x v F emp) (hy : (tIns C fs).rep y w F emp) (gd : Good F M H)
    (ww : OwnOk os o σ F M R) (s0 : Sub F0 F) (h : Want (SM.bind (SM.lifo (fn (x, (y, ())))) (fun b => SM.ret (g b)) o) (NormT os σ F0 R Q) E) : rCmp C (spP X.mg [tIns C fs, tIns C fs] tBool fn) g v w H (fun x H' => ∃ k, x = .bl k ∧ Q k H') := by
  obtain ⟨_, d, dx, ws, ev, fa, rk⟩ := hx
  obtain ⟨_, d2, dx2, ws2, ev2, fa2, rk2⟩ := hy
  subst ev ev2
  refine ⟨d, d2, dx, dx2, ws, ws2, rfl, rfl, gd.f _ _ fa, gd.f _ _ fa2, (x, (y, ())), F, M, ⟨.ref d, _, rfl, ⟨rfl, d, dx, ws, rfl, fa, rk⟩, .ref d2, [], rfl, ⟨rfl, d2, dx2, ws2, rfl, fa2, rk2⟩, rfl⟩, gd, ?_⟩
  unfold SM.bind SM.lifo at h
  cases z : fn (x, (y, ())) with
  | none => rw [z] at h; exact h.elim
  | some r =>
    rw [z] at h
    cases r with
    | error ex => exact h.elim
    | ok b =>
      refine fun v F' mm M' H' s' p' g' r' => ?_
      obtain ⟨em, ev⟩ := r'
      subst em
      have e := p'.emp_l; subst e
      exact ⟨b, ev, g b, rfl, (show NormT os σ F0 R Q (g b) o from h) F' _ H' (s0.trans s') (ww.mono s') g'⟩
theorem rt_eqO (xo : XOk X N sc B k) {ps : List Str} {fn : AT [tIns C fs, tIns C fs] → Option (Except Exn Bool)} {j : Nat} {mo m : SM (OT os) (AT (fs.map (·.2)))} (l : LkM X.md C "__eq__" ps fs [tIns C fs] tBool fn j)
    (ha : RE X Γ os a (tIns C fs) mo) (ho : RE X Γ os b (tIns C fs) m) (hj : Nat.ble j k = true := by rfl) (hm : behindInMarks .Eq b = false := by rfl) :
    RT X Γ os (.Compare a [.Eq] [b] pos) (SM.bind mo fun x => SM.bind m fun y => SM.bind (SM.lifo (fn (x, (y, ())))) fun b => SM.ret (id b)) := by
  obtain ⟨f, fd, hme, hb, F⟩ := l
  intro σ F0 M R H o W Q tk cc w gd h
  refine ⟨_, pt_cmpR (op_eqO hme F (xo.room.mono (Nat.le_of_ble_eq_true hj)) hb) (pe_best X a) (pe_best X b) hm, ?_⟩
  exact two_ends (ta := tIns C fs) (tb := tIns C fs) im_ins im_ins ha ho tk cc w gd h fun x y o2 v u F2 M2 H2 h2 s2 w2 g2 r1 r2 => cmp_finT (g := id) r1 r2 g2 w2 s2 h2
theorem rt_neO (xo : XOk X N sc B k) {ps : List Str} {fn : AT [tIns C fs, tIns C fs] → Option (Except Exn Bool)} {j : Nat} {mo m : SM (OT os) (AT (fs.map (·.2)))} (l : LkM X.md C "__eq__" ps fs [tIns C fs] tBool fn j) (cm : CmpO X.K C)
    (ha : RE X Γ os a (tIns C fs) mo) (ho : RE X Γ os b (tIns C fs) m) (hj : Nat.ble (j + 1) k = true := by rfl) (hm : behindInMarks .NotEq b = false := by rfl) :
    RT X Γ os (.Compare a [.NotEq] [b] pos) (SM.bind mo fun x => SM.bind m fun y => SM.bind (SM.lifo (fn (x, (y, ())))) fun b => SM.ret (not b)) := by
  obtain ⟨f, fd, hme, hb, F⟩ := l
  intro σ F0 M R H o W Q tk cc w gd h
  refine ⟨_, pt_cmpR (op_neO hme cm.ne cm.ob F (xo.room.mono (Nat.le_of_ble_eq_true hj)) hb) (pe_best X a) (pe_best X b) hm, ?_⟩
  exact two_ends (ta := tIns C fs) (tb := tIns C fs) im_ins im_ins ha ho tk cc w gd h fun x y o2 v u F2 M2 H2 h2 s2 w2 g2 r1 r2 => cmp_finT (g := not) r1 r2 g2 w2 s2 h2
theorem rt_eqDct (xo : XOk X N sc B k) {A : Type} [DecidableEq A] {g : A → V} (hg : ∀ x, flatB (g x) = true) {m n : SM (OT os) (List (List Nat × A))} (ha : RE X Γ os a (tDct (flat A g)) m) (hb : RE X Γ os b (tDct (flat A g)) n) (hm : behindInMarks .Eq b = false := by rfl) :
    RT X Γ os (.Compare a [.Eq] [b] pos) (SM.bind m fun x => SM.bind n fun y => SM.lift (if eqD x y = true then some true else none)) :=
  rt_cmp (op_eqDct (by have := xo.room.un; omega)) (v_eqDct hg) im_dct im_dct ha hb hm
theorem rt_eqV (xo : XOk X N sc B k) {dt : t.A → PyData} {du : u.A → PyData} (st : Sh t dt) (su : Sh u du) (it : Imm t) (iu : Imm u) {m : SM (OT os) t.A} {n : SM (OT os) u.A} (ha : RE X Γ os a t m) (hb : RE X Γ os b u n) (hm : behindInMarks .Eq b = false := by rfl) :
    RT X Γ os (.Compare a [.Eq] [b] pos) (SM.bind m fun x => SM.bind n fun y => SM.lift (if SeqAt.shaped (dt x) = true ∧ SeqAt.shaped (du y) = true then some (PyData.eqv (dt x) (du y)) else none)) :=
  rt_cmp (op_eqV (units_ok xo)) (v_eqV st su it iu) it iu ha hb hm
end
end Mi

/-! sorted(xs, key=f) where f is any function that keeps a promise: keys that are whole numbers -/
namespace Mi
open PySem PySem.Spec PySem.W PySem.Calls PyProof.Rows L2
section
variable {X : Cx} {pins : List (Addr × Obj)} {σ : L2.St} {H H' : Hp} {s : Shared}
theorem new_ch (I : Inv X pins σ H s) {b : Addr} (hb : s.heap.objs.size ≤ b) : (b ∈ X.ex ∨ X.s_0.heap.objs.size ≤ b) ∧ b ≠ X.env.locals ∧ (∀ x c, X.env.cells.lookup x = some c → c ≠ b) ∧ ∀ p ∈ X.pn ++ pins, p.1 ≠ b := by
  refine ⟨.inr (Nat.le_trans I.sz hb), fun z => ?_, fun x c e z => ?_, fun p hp z => ?_⟩
  · have := I.lt
    rw [z] at hb
    exact absurd (Nat.lt_of_lt_of_le this hb) (Nat.lt_irrefl _)
  · obtain ⟨v, o, ho, _⟩ := I.cell x c e
    have := Heap.lt_size ho
    rw [z] at this
    exact absurd (Nat.lt_of_lt_of_le this hb) (Nat.lt_irrefl _)
  · have := Heap.lt_size (I.pin p hp).1
    rw [z] at this
    exact absurd (Nat.lt_of_lt_of_le this hb) (Nat.lt_irrefl _)
/-- objects that are new in this frame, and not ours to tell, change -/
theorem inv_new {ch : List Addr} {h' : Heap} {t' : Nat} (I : Inv X pins σ H s) (hch : ∀ b ∈ ch, (b ∈ X.ex ∨ X.s_0.heap.objs.size ≤ b) ∧ b ≠ X.env.locals ∧ (∀ x c, X.env.cells.lookup x = some c → c ≠ b) ∧ ∀ p ∈ X.pn ++ pins, p.1 ≠ b)
    (hn : ∀ b ∈ ch, H b = none) (k : ∀ b o, b ∉ ch → s.heap.get? b = some o → h'.get? b = some o) : Inv X pins σ H { s with heap := h', toks := t' } := by
  have hL : X.env.locals ∉ ch := fun z => (hch _ z).2.1 rfl
  refine I.step (g' := s.gens) (d' := s.drawn) hch (fun b o _ _ hc e _ => k b o hc e) (fun b o _ _ hc e _ => ⟨o.slots, k b o hc e⟩) (fun b o _ _ e => e) (fun b o hc e => ⟨o, k b o hc e⟩) (fun _ _ e => e) (fun _ _ _ e => e) (fun b ps e => ⟨#[], by simpa using e⟩) (fun m hn' => ?_) (fun b u e => ?_) I.bare
  · obtain ⟨ob, es, ep, ho, r⟩ := hn'
    exact ⟨ob, es, ep, k _ ob hL ho, r⟩
  · have nb : ∀ d v, H d = some v → d ∉ ch := fun d v q z => by rw [hn d z] at q; cases q
    exact (I.hok b u e).stay (fun d v hd q => k d v (hd.elim (fun z => by rw [z]; exact nb b u e) fun z => nb d _ z) q) (fun d q => q) fun d xs q => q
/-- .. and one of them is told from now on -/
theorem inv_told {ch : List Addr} {a : Addr} {o : HO} {h' : Heap} {t' : Nat} (I : Inv X pins σ H s) (hch : ∀ b ∈ a :: ch, (b ∈ X.ex ∨ X.s_0.heap.objs.size ≤ b) ∧ b ≠ X.env.locals ∧ (∀ x c, X.env.cells.lookup x = some c → c ≠ b) ∧ ∀ p ∈ X.pn ++ pins, p.1 ≠ b)
    (hn : ∀ b ∈ a :: ch, H b = none) (k : ∀ b o, b ∉ a :: ch → s.heap.get? b = some o → h'.get? b = some o) (new : ObjOk X.prog X.w (upd H a o) h' a o) : Inv X pins σ (upd H a o) { s with heap := h', toks := t' } := by
  have ne : ∀ {b : Addr}, b ∉ a :: ch → b ≠ a := fun hb z => hb (by rw [z]; exact List.mem_cons_self ..)
  have nb : ∀ {b u}, H b = some u → b ∉ a :: ch := fun q z => by rw [hn _ z] at q; cases q
  refine I.step (g' := s.gens) (d' := s.drawn) hch (fun b o _ _ hc e _ => k b o hc e) (fun b o _ _ hc e _ => ⟨o.slots, k b o hc e⟩) (fun b o hc _ e => by rw [upd_ne (ne hc)]; exact e) (fun b o hc e => ⟨o, k b o hc e⟩)
    (fun b xs e => by rw [upd_ne (ne (nb e))]; exact e) (fun b o u e => by rw [upd_ne (ne (nb e))]; exact e) (fun b ps e => ⟨#[], by rw [upd_ne (ne (nb e))]; simpa using e⟩) (fun m hn' => ?_) (fun b u e => ?_) I.bare
  · obtain ⟨ob, es, ep, ho, r⟩ := hn'
    exact ⟨ob, es, ep, k _ ob (fun z => (hch _ z).2.1 rfl) ho, r⟩
  · by_cases hb : b = a
    · subst hb; rw [upd_same] at e; cases e; exact new
    · rw [upd_ne hb] at e
      exact (I.hok b u e).stay (fun d v hd q => k d v (hd.elim (fun z => by rw [z]; exact nb e) fun z => nb z) q) (fun d q => by rw [upd_ne (ne (nb q))]; exact q) fun d xs q => by rw [upd_ne (ne (nb q))]; exact q
theorem ints_data {h : Heap} : ∀ {vs : List Value} {ns : List Int}, IntsAre vs ns → EachIs (fun v k => ∃ as, Reads h v k as) vs (ns.map PyData.int)
  | _, _, .nil => .nil
  | _, _, .cons n t r => .cons ⟨_, .int n t⟩ (ints_data r)
/-- nothing is let out -/
theorem no_exc {P : Program} {w : World} {outer : List Env} {H : Hp} {s s' : Shared} {e : Value} (h : L2.CX P w outer H s (fun _ _ _ => False) e s') : False := by
  obtain ⟨_, _, _, _, _, _, _, _, _, _, _, _, _, _, _, _, z⟩ := h
/-- the calls' loop, and the sort -/
theorem key_rest {A : Around} {E : Value → Shared → Prop} {P : PySem.Fin → Shared → Prop} {f a kS : Addr} {us : List Value} {ks : List Int} {e1 : Nat} {s0 : Shared} {H0 : Hp} (I0 : Inv X pins σ H0 s0) (ha : s0.heap.objs.size ≤ a) (hk : s0.heap.objs.size ≤ kS) (hka : kS ≠ a)
    (I : Inv X pins σ H s) (nk : s.heap.get? kS = some (seqObj "list" #[] 0)) (na : s.heap.get? a = some (seqObj "list" #[] e1)) (Hk : H kS = none) (Ha : H a = none) (hlen : ks.length = us.length) (hZ : us.length ≤ sizeLine) (hu : A.units < cLine)
    (J : Hp → Prop) (hJ : J H)
    (turn : ∀ (i : Nat) (u : Value) (k : Int) (s1 : Shared) (H1 : Hp), us[i]? = some u → ks[i]? = some k → Inv X pins σ H1 s1 → J H1 →
      codeAny (model X.prog X.w) A (.call (.ref f) ⟨[u], []⟩) (CR (L2.CX X.prog X.w) X.stack X.prog X.w H1 s1 (fun v H2 => v = .int k ∧ J H2) fun _ _ _ => False) s1)
    (h : ∀ (s2 : Shared) (H2 : Hp) (out : List Value) (c t' : Nat) (h' : Heap), Inv X pins σ H2 s2 → J H2 → H2 a = none → H2 kS = none → KeyedOut false (ks.map PyData.int) us out → (∀ b o, b ≠ a → b ≠ kS → s2.heap.get? b = some o → h'.get? b = some o) → h'.get? a = some (seqObj "list" out.toArray c) → P (.done (.ret .none)) { s2 with heap := h', toks := t' }) :
    wpAny (model X.prog X.w) A (ksk_rest a (.ref f) false us.toArray e1 (.ref kS)) P E s := by
  have hal : AllAlike (ks.map PyData.int) := fun d hd d' hd' => by
    obtain ⟨i, _, rfl⟩ := List.mem_map.mp hd
    obtain ⟨j, _, rfl⟩ := List.mem_map.mp hd'
    rfl
  have hsk : Sortable (ks.map PyData.int) := .inr fun d hd => by
    obtain ⟨i, _, rfl⟩ := List.mem_map.mp hd
    exact ⟨(fun z => by cases z), (fun xs z => by cases z)⟩
  have chk := new_ch I0 hk
  have cha := new_ch I0 ha
  have nofr : ∀ b, s0.heap.objs.size ≤ b → b ∉ frs X.stack := fun b hb z => by
    rcases List.mem_cons.mp (I0.stkSub b z) with e | e
    · rw [e] at hb; exact absurd (Nat.lt_of_lt_of_le I0.lt hb) (Nat.lt_irrefl _)
    · exact I0.nofs hb e
  unfold ksk_rest
  refine wpAny_bind (wpAny_rule ?_)
  first
    | rw [List.forIn_toArray]
    | (rw [← Array.forIn_toList]; simp only [List.toList_toArray])
    | rw [← Array.forIn_toList]
  refine wpAny_bind (ksk_fold (fun i s' => ∃ H' kA e, Inv X pins σ H' s' ∧ J H' ∧ s'.heap.get? kS = some (seqObj "list" kA e) ∧ s'.heap.get? a = some (seqObj "list" #[] e1) ∧ H' kS = none ∧ H' a = none ∧ IntsAre kA.toList (ks.take i)) us 0 s
    ⟨H, #[], 0, I, hJ, nk, na, Hk, Ha, by rw [List.take_zero]; exact .nil⟩ ?step ?done)
  case step =>
    rintro j x s' hx ⟨H', kA, e, I', hJ', nk', na', Hk', Ha', hkA⟩
    simp only [Nat.zero_add] at hkA ⊢
    have hj : j < us.length := (List.getElem?_eq_some_iff.mp hx).1
    obtain ⟨k, hkj⟩ : ∃ k, ks[j]? = some k := ⟨_, List.getElem?_eq_getElem (by omega)⟩
    have hz : kA.size ≤ us.length := by
      have h1 := hkA.length
      rw [Array.length_toList, List.length_take] at h1
      omega
    refine wpAny_bind (wpAny_attempt (wpAny_call (codeAny_mono (turn j x k s' H' hx hkj I' hJ') fun r s'' hq => ?_)))
    cases r with
    | error er => exact (no_exc hq).elim
    | ok fl =>
      cases fl with
      | next => exact False.elim hq
      | brk => exact False.elim hq
      | cont => exact False.elim hq
      | ret v =>
        obtain ⟨v', H2, os, bare, un, hok, rv, ev, hJ2⟩ := hq
        subst ev
        obtain ⟨t, rv'⟩ := rv
        subst rv'
        have nk2 : s''.heap.get? kS = some (seqObj "list" kA e) := un.keep _ _ nk' Hk' (nofr _ hk) (by simp)
        have na2 : s''.heap.get? a = some (seqObj "list" #[] e1) := un.keep _ _ na' Ha' (nofr _ ha) (by simp)
        have Hk2 : H2 kS = none := un.free _ _ nk' Hk' (by simp)
        have Ha2 : H2 a = none := un.free _ _ na' Ha' (by simp)
        have I2 : Inv X pins σ H2 s'' := I'.call' (ch := []) os un hok bare (fun b z => absurd z (by simp))
        try dsimp only
        have s1 := Heap.SameBut.update s''.heap kS (Obj.mapSeq (·.push (.int k t)))
        obtain ⟨c2, hc2⟩ : ∃ c2, (s''.heap.update kS (Obj.mapSeq (·.push (.int k t)))).get? kS = some (seqObj "list" (kA.push (.int k t)) c2) := ⟨_, get?_update_seq nk2 (·.push (.int k t))⟩
        have ek : ks.take (j + 1) = ks.take j ++ [k] := by rw [List.take_add_one, hkj]; simp
        have ea : (kA.push (.int k t)).toList = kA.toList ++ [.int k t] := by simp
        refine wpAny_bind (listUpdate_at nk2 rfl ?_ (Nat.le_trans hz hZ) (Nat.le_trans (Nat.le_of_eq (Array.size_push ..)) (Nat.succ_le_succ (Nat.le_trans hz hZ))))
        refine wpAny_pure ⟨rfl, H2, kA.push (.int k t), c2, inv_new (ch := [kS]) (t' := s''.toks) I2 (fun b hb => by rw [List.mem_singleton.mp hb]; exact chk) (fun b hb => by rw [List.mem_singleton.mp hb]; exact Hk2) (fun b o hb eb => (s1.2 b (fun z => hb (by simp [z]))).trans eb), hJ2, hc2, (s1.2 a hka.symm).trans na2, Hk2, Ha2, ?_⟩
        rw [ea, ek]
        exact ksk_snoc hkA
  case done =>
    rintro s' ⟨H', kA, e, I', hJ', nk', na', Hk', Ha', hkA⟩
    have e3 : ks.take (0 + us.length) = ks := List.take_of_length_le (by omega)
    rw [e3] at hkA
    have hsz : kA.size = us.length := by
      have h1 := hkA.length
      rw [Array.length_toList] at h1
      omega
    try dsimp only
    refine wpAny_bind (listItems_at nk' rfl ?_)
    obtain ⟨G, g1, g2⟩ := restrict s'.heap fun b => decide (b ≠ kS)
    have kp : KeepsBut a G s'.heap := fun b o hb eb => by
      by_cases z : b = kS
      · rw [z, g2 kS (by simp)] at eb; cases eb
      · rw [g1 b (decide_eq_true z)] at eb; exact eb
    have hk' := ints_data (h := s'.heap) hkA
    refine keyH_end (κ := dataKind s'.heap (ks.map PyData.int)) (h₁ := G) kp (g2 kS (by simp)) nk' na' hka (SortsAt.data hk' hal hsk (fun d hd => ?_)) hsz hZ fun h3 tk3 c k3 n3 => ?_
    · obtain ⟨i, _, rfl⟩ := List.mem_map.mp hd
      show A.units + 0 < cLine
      omega
    · exact h s' H' _ c tk3 h3 I' hJ' Ha' Hk' ⟨s'.heap, kA.toList, hal, rfl, hk'⟩ (fun b o b1 b2 eb => k3 b o b1 (by rw [g1 b (decide_eq_true b2)]; exact eb)) n3
/-- what it gives -/
def sortK (xs : List V) (ks : List Int) : List V := ((xs.zip ks).mergeSort fun p q => decide (p.2 ≤ q.2)).map (·.1)
theorem each_vals : ∀ {us : List Value} {bs : List (V × Int)}, EachIs (fun u (b : V × Int) => RelV b.1 u) us bs → Vals (bs.map (·.1)) us
  | _, _, .nil => .nil
  | _, _, .cons h r => .cons h (each_vals r)
theorem vals_each : ∀ {xs : List V} {us : List Value} {ks : List Int}, Vals xs us → ks.length = us.length → EachIs (fun u (b : V × Int) => RelV b.1 u) us (xs.zip ks)
  | [], _, ks, .nil, _ => by rw [List.zip_nil_left]; exact .nil
  | x :: xs, _, [], .cons _ _, h => by simp at h
  | x :: xs, _, k :: ks, .cons h r, e => .cons h (vals_each r (by simpa using e))
theorem sorted_keyI {l f : Addr} {us : List Value} {xs : List V} {ks : List Int} {E : Value → Shared → Prop} {Q : Value → Shared → Prop} (I : Inv X pins σ H s) (hl : s.heap.IsList l us.toArray) (rv : Vals xs us) (hlen : ks.length = us.length) (hZ : us.length ≤ sizeLine) (hu : X.A.in1.in1.units < cLine)
    (J : Hp → Prop) (hJ : J H)
    (turn : ∀ (i : Nat) (u : Value) (k : Int) (s1 : Shared) (H1 : Hp), us[i]? = some u → ks[i]? = some k → Inv X pins σ H1 s1 → J H1 →
      codeAny (model X.prog X.w) X.A.in1.in1 (.call (.ref f) ⟨[u], []⟩) (CR (L2.CX X.prog X.w) X.stack X.prog X.w H1 s1 (fun v H2 => v = .int k ∧ J H2) fun _ _ _ => False) s1)
    (h : ∀ (H2 : Hp) (p : Addr) (s' : Shared), J H2 → H2 p = none → Inv X pins σ (upd H2 p (.lst (sortK xs ks))) s' → Q (.ref p) s') :
    wpAny (model X.prog X.w) X.A (call (.builtin "sorted") [.ref l] [(Str.ofString "key", .ref f)]) Q E s := by
  refine sorted_of_sort hl hZ (ksk_s1 _ _) (fun x => ksk_l1 _ _) fun E' => ?_
  rw [ksk_t1]
  have ho := copyHeap_at s.heap us
  have co := fun b o (e : s.heap.get? b = some o) => copyHeap_old (vs := us) e
  obtain ⟨e1, ho1⟩ : ∃ e1, ((copyHeap s.heap us).update (s.heap.objs.size + 1) (Obj.mapSeq fun _ => (#[] : Array Value))).get? (s.heap.objs.size + 1) = some (seqObj "list" #[] e1) := ⟨_, get?_update_seq ho fun _ => #[]⟩
  have hkS : (((copyHeap s.heap us).update (s.heap.objs.size + 1) (Obj.mapSeq fun _ => (#[] : Array Value))).push (seqObj "tuple" us.toArray 0)).objs.size = (copyHeap s.heap us).objs.size + 1 := by rw [size_push', Heap.size_update]
  have hcs : s.heap.objs.size + 1 < (copyHeap s.heap us).objs.size := Heap.lt_size ho
  unfold ksk_tree
  refine wpAny_bind (listItems_at ho rfl ?_)
  refine wpAny_bind (listUpdate_at ho rfl ?_ (by rw [List.size_toArray]; exact hZ) (Nat.zero_le _))
  refine wpAny_bind (seqEpoch_at ho1 rfl ?_)
  refine wpAny_bind (wpAny_newTuple ?_ (by show us.length ≤ _; exact hZ))
  refine wpAny_bind (wpAny_newList ?_ (Nat.zero_le _))
  refine wpAny_holding ?_
  have kp : ∀ b o, s.heap.get? b = some o → (sortingHeap (copyHeap s.heap us) (s.heap.objs.size + 1) us).get? b = some o := fun b o q => sortingHeap_old (Nat.ne_of_lt (Nat.lt_succ_of_lt (Heap.lt_size q))) (co b o q)
  have I1 : Inv X pins σ H { s with heap := sortingHeap (copyHeap s.heap us) (s.heap.objs.size + 1) us, toks := s.toks } := I.kept kp
  have hq : s.heap.objs.size ≤ (((copyHeap s.heap us).update (s.heap.objs.size + 1) (Obj.mapSeq fun _ => (#[] : Array Value))).push (seqObj "tuple" us.toArray 0)).objs.size := by rw [hkS]; omega
  refine key_rest (s := { s with heap := ((((copyHeap s.heap us).update (s.heap.objs.size + 1) (Obj.mapSeq fun _ => #[])).push (seqObj "tuple" us.toArray 0)).push (seqObj "list" #[] 0)) }) (a := s.heap.objs.size + 1) (kS := (((copyHeap s.heap us).update (s.heap.objs.size + 1) (Obj.mapSeq fun _ => (#[] : Array Value))).push (seqObj "tuple" us.toArray 0)).objs.size) (H := H)
    I (Nat.le_succ _) hq (by rw [hkS]; exact Nat.ne_of_gt (Nat.lt_succ_of_lt hcs)) I1 (Heap.get?_push_size _ rfl) (Heap.get?_push_of_some _ (Heap.get?_push_of_some _ ho1)) (I.hok.fresh hq) (I.hok.fresh (Nat.le_succ _)) hlen hZ hu J hJ turn fun s2 H2 out c t' h' I2 hJ2 Ha2 Hk2 ko k2 ha2 => ⟨rfl, ?_⟩
  have ez : (xs.zip ks).map (fun b : V × Int => PyData.int b.2) = ks.map PyData.int := by
    have e0 : (xs.zip ks).map (fun b : V × Int => b.2) = ks := by
      have := List.unzip_snd (l := xs.zip ks)
      rw [List.unzip_zip (by rw [rv.length, hlen])] at this
      exact this.symm
    have e1 : (xs.zip ks).map (fun b : V × Int => PyData.int b.2) = ((xs.zip ks).map fun b : V × Int => b.2).map PyData.int := by rw [List.map_map]; rfl
    rw [e1, e0]
  have ek := keyedOut_each (β := V × Int) (R := fun u b => RelV b.1 u) (bs := xs.zip ks) (fun b => PyData.int b.2) (by rw [ez]; exact ko) (vals_each rv hlen)
  rw [dataLe_int] at ek
  have rv2 : Vals (sortK xs ks) out := each_vals ek
  have hol : out.length = us.length := ko.length (by rw [List.length_map]; exact hlen)
  refine h H2 _ _ hJ2 Ha2 ?_
  have hz : (sortK xs ks).length ≤ sizeLine := by rw [rv2.length, hol]; exact hZ
  generalize (((copyHeap s.heap us).update (s.heap.objs.size + 1) (Obj.mapSeq fun _ => (#[] : Array Value))).push (seqObj "tuple" us.toArray 0)).objs.size = kS at *
  refine inv_told (ch := [kS]) (t' := t') I2 (fun b hb => new_ch I ?_) (fun b hb => ?_) (fun b o hb e => k2 b o (fun z => hb (by simp [z])) (fun z => hb (by simp [z])) e) ⟨hz, out, c, rv2, ha2⟩
  · rcases List.mem_cons.mp hb with z | z
    · rw [z]; exact Nat.le_succ _
    · rw [List.mem_singleton.mp z]; exact hq
  · rcases List.mem_cons.mp hb with z | z
    · rw [z]; exact Ha2
    · rw [List.mem_singleton.mp z]; exact Hk2
end
end Mi

/-! a lambda with parameters and captured names: made, and called by a promise -/
namespace Mi
open PySem PySem.Spec PySem.Calls PyProof.Rows L2 NdefX
/-- at f: just this object -/
def LamO (f : Addr) (o : Obj) : HO := .ext fun h => h.get? f = some o
/-- the lambda's words, for its context -/
def lamF (X : Cx) (params : Arguments) (scope : Scope) (c' : Addr) : NF := ⟨"<lambda>", X.env.qual ++ "<lambda>", params, [], scope, cloFrom X.env.cells scope.names [], c'⟩
abbrev lamObj (X : Cx) (params : Arguments) (body : Expr) (scope : Scope) (c' : Addr) (pm ctv : Value) : Obj := PySem.W.kla_obj "<lambda>" (X.env.qual ++ "<lambda>") params body scope (cloFrom X.env.cells scope.names []) pm c' ctv
/-- what becomes of the table -/
def TabStep (H H1 : Hp) (P : Addr) (ps : Array Value) (q : Str) (pos : Pos) (c' : Addr) : Prop :=
  H1 = H ∨ (H c' = none ∧ c' ≠ P ∧ H1 = upd (upd H P (.tbl (ps ++ #[rawInt pos.line, rawInt pos.col, .ref c']))) c' (CodeO c' q))
section
variable {X : Cx} {pins : List (Addr × Obj)} {σ : L2.St} {H : Hp} {s : Shared}
theorem lam_make3 {c P : Addr} {ps : Array Value} {params : Arguments} {body : Expr} {scope : Scope} {pos : Pos} {E : Value → Shared → Prop} {Q : Value → Shared → Prop} (I : Inv X pins σ H s) (TB : LamX.TabB X.base X.mg c P) (hcode : X.env.code = .ref c)
    (hP : H P = some (.tbl ps)) (ht : TriplesOk ps.toList) (ha : ∀ (pos : Pos) (cv : Value), codeAmong pos ps.toList = some cv → ∃ c, cv = .ref c ∧ H c = some (CodeO c (X.env.qual ++ "<lambda>"))) (hdef : defaultsOf params X.env = ([], [])) (hfree : ∀ y ∈ scope.names, y.2 = .free → ∃ c, X.env.cells.lookup y.1 = some c)
    (h : ∀ (f c' : Addr) (pm ctv : Value) (H1 : Hp) (s' : Shared), TabStep H H1 P ps (X.env.qual ++ "<lambda>") pos c' → H1 c' = some (CodeO c' (X.env.qual ++ "<lambda>")) → H1 f = none → Inv X pins σ (upd H1 f (LamO f (lamObj X params body scope c' pm ctv))) s' → Q (.ref f) s') :
    wpAny (model X.prog X.w) X.A (eval (.Lambda params body scope pos) X.env) Q E s := by
  refine PySem.W.kla_eval hdef ?_
  have bP : s.heap.BuiltinsAt X.mg P := TB.bm.keeps I.bk
  have hP' : s.heap.get? P = some { cls := .none, data := .fields ps } := I.hok P _ hP
  have told : ∀ {H1 : Hp} {f : Addr} {o : Obj} {s' : Shared}, Inv X pins σ H1 s' → s.heap.objs.size ≤ f → H1 f = none → s'.heap.get? f = some o → Inv X pins σ (upd H1 f (LamO f o)) s' := fun {H1 f o s'} J hf hn ho =>
    inv_told (ch := []) (t' := s'.toks) (h' := s'.heap) J (fun b hb => by rw [List.mem_singleton.mp hb]; exact new_ch I hf) (fun b hb => by rw [List.mem_singleton.mp hb]; exact hn) (fun _ _ _ e => e) ⟨ho, ⟨o, ho⟩, fun _ _ e k => k _ e⟩
  cases hc : codeAmong pos ps.toList with
  | none =>
    refine PySem.W.kla_makeFunction (mg := X.mg) (c := c) (P := P) (ps := ps) (closure_ok hfree) I.ok.glob (I.mod.glob.keeps I.bk) hcode (TB.code.keeps I.bk) hP' ht hc TB.gP bP fun c' ctv h' tk hx hge hlt hrec htb => ?_
    obtain ⟨c2, oc, vs, t, e2, hoc, hd, hv⟩ := hrec
    cases e2
    have hsz : s.heap.objs.size ≤ h'.objs.size := Nat.le_trans hge (Nat.le_of_lt hlt)
    have nC : H c' = none := I.hok.fresh hge
    have nPc : c' ≠ P := Ne.symm (ne_of_none hP nC)
    have I1 := LamX.inv_table (t' := tk) (more := #[rawInt pos.line, rawInt pos.col, .ref c']) (h' := h'.push (PySem.W.kla_obj "<lambda>" (X.env.qual ++ "<lambda>") params body scope (cloFrom X.env.cells scope.names []) ((X.mg "__name__").getD .none) c' ctv)) I hP
      (fun b o hb e => Heap.get?_push_of_some _ (hx b o hb e)) (Heap.get?_push_of_some _ htb) hge ⟨oc, vs, t, Heap.get?_push_of_some _ hoc, hd, hv⟩
    have hn : upd (upd H P (.tbl (ps ++ #[rawInt pos.line, rawInt pos.col, .ref c']))) c' (CodeO c' (X.env.qual ++ "<lambda>")) h'.objs.size = none := by
      have n1 : h'.objs.size ≠ c' := Nat.ne_of_gt hlt
      have n2 : h'.objs.size ≠ P := Nat.ne_of_gt (Nat.lt_of_lt_of_le (Heap.lt_size hP') hsz)
      rw [upd_ne n1, upd_ne n2]
      exact I.hok.fresh hsz
    exact h h'.objs.size c' ((X.mg "__name__").getD .none) ctv _ _ (.inr ⟨nC, nPc, rfl⟩) upd_same hn (told I1 hsz hn (Heap.get?_push_size _ rfl))
  | some cv =>
    obtain ⟨c', e, hco⟩ := ha pos cv hc
    subst e
    refine PySem.W.kla_makeFunctionHit (mg := X.mg) (c := c) (P := P) (ps := ps) (closure_ok hfree) I.ok.glob (I.mod.glob.keeps I.bk) hcode (TB.code.keeps I.bk) hP' ht hc bP fun ctv h' tk hx hsz => ?_
    have I1 : Inv X pins σ H { s with heap := h'.push (PySem.W.kla_obj "<lambda>" (X.env.qual ++ "<lambda>") params body scope (cloFrom X.env.cells scope.names []) ((X.mg "__name__").getD .none) c' ctv), toks := tk } := I.kept fun b o e => Heap.get?_push_of_some _ (hx b o e)
    exact h h'.objs.size c' ((X.mg "__name__").getD .none) ctv H _ (.inl rfl) hco (I.hok.fresh hsz) (told I1 hsz (I.hok.fresh hsz) (Heap.get?_push_size _ rfl))
/-- the lambda called -/
theorem lam_run {CX : CXT} {N ps fr : List Str} {params : Arguments} {body : Expr} {scope : Scope} {c' f : Addr} {pm ctv : Value} {A : Around} {k : Nat} {us : List Value} {vs : List V} {ws : List (Option V)} {Q : VK} {E : XK} (S : NScope N ps fr scope) (hr : Room (k + 1) A) (e0 : Env0 X.prog X.w X.K X.mg X.base A X.stack s H)
    (hf : H f = some (LamO f (lamObj X params body scope c' pm ctv))) (hc : H c' = some (CodeO c' (X.env.qual ++ "<lambda>"))) (C : CellsAt (cloFrom X.env.cells scope.names []) fr ws s.heap H) (r : Vals vs us) (hl : vs.length = ps.length)
    (hb : bindArgs (PySem.W.kla_fn "<lambda>" (X.env.qual ++ "<lambda>") params body scope (cloFrom X.env.cells scope.names []) pm (.ref c') ctv) ⟨us, []⟩ = pure (ps.zip us))
    (hbody : Room k (A.deeper (envF (lamF X params scope c') f s.heap.objs.size)) → best (ncx CX X.prog X.w X.K X.mg X.base N (lamF X params scope c') f A X.stack s H E) body (startF N vs ws) H Q) :
    codeAny (model X.prog X.w) A (.call (.ref f) ⟨us, []⟩) (CR CX X.stack X.prog X.w H s Q E) s := by
  have lim : s.heap.NoLimit := e0.mod.nolimit.keeps fun b o e => (e0.bs b o e).1
  obtain ⟨ho, _, _⟩ := e0.hok f _ hf
  obtain ⟨⟨oc, vs', t, h1, h2, h3⟩, _, _⟩ := e0.hok c' _ hc
  refine PySem.W.kla_callFunE hr.depth ho rfl S.co S.gen rfl ⟨c', oc, vs', t, rfl, h1, h2, h3⟩ ?_
  rw [hb]
  refine wpAny_pure (wpAny_newFunctionEnv S.nocell (fun ⟨n, _⟩ hy => S.par n (List.of_mem_zip hy).1) (fun h₁ hns hsb => ⟨lim.fresh _ hsb, ?_⟩) S.kind)
  show codeAny _ _ (.expr body (envF (lamF X params scope c') f s.heap.objs.size)) _ _
  have kp : ∀ b o, s.heap.get? b = some o → h₁.get? b = some o := fun b o e => hsb.extBut b o (Nat.ne_of_lt (Heap.lt_size e)) (Heap.get?_push_of_some _ e)
  have I : Inv (ncx CX X.prog X.w X.K X.mg X.base N (lamF X params scope c') f A X.stack s H E) [] (startF N vs ws) H { s with heap := h₁, toks := s.toks + (ps.zip us).length } := inv_startN (F := lamF X params scope c') S hr.hd e0 hl r C hns kp
  refine PySem.W.kla_codeExpr (wpAny_mono ((pe_best _ body).run [] _ (startF N vs ws) H Q I (hbody (hr.deeper _))) (fun v s' hq => ?_) fun e s' hq => hq)
  obtain ⟨w', H', J', rv, q⟩ := hq
  exact ⟨w', H', J'.os, J'.bare, J'.base, J'.hok, rv, q⟩
end
end Mi

/-! sorted(xs, key=lambda x: ..) with a captured name -/
namespace Mi
open PySem PySem.Spec PySem.Calls PyProof.Rows L2 NdefX
/-- a value that knows of tables of code objects -/
def Knows (T : List (Addr × Str)) (F : Hp) : Prop := ∀ p ∈ T, F p.1 = some (.tbl #[.str p.2 0])
theorem Knows.mono {T : List (Addr × Str)} {F F' : Hp} (h : Knows T F) (s : Sub F F') : Knows T F' := fun p hp => s _ _ (h p hp)
abbrev tTg (T : List (Addr × Str)) (t : Ty) : Ty := ⟨t.A, fun x v F m => t.rep x v F m ∧ Knows T F, fun a s => ⟨t.mono a.1 s, a.2.mono s⟩⟩
theorem im_tg {T : List (Addr × Str)} {t : Ty} (h : Imm t) : Imm (tTg T t) := fun a => h a.1
theorem flk_tg {T : List (Addr × Str)} {t : Ty} (h : FlK t) : FlK (tTg T t) := fun {x v F F' m} a s => ⟨h a.1 s, fun p hp => s _ _ (a.2 p hp) fun _ e => nomatch e⟩
section
variable {X : Cx} {N : List Str} {sc : Scope} {B : List Str} {k : Nat} {Γ : Ctx} {os os' : Os} {pos p p1 p2 p3 cpos apos : Pos} {e a b : Expr} {es : List Expr} {t u : Ty} {T : List (Addr × Str)}
theorem re_untag {m : SM (OT os) t.A} (h : RE X Γ os e (tTg T t) m) : RE X Γ os e t m := fun σ F M R H o W Q tk c w g q => h σ F M R H o W Q tk c w g (q.imp (fun x o1 z v F' M1 mm M' H' s w' p' g' r' => z v F' M1 mm M' H' s w' p' g' r'.1) fun _ _ z => z)
theorem re_tag {m : SM (OT os) t.A} (jt : Nat) {tt : Ty} {xt : tt.A} (h : RE X Γ os e t m) (hT : Γ[jt]? = some (some ⟨tTg T tt, xt⟩) := by rfl) : RE X Γ os e (tTg T t) m := fun σ F M R H o W Q tk c w g q => by
  obtain ⟨_, _, _, kn⟩ := c.2 jt _ _ hT
  exact h σ F M R H o W Q tk c w g (q.imp (fun x o1 z v F' M1 mm M' H' s w' p' g' r' => z v F' M1 mm M' H' s w' p' g' ⟨r', kn.mono s⟩) fun _ _ z => z)
end
/-! ### the plain function -/
section
variable {A : Type}
def keysO (mk : A → SM (OT []) Int) : List A → Option (List Int)
  | [] => some []
  | c :: r => match mk c () with
    | some (.ok k, _) => (keysO mk r).map (k :: ·)
    | _ => none
def sortN (xs : List A) (ks : List Int) : List A := ((xs.zip ks).mergeSort fun p q => decide (p.2 ≤ q.2)).map (·.1)
def sortO (mk : A → SM (OT []) Int) (xs : List A) : Option (List A) := (keysO mk xs).map (sortN xs)
theorem keysO_len {mk : A → SM (OT []) Int} : ∀ {xs : List A} {ks : List Int}, keysO mk xs = some ks → ks.length = xs.length
  | [], ks, h => by cases h; rfl
  | c :: r, ks, h => by
    unfold keysO at h
    split at h
    · cases e : keysO mk r with
      | none => rw [e] at h; cases h
      | some l => rw [e] at h; cases h; rw [List.length_cons, List.length_cons, keysO_len e]
    · cases h
theorem keysO_at {mk : A → SM (OT []) Int} : ∀ {xs : List A} {ks : List Int} {i : Nat} {y : A} {k : Int}, keysO mk xs = some ks → xs[i]? = some y → ks[i]? = some k → mk y () = some (.ok k, ())
  | [], _, _, _, _, _, e, _ => by simp at e
  | c :: r, ks, i, y, k, h, e1, e2 => by
    unfold keysO at h
    split at h
    · rename_i k' o' em
      cases e : keysO mk r with
      | none => rw [e] at h; cases h
      | some l =>
        rw [e] at h
        cases h
        cases i with
        | zero => simp at e1 e2; subst e1 e2; exact em
        | succ i => exact keysO_at e (by simpa using e1) (by simpa using e2)
    · cases h
end
theorem allR_pairs {t : Ty} {F : Hp} : ∀ {xs : List t.A} {vs : List V}, AllR t xs vs F → ∀ p ∈ xs.zip vs, t.rep p.1 p.2 F emp
  | [], vs, r, p, hp => by simp at hp
  | x :: xs, _, ⟨v, l, e, q, k⟩, p, hp => by
    subst e
    rw [List.zip_cons_cons] at hp
    rcases List.mem_cons.mp hp with z | z
    · subst z; exact q
    · exact allR_pairs k p z
theorem pairs_allR {t : Ty} {F : Hp} : ∀ {l : List (t.A × V)}, (∀ p ∈ l, t.rep p.1 p.2 F emp) → AllR t (l.map (·.1)) (l.map (·.2)) F
  | [], _ => rfl
  | p :: l, h => ⟨p.2, l.map (·.2), rfl, h p (List.mem_cons_self ..), pairs_allR fun q hq => h q (List.mem_cons_of_mem _ hq)⟩
theorem allR_len {t : Ty} {F : Hp} : ∀ {xs : List t.A} {vs : List V}, AllR t xs vs F → vs.length = xs.length
  | [], vs, r => by have r' : vs = [] := r; rw [r']; rfl
  | x :: xs, _, ⟨v, l, e, q, k⟩ => by rw [e, List.length_cons, List.length_cons, allR_len k]
theorem allR_sort {t : Ty} {F : Hp} {xs : List t.A} {vs : List V} {ks : List Int} (r : AllR t xs vs F) (hk : ks.length = xs.length) : AllR t (sortN xs ks) (sortK vs ks) F := by
  have hl := allR_len r
  let T : List ((t.A × V) × Int) := (xs.zip vs).zip ks
  let S := T.mergeSort fun p q => decide (p.2 ≤ q.2)
  have e1 : sortN xs ks = (S.map (·.1)).map (·.1) := by
    have h1 : (T.mergeSort fun p q => decide (p.2 ≤ q.2)).map (fun p => (p.1.1, p.2)) = (T.map fun p => (p.1.1, p.2)).mergeSort fun p q => decide (p.2 ≤ q.2) := List.map_mergeSort (fun _ _ _ _ => rfl)
    have h2 : T.map (fun p => (p.1.1, p.2)) = xs.zip ks := by
      have : T.map (fun p => (p.1.1, p.2)) = ((xs.zip vs).map (·.1)).zip ks := by rw [List.zip_map_left]; rfl
      rw [this, ← List.unzip_fst, List.unzip_zip hl.symm]
    unfold sortN
    rw [← h2, ← h1, List.map_map, List.map_map]
    rfl
  have e2 : sortK vs ks = (S.map (·.1)).map (·.2) := by
    have h1 : (T.mergeSort fun p q => decide (p.2 ≤ q.2)).map (fun p => (p.1.2, p.2)) = (T.map fun p => (p.1.2, p.2)).mergeSort fun p q => decide (p.2 ≤ q.2) := List.map_mergeSort (fun _ _ _ _ => rfl)
    have h2 : T.map (fun p => (p.1.2, p.2)) = vs.zip ks := by
      have : T.map (fun p => (p.1.2, p.2)) = ((xs.zip vs).map (·.2)).zip ks := by rw [List.zip_map_left]; rfl
      rw [this, ← List.unzip_snd, List.unzip_zip hl.symm]
    unfold sortK
    rw [← h2, ← h1, List.map_map, List.map_map]
    rfl
  rw [e1, e2]
  refine pairs_allR fun p hp => ?_
  obtain ⟨q, hq, rfl⟩ := List.mem_map.mp hp
  have hq' : q ∈ T := (List.mergeSort_perm T _).mem_iff.mp hq
  exact allR_pairs r _ (List.of_mem_zip hq').1
end Mi

namespace Mi
open PySem PySem.Spec PySem.Calls PyProof.Rows L2 NdefX
def lamScB (N ps fr : List Str) (sc : Scope) : Bool := nscB N ps fr sc && ((sc.names.all fun y => decide (sc.names.lookup y.1 = some y.2)) && sc.names.all fun y => (!(y.1 == ("__debug__" : Str)) && (!(y.1 == ("__classdict__" : Str)) && decide (y.1 ≠ "__name__"))))
theorem lamScB_ok {N ps fr : List Str} {sc : Scope} (h : lamScB N ps fr sc = true) : NScope N ps fr sc ∧ (∀ y ∈ sc.names, sc.names.lookup y.1 = some y.2) ∧ ∀ y ∈ sc.names, (y.1 == ("__debug__" : Str)) = false ∧ (y.1 == ("__classdict__" : Str)) = false ∧ y.1 ≠ "__name__" := by
  unfold lamScB at h
  rw [Bool.and_eq_true, Bool.and_eq_true] at h
  obtain ⟨h1, h2, h3⟩ := h
  refine ⟨nscope_by h1, fun y hy => of_decide_eq_true (List.all_eq_true.mp h2 y hy), fun y hy => ?_⟩
  have z := List.all_eq_true.mp h3 y hy
  simpa only [Bool.and_eq_true, Bool.not_eq_true', decide_eq_true_eq] using z
section
variable {X : Cx} {N : List Str} {sc : Scope} {B : List Str} {k : Nat} {Γ : Ctx} {os os' : Os} {pos p p1 p2 p3 cpos apos lpos kpos : Pos} {e a b : Expr} {es : List Expr} {t u : Ty}
theorem xo_lam {P : Program} {w : World} {K : PySem.W.Frag} {mg : Str → Option Value} {base : Heap} {ps fr : List Str} {F : NF} {f : Addr} {A : Around} {outer : List Env} {s : Shared} {H : Hp} {E : XK} (S : NScope N ps fr F.scope) (hu : ∀ y ∈ F.scope.names, F.scope.names.lookup y.1 = some y.2)
    (hd : ∀ y ∈ F.scope.names, (y.1 == ("__debug__" : Str)) = false ∧ (y.1 == ("__classdict__" : Str)) = false ∧ y.1 ≠ "__name__") (hB : ∀ (i : Nat) (x : Str), B[i]? = some x → mg x = none)
    (hr : Room k (A.deeper (envF F f s.heap.objs.size))) : XOk (ncx (L2.CX P w) P w K mg base N F f A outer s H E) N F.scope B k := by
  have kind : ∀ (x : Str) (kd : NameKind), F.scope.names.lookup x = some kd → (envF F f s.heap.objs.size).kindOf x = some kd := fun x kd h => h
  refine ⟨rfl, fun j x kd h => hd _ (List.mem_of_getElem? h), fun j x kd h hk => ?_, fun j x h => ?_, fun j x kd h hk => ?_, fun j x kd h hk => ?_, fun j x kd h _ => hu _ (List.mem_of_getElem? h), S.kind, S.nd, hB, hr, rfl⟩
  · have e := hu _ (List.mem_of_getElem? h)
    cases kd <;> first | exact .inl e | exact .inr (.inl e) | exact .inr (.inr e) | cases hk
  · exact kind x _ (hu _ (List.mem_of_getElem? h))
  · have e := hu _ (List.mem_of_getElem? h)
    cases kd with
    | «local» => exact ⟨.inl e, .inr e⟩
    | cell => exact absurd rfl (S.nocell _ (List.mem_of_getElem? h))
    | _ => cases hk
  · have e := hu _ (List.mem_of_getElem? h)
    rcases hk with rfl | rfl
    · exact .inl e
    · exact .inr e
theorem Good.tab {F M H : Hp} {P : Addr} {q : Str} (g : Good F M H) (hF : F P = some (.tbl #[.str q 0])) : TabF F H P q := by
  obtain ⟨q', e, z⟩ := g.f P _ hF
  have : q = q' := by simpa using e
  rw [this]; exact z
/-- what stands in H is told -/
theorem Good.addF {F M H : Hp} {a : Addr} {φ : Heap → Prop} (g : Good F M H) (h : H a = some (.ext φ)) : ∃ F1, Sub F F1 ∧ Good F1 M H ∧ F1 a = some (.ext φ) := by
  cases e : F a with
  | some o =>
    refine ⟨F, .refl F, g, ?_⟩
    cases o with
    | tbl ps =>
      obtain ⟨q, _, ps', e1, _⟩ := g.f a _ e
      rw [h] at e1; cases e1
    | _ =>
      have z := g.f a _ e
      have z' : H a = _ := z
      rw [h] at z'
      rw [e]
      exact z'.symm
  | none =>
    have hM : M a = none := by
      cases z : M a with
      | none => rfl
      | some o =>
        have z1 := g.m a o z
        rw [h] at z1
        cases z1
        exact absurd rfl ((g.nt a _ z).2 _)
    refine ⟨upd F a (.ext φ), sub_upd e, ⟨fun b o eb => ?_, g.m, fun b => ?_, g.nt⟩, upd_same⟩
    · by_cases hb : b = a
      · subst hb; rw [upd_same] at eb; cases eb; exact HF.of h fun _ z => nomatch z
      · rw [upd_ne hb] at eb; exact (g.f b o eb).up (sub_upd e) rfl
    · by_cases hb : b = a
      · subst hb; exact .inr hM
      · rw [upd_ne hb]; exact g.dis b
/-- the mark after the lambda is made -/
theorem good_step {F M H H1 : Hp} {P c' : Addr} {ps : Array Value} {q : Str} {ps0 : Pos} (g : Good F M H) (hF : F P = some (.tbl #[.str q 0])) (hP : H P = some (.tbl ps)) (ht : TriplesOk ps.toList) (st : TabStep H H1 P ps q ps0 c') (hc : H1 c' = some (CodeO c' q)) :
    ∃ F1, Sub F F1 ∧ Good F1 M H1 ∧ F1 c' = some (CodeO c' q) := by
  rcases st with rfl | ⟨nC, nP, rfl⟩
  · exact g.addF hc
  · have fC : F c' = none := g.fnone nC
    have mC : M c' = none := g.m.none nC
    have mP : M P = none := (g.dis P).resolve_left (by rw [hF]; exact fun z => nomatch z)
    have sF := sub_upd (o := CodeO c' q) fC
    have hP1 : upd (upd H P (.tbl (ps ++ #[rawInt ps0.line, rawInt ps0.col, .ref c']))) c' (CodeO c' q) P = some (.tbl (ps ++ #[rawInt ps0.line, rawInt ps0.col, .ref c'])) := by rw [upd_ne (Ne.symm nP), upd_same]
    have eL : (ps ++ #[rawInt ps0.line, rawInt ps0.col, .ref c']).toList = ps.toList ++ [rawInt ps0.line, rawInt ps0.col, .ref c'] := by simp
    refine ⟨_, sF, ⟨fun a o ea => ?_, fun a o ea => ?_, fun a => ?_, g.nt⟩, upd_same⟩
    · by_cases h1 : a = c'
      · subst h1; rw [upd_same] at ea; cases ea; exact HF.of upd_same fun _ z => nomatch z
      · rw [upd_ne h1] at ea
        by_cases h2 : a = P
        · subst h2
          rw [hF] at ea
          cases ea
          obtain ⟨ps', e1, e2, e3⟩ := g.tab hF
          rw [hP] at e1
          cases e1
          refine ⟨q, rfl, _, hP1, by rw [eL]; exact PySem.TriplesOk_snoc _ _ _ _ ht, fun p' cv hcv => ?_⟩
          rw [eL] at hcv
          rcases LamX.among_app _ ht hcv with z | z
          · obtain ⟨c0, z1, z2⟩ := e3 p' cv z
            exact ⟨c0, z1, sF _ _ z2⟩
          · exact ⟨c', z, upd_same⟩
        · exact (g.f a o ea).up sF (by rw [upd_ne h1, upd_ne h2])
    · rw [upd_ne (fun z => by rw [z, mC] at ea; cases ea), upd_ne (fun z => by rw [z, mP] at ea; cases ea)]
      exact g.m a o ea
    · by_cases h1 : a = c'
      · subst h1; exact .inr mC
      · rw [upd_ne h1]; exact g.dis a
/-- what sorted(xs, key=lambda ..) asks -/
def tSortL (X : Cx) (P : Addr) (params : Arguments) (body : Expr) (scope : Scope) (lpos : Pos) (es : List Expr) : TE := fun σ H Q => bestA X es σ H fun vs H1 => ∃ (l : Addr) (xs : List V) (ps : Array Value), vs = [.ref l] ∧ SqL X.K H1 l xs ∧ H1 P = some (.tbl ps) ∧ TriplesOk ps.toList ∧
  (∀ (pos : Pos) (cv : Value), codeAmong pos ps.toList = some cv → ∃ c, cv = .ref c ∧ H1 c = some (CodeO c (X.env.qual ++ "<lambda>"))) ∧
  ∀ (f c' : Addr) (pm ctv : Value) (H2 : Hp), TabStep H1 H2 P ps (X.env.qual ++ "<lambda>") lpos c' → H2 c' = some (CodeO c' (X.env.qual ++ "<lambda>")) → H2 f = none →
    ∃ (ks : List Int) (J : Hp → Prop), ks.length = xs.length ∧ J (upd H2 f (LamO f (lamObj X params body scope c' pm ctv))) ∧ SqL X.K (upd H2 f (LamO f (lamObj X params body scope c' pm ctv))) l xs ∧
      (∀ (pins : List (Addr × Obj)) (i : Nat) (v : V) (u : Value) (k : Int) (s1 : Shared) (H3 : Hp), xs[i]? = some v → RelV v u → ks[i]? = some k → Inv X pins σ H3 s1 → J H3 →
        codeAny (model X.prog X.w) X.A.in1.in1 (.call (.ref f) ⟨[u], []⟩) (CR (L2.CX X.prog X.w) X.stack X.prog X.w H3 s1 (fun v H2 => v = .int k ∧ J H2) fun _ _ _ => False) s1) ∧
      ∀ (H3 : Hp) (p : Addr), J H3 → H3 p = none → Q (.ref p) (upd H3 p (.lst (sortK xs ks)))
theorem pe_sortL {c P : Addr} {params : Arguments} {body : Expr} {scope : Scope} (hu : X.A.in1.in1.units < cLine) (hg : Gl X "sorted") (hm : X.mg "sorted" = none) (TB : LamX.TabB X.base X.mg c P) (hcode : X.env.code = .ref c) (hfree : X.Ok → ∀ y ∈ scope.names, y.2 = .free → ∃ c, X.env.cells.lookup y.1 = some c) (hdef : defaultsOf params X.env = ([], []) := by rfl)
    (he : backTo pos (starEach [e] X.env) = (false, eval e X.env) :: backTo pos (starEach [] X.env) := by rfl) (hpl : (backTo pos (starEach [e] X.env)).any (·.1) = false := by rfl)
    (hall : (backToKw pos (keywordEach [⟨some "key", .Lambda params body scope lpos, kpos⟩] X.env)).all (·.1.isSome) = true := by rfl) (hnone : (backToKw pos (keywordEach [⟨some "key", .Lambda params body scope lpos, kpos⟩] X.env)).any (·.1.isNone) = false := by rfl)
    (hks : (backToKw pos (keywordEach [⟨some "key", .Lambda params body scope lpos, kpos⟩] X.env)).filterMap (·.1) = [Str.ofString "key"] := by rfl) :
    PE X (.Call (.Name "sorted" p) [e] [⟨some "key", .Lambda params body scope lpos, kpos⟩] pos) (tSortL X P params body scope lpos [e]) := by
  refine ⟨fun pins s σ H Q I h => ?_⟩
  refine wpAny_Call_Name_kw (ld_blt I hg hm boot_sorted ?_ (by decide) (by decide))
  refine PyProof.Rows.callWith_kw (thn ((pa_best X [e]).run pos pins s σ H _ I h) fun us s1 ⟨vs, H1, I1, r1, l, xs, ps, ev, hs, hP, ht, ha, q⟩ => ?_) he hpl hall hnone
  subst ev
  obtain rfl := Vals.ref1 r1
  rw [hks]
  show wpAny _ _ (evalAll ((do let v ← eval (.Lambda params body scope lpos) X.env; standAt pos; pure v) :: [])) _ _ s1
  refine wpAny_evalAll_cons (wpAny_bind (lam_make3 I1 TB hcode hP ht ha hdef (hfree I1.ok) fun f c' pm ctv H2 s2 st hc hf I2 => wpAny_bind (wpAny_standAt (wpAny_pure (wpAny_evalAll_nil ?_)))))
  obtain ⟨ks, J, hl, hJ, hs2, turn, fin⟩ := q f c' pm ctv H2 st hc hf
  obtain ⟨its, rv, hlist, hz⟩ := I2.list hs2
  have hlen : ks.length = its.length := by rw [hl, rv.length]
  refine sorted_keyI I2 hlist.isList rv hlen (by rw [← rv.length]; exact hz) hu J hJ (fun i u k s1 H1 hi hk I3 hJ3 => ?_) fun H3 p s' hJ3 hn I3 => ⟨.ref p, _, I3, rfl, fin H3 p hJ3 hn⟩
  obtain ⟨v, hv, rvu⟩ : ∃ v, xs[i]? = some v ∧ RelV v u := by
    have hlt : i < xs.length := by rw [rv.length]; exact (List.getElem?_eq_some_iff.mp hi).1
    obtain ⟨u', h1, h2⟩ := rv.get (List.getElem?_eq_getElem hlt)
    rw [hi] at h1
    cases h1
    exact ⟨_, List.getElem?_eq_getElem hlt, h2⟩
  exact turn pins i v u k s1 H1 hv rvu hk I3 hJ3
end
end Mi

namespace Mi
open PySem PySem.Spec PySem.Calls PyProof.Rows L2 NdefX
section
variable {X : Cx} {N : List Str} {sc : Scope} {B : List Str} {k : Nat} {Γ : Ctx} {os os' : Os} {pos p p1 p2 p3 cpos apos lpos kpos : Pos} {e a b : Expr} {es : List Expr} {t u : Ty}
theorem re_sortK (xo : XOk X N sc B (k + 4)) {Lks : Md → Prop} (lks : Lks X.md) {T : List (Addr × Str)} {c P : Addr} {q : Str} (hPT : (P, q) ∈ T) (TB : LamX.TabB X.base X.mg c P) (hcode : X.env.code = .ref c) (hq : X.env.qual ++ "<lambda>" = q) {m : SM (OT os) (AT [tLst t])} (ha : RA X Γ os [e] [tLst t] m)
    (jt : Nat) {tt : Ty} {xt : tt.A} (j jj : Nat) {t0 : Ty} {x0 : t0.A} {params : Arguments} {body : Expr} {scope : Scope} {one nm : Str} {kd : NameKind} {mk : t.A → SM (OT []) Int}
    (hb : ∀ Xn, Lks Xn.md → XOk Xn [one, nm] scope B k → XS Xn → ∀ y, RE Xn [some ⟨t, y⟩, some ⟨t0, x0⟩] [] body tInt (mk y)) (ga ma : Nat)
    (hs : lamScB [one, nm] [one] [nm] scope = true) (hcp : ∀ (q : Str) (cl : List (Str × Addr)) (pm cv ctv u : Value), bindArgs (PySem.W.kla_fn "<lambda>" q params body scope cl pm cv ctv) ⟨[u], []⟩ = pure [(one, u)])
    (hT : Γ[jt]? = some (some ⟨tTg T tt, xt⟩) := by rfl) (hJ : Γ[j]? = some (some ⟨t0, x0⟩) := by rfl) (hN : N[j]? = some nm := by rfl) (hjj : sc.names[jj]? = some (nm, kd) := by rfl) (hkd : kd = .cell ∨ kd = .free := by first | exact .inl rfl | exact .inr rfl)
    (hg : sc.names[ga]? = some (gI "sorted") := by rfl) (hm : B[ma]? = some "sorted" := by rfl) (hdef : defaultsOf params X.env = ([], []) := by rfl)
    (he : backTo pos (starEach [e] X.env) = (false, eval e X.env) :: backTo pos (starEach [] X.env) := by rfl) (hpl : (backTo pos (starEach [e] X.env)).any (·.1) = false := by rfl)
    (hall : (backToKw pos (keywordEach [⟨some "key", .Lambda params body scope lpos, kpos⟩] X.env)).all (·.1.isSome) = true := by rfl) (hnone : (backToKw pos (keywordEach [⟨some "key", .Lambda params body scope lpos, kpos⟩] X.env)).any (·.1.isNone) = false := by rfl)
    (hks : (backToKw pos (keywordEach [⟨some "key", .Lambda params body scope lpos, kpos⟩] X.env)).filterMap (·.1) = [Str.ofString "key"] := by rfl) :
    RE X Γ os (.Call (.Name "sorted" p) [e] [⟨some "key", .Lambda params body scope lpos, kpos⟩] pos) (tOwn t) (SM.bind m fun x => SM.lift (sortO mk x.1)) := by
  obtain ⟨S, hu, hd⟩ := lamScB_ok hs
  have kin := xo.ce jj nm kd hjj hkd
  have hfr : ∀ y ∈ scope.names, y.2 = .free → X.env.scope.names.lookup y.1 = some .cell ∨ X.env.scope.names.lookup y.1 = some .free := fun y hy ey => by
    have := S.free y hy ey
    rw [List.mem_singleton.mp this]; exact kin
  have hfree : X.Ok → ∀ y ∈ scope.names, y.2 = .free → ∃ c, X.env.cells.lookup y.1 = some c := fun ok y hy ey => (hfr y hy ey).elim (fun z => ok.has _ (.inl z)) fun z => ok.has _ (.inr z)
  have room2 : Room (k + 2) X.A.in1.in1 := xo.room.in1.in1
  intro σ F M R H o W Q tk ctx w g want
  refine ⟨_, pe_sortL (P := P) (by have := room2.un; omega) (xo.gl ga _ hg) (xo.fr ma _ hm) TB hcode hfree hdef he hpl hall hnone hks, ?_⟩
  refine ha σ F M R H o W _ tk ctx w g (want.bind.imp (fun x o2 w2 => ?_) fun _ _ z => z)
  intro vs F2 M2 H2 s2 ow2 g2 r2
  obtain ⟨v0, us0, e1, ⟨_, l, xs, el, fl, rx⟩, e2⟩ := r2
  have e2' : us0 = [] := e2
  subst e2' e1 el
  subst hq
  obtain ⟨vt, _, _, kn⟩ := ctx.2 jt _ _ hT
  have fP := kn _ hPT
  obtain ⟨v1, hs1, r1⟩ := ctx.2 j _ _ hJ
  have w3 : Want (SM.lift (sortO mk x.1) o2) (NormE os (tOwn t) σ F R Q) (ExcE X os σ F R W) := w2
  unfold sortO at w3
  cases hk : keysO mk x.1 with
  | none => rw [hk] at w3; exact w3.elim
  | some ks =>
    rw [hk] at w3
    have w4 : NormE os (tOwn t) σ F R Q (sortN x.1 ks) o2 := w3
    have hlk := keysO_len hk
    have hlx := allR_len rx
    obtain ⟨ps, hP, ht, ha'⟩ := g2.tab (s2 _ _ fP)
    refine ⟨l, xs, ps, rfl, .inl (.inl (g2.f _ _ fl)), hP, ht, fun pos cv hc => ?_, fun f c' pm ctv H3 st hc hf => ?_⟩
    · obtain ⟨c, e1, e2⟩ := ha' pos cv hc
      exact ⟨c, e1, g2.f c _ e2⟩
    obtain ⟨F3, s3, g3, fc⟩ := good_step g2 (s2 _ _ fP) hP ht st hc
    have s4 := sub_upd (o := LamO f (lamObj X params body scope c' pm ctv)) (g3.fnone hf)
    have g4 := g3.newF (o := LamO f (lamObj X params body scope c' pm ctv)) hf (fun _ z => nomatch z)
    have f4 : upd F3 f (LamO f (lamObj X params body scope c' pm ctv)) f = some (LamO f (lamObj X params body scope c' pm ctv)) := upd_same
    have fc4 := s4 _ _ fc
    have s24 := s3.trans s4
    generalize upd F3 f (LamO f (lamObj X params body scope c' pm ctv)) = F4 at *
    refine ⟨ks, fun H' => ∃ F', Sub F4 F' ∧ Good F' M2 H', by rw [hlk, hlx], ⟨F4, .refl F4, g4⟩, .inl (.inl (g4.f _ _ (s24 _ _ fl))), fun pins i v u k' s1 H5 hi rvu hki I5 hJ5 => ?_, fun H5 p hJ5 hn => ?_⟩
    · obtain ⟨F5, s5, g5⟩ := hJ5
      obtain ⟨y, hy, ry⟩ : ∃ y, x.1[i]? = some y ∧ t.rep y v F2 emp := by
        have hlt : i < xs.length := (List.getElem?_eq_some_iff.mp hi).1
        have hlt' : i < x.1.length := by rw [← hlx]; exact hlt
        refine ⟨x.1[i], List.getElem?_eq_getElem hlt', ?_⟩
        have hz : (x.1.zip xs)[i]? = some (x.1[i], v) := by rw [List.getElem?_zip_eq_some]; exact ⟨List.getElem?_eq_getElem hlt', hi⟩
        exact allR_pairs rx _ (List.mem_of_getElem? hz)
      have hfr2 : ∀ y ∈ [nm], (y, NameKind.free) ∈ scope.names := fun y hy => by
        rw [List.mem_singleton.mp hy]; exact PySem.mem_of_lookup (S.frk nm (by simp))
      have C : CellsAt (cloFrom X.env.cells scope.names []) [nm] ([j].map (slotAt σ)) s1.heap H5 := cells_of I5 (Caps.made I5.ok hfr hfr2 (by rw [List.map_singleton, List.map_singleton, xo.nN, hN]))
      have hsl : slotAt σ j = some v1 := slotAt_of hs1
      refine lam_run (N := [one, nm]) (ps := [one]) (fr := [nm]) (k := k) (ws := [slotAt σ j]) (vs := [v]) (us := [u]) S (room2.mono (by omega)) I5.env0.in1.in1 (g5.f _ _ (s5 _ _ f4)) (g5.f _ _ (s5 _ _ fc4)) C (.cons rvu .nil) rfl (hcp _ _ _ _ _ _) fun hr => ?_
      refine hb (ncx (L2.CX X.prog X.w) X.prog X.w X.K X.mg X.base [one, nm] (lamF X params scope c') f X.A.in1.in1 X.stack s1 H5 fun _ _ _ => False) lks (xo_lam (F := lamF X params scope c') S hu hd xo.fr hr) ⟨passes_of rfl, rfl, rfl⟩ y (startF [one, nm] [v] [slotAt σ j]) F5 M2 M2 H5 () (fun _ _ _ _ => False) _ (takes_of rfl rfl rfl rfl) ⟨rfl, fun i' t' x' ei => ?_⟩ rfl g5 ?_
      · rcases i' with _ | _ | i'
        · have e' : some (some (⟨t, y⟩ : (t : Ty) × t.A)) = some (some ⟨t', x'⟩) := ei
          obtain ⟨rfl, e2⟩ := Sigma.mk.inj (Option.some.inj (Option.some.inj e'))
          cases e2
          exact ⟨v, rfl, t.mono ry (s24.trans s5)⟩
        · have e' : some (some (⟨t0, x0⟩ : (t : Ty) × t.A)) = some (some ⟨t', x'⟩) := ei
          obtain ⟨rfl, e2⟩ := Sigma.mk.inj (Option.some.inj (Option.some.inj e'))
          cases e2
          exact ⟨v1, by rw [hsl]; rfl, t0.mono r1 (s2.trans (s24.trans s5))⟩
        · cases ei
      · rw [keysO_at hk hy hki]
        intro v3 F6 M6 mm M7 H7 s6 ow6 sp6 g6 r6
        have e1 : M6 = M2 := ow6
        obtain ⟨e2, e3⟩ := r6
        subst e1 e2
        have e4 := sp6.emp_l
        subst e4
        exact ⟨e3, F6, s5.trans s6, g6⟩
    · obtain ⟨F5, s5, g5⟩ := hJ5
      obtain ⟨g6, sp⟩ := g5.newM (o := .lst (sortK xs ks)) hn
      exact w4 (.ref p) F5 M2 _ _ _ (s2.trans (s24.trans s5)) (ow2.mono (s24.trans s5)) sp g6 ⟨p, _, rfl, rfl, allR_sort (rx.mono (s24.trans s5)) hlk⟩
end
end Mi

namespace Mi
open PySem PySem.Spec PyProof.Rows L2
/-! ### what is told of defs' tables -/
def tabsY (g : Addr → Option Obj) (tf : List He.Defn) (K : PySem.W.Frag) : Bool := He.tabsB g tf K && decide ((tf.map fun p => (He.cT K p).2).Nodup)
structure SaysY (fa : List He.Fa) (fn : List He.DefD) (pr : List PrD) (cv : List CvD) (tf : List He.Defn) (h : Heap) (K : PySem.W.Frag) : Prop where
  x : SaysX fa fn pr cv K
  hd : ∀ p ∈ tf, PySem.W.codeHdIn K (He.cT K p).1 (He.cT K p).2 = true
  out : ∀ p ∈ tf, K.lookup (He.cT K p).2 = none
  empty : ∀ p ∈ tf, h.get? (He.cT K p).2 = some { cls := .none, data := .fields #[] }
  nd : (tf.map fun p => (He.cT K p).2).Nodup
abbrev AlY : Type := AlX × Bool
def obsYG (n : Nat) (fa : List He.Fa) (fn : List He.DefD) (pr : List PrD) (cv : List CvD) (tf : List He.Defn) (g : Addr → Option Obj) : AlY := (obsX fa fn pr cv (He.frT g (cStatics :: He.asD g n)), tabsY g tf (He.frT g (cStatics :: He.asD g n)))
def valY (fn : List He.DefD) (pr : List PrD) : AlY := (valX fn pr, true)
theorem saysY_of {fa : List He.Fa} {fn : List He.DefD} {pr : List PrD} {cv : List CvD} {tf : List He.Defn} {h : Heap} {as : List Addr} (e : (obsX fa fn pr cv (He.frT h.get? as), tabsY h.get? tf (He.frT h.get? as)) = valY fn pr) : SaysY fa fn pr cv tf h (He.frT h.get? as) := by
  have e1 : obsX fa fn pr cv (He.frT h.get? as) = valX fn pr := congrArg (fun z : AlY => z.1) e
  have e2 : tabsY h.get? tf (He.frT h.get? as) = true := congrArg (fun z : AlY => z.2) e
  unfold tabsY at e2
  obtain ⟨h2, h3⟩ := Bool.and_eq_true_iff.mp e2
  have key : ∀ p ∈ tf, PySem.W.codeHdIn (He.frT h.get? as) (He.cT (He.frT h.get? as) p).1 (He.cT (He.frT h.get? as) p).2 = true ∧ ∃ o, h.get? (He.cT (He.frT h.get? as) p).2 = some o ∧ He.emptyTab o = true := fun p hp => by
    obtain ⟨h3, h4⟩ := Bool.and_eq_true_iff.mp (List.all_eq_true.mp h2 p hp)
    refine ⟨h3, ?_⟩
    cases q : h.get? (He.cT (He.frT h.get? as) p).2 with
    | none => rw [q] at h4; cases h4
    | some o => rw [q] at h4; exact ⟨o, rfl, h4⟩
  exact ⟨e1, fun p hp => (key p hp).1, fun p hp => by
    obtain ⟨_, o, q, z⟩ := key p hp
    exact He.frT_none q z, fun p hp => by
    obtain ⟨_, o, q, z⟩ := key p hp
    rw [q, He.emptyTab_eq z], of_decide_eq_true h3⟩
def hookY (n : Nat) (fa : List He.Fa) (fn : List He.DefD) (pr : List PrD) (cv : List CvD) (tf : List He.Defn) : PySem.W.Hook where
  α := AlY
  obs := fun sh => obsYG n fa fn pr cv tf sh.heap.get?
  val := fun _ => valY fn pr
  says := fun _ hp => ∃ K : PySem.W.Frag, K.In hp ∧ SaysY fa fn pr cv tf hp K
  of := fun _ _ eq => ⟨_, He.frT_in, saysY_of eq⟩
  keeps := fun _ _ _ ⟨K, kin, c⟩ kp => ⟨K, PySem.W.Frag.In.keeps kin kp, ⟨c.x, c.hd, c.out, fun p hp => kp _ _ (c.empty p hp), c.nd⟩⟩
theorem obsY_eq {n : Nat} {fa : List He.Fa} {fn : List He.DefD} {pr : List PrD} {cv : List CvD} {tf : List He.Defn} {g : Addr → Option Obj} {sh : Shared} (h : ∀ a, g a = sh.heap.get? a) : obsYG n fa fn pr cv tf g = (hookY n fa fn pr cv tf).obs sh := by
  show _ = obsYG n fa fn pr cv tf sh.heap.get?
  rw [show g = sh.heap.get? from funext h]
/-! ### a def that holds a lambda -/
theorem code_at {K : PySem.W.Frag} {x qual : Str} {params : Arguments} {body : List Stmt} {scope : Scope} {p : He.Defn} {fd : FuncData} (F : FunD K x qual params body scope [] [] (He.fAd K p) fd) : ∃ (oc : Value) (od : Option Addr) (dV kV doc pm : Value) (an : Option Addr) (ct : Value) (osl : Array (Option Value)),
    fd = PySem.W.fnOf x qual params body scope dV kV doc pm an (.ref (He.cT K p).1) ct ∧ K.lookup (He.fAd K p) = some ⟨oc, od, .func fd, osl⟩ ∧ PySem.W.codeIn K (.ref (He.cT K p).1) qual = true := by
  obtain ⟨oc, od, dV, kV, doc, pm, an, cdv, ct, osl, e, lk, hcd, _, _⟩ := F.ex
  obtain ⟨c, rfl⟩ := He.codeIn_ref hcd
  have e2 : He.codeOf K p = c := He.codeOf_eq lk (by rw [e])
  have e3 : (He.cT K p).1 = c := e2
  rw [e3]
  exact ⟨oc, od, dV, kV, doc, pm, an, ct, osl, e, lk, hcd⟩
section
variable {M : Md} {x qual : Str} {params : Arguments} {body : List Stmt} {scope : Scope} {fd : FuncData} {N ps : List Str} {B : List Str} {k : Nat}
theorem fn_PT {dp : He.Defn} (F : FunD M.K x qual params body scope [] [] (He.fAd M.K dp) fd) {qq : Str} (hqq : ∀ L f cdv, (envOfC qual scope L f cdv).qual ++ "<lambda>" = qq) {Lks : Md → Prop} (lks : Lks M) {ts : List Ty} {tr : Ty} {β : Type} {Γn : β → Ctx} {osn : Os} {m : AT ts → OT [] → OutT ⟨[], [], tr⟩ LC.none β osn} {z : Option tr.A}
    (hB : ∀ (i : Nat) (x : Str), B[i]? = some x → M.mg x = none) (hsc : fnScB N ps scope = true) (hl : ts.length = ps.length)
    (hb : ∀ X : Cx, X.env.code = .ref (He.cT M.K dp).1 → X.env.qual ++ "<lambda>" = qq → Lks X.md → XOk X N scope B k → XS X → ∀ x, RB X ⟨[], [], tr⟩ LC.none (argCtx ts x ++ List.replicate (N.length - ts.length) none) [] body Γn osn (m x))
    (hz : ∀ y, z = some y → ∀ F, tr.rep y .non F emp) :
    FnOk M.P M.w M.K M.mg M.base (L2.CX M.P M.w) (k + 1) (He.fAd M.K dp) fd ps (spP M.mg ts tr fun x => runZ z (m x ())) := by
  obtain ⟨S, hu, hd⟩ := fnScB_ok hsc
  obtain ⟨oc, od, dV, kV, doc, pm, an, ct, osl, rfl, lk, hcd⟩ := code_at F
  refine fn_of lk hcd S (fun vs H Q E h => ?_) fun A outer s H vs Q E hr h => ?_
  · obtain ⟨_, _, _, h, _⟩ := h
    rw [h.length, hl]
  · obtain ⟨x, F, R, ha, g, h⟩ := h
    refine ⟨_, pss_best _ body, ?_⟩
    have c := ctx_args (n := N.length - vs.length) ha
    have hlen := ha.length
    rw [hlen] at c
    refine hb (cxOf (L2.CX M.P M.w) M.P M.w M.K M.mg M.base N qual scope (He.fAd M.K dp) (.ref (He.cT M.K dp).1) A outer s H E) rfl (hqq _ _ _) lks (xo_body S hu hd hB hr) xs_body x (L2.start N vs) F R R H () (fun cls d _ H => E cls d H) _ takes_body ?_ rfl g ?_
    · unfold L2.start
      rw [hlen]
      exact c
    · revert h
      show (match runZ z (m x ()) with
        | none => False
        | some (.ok y) => _
        | some (.error ex) => _) → WantS _ _ _ _ _ _ _ _ _ _ (m x ())
      cases q : m x () with
      | none => exact fun h => h.elim
      | some r =>
        cases r with
        | nxt n =>
          cases z with
          | none => exact fun h => h.elim
          | some y =>
            intro h σ' F' M' H' s' k' c' w' g'
            obtain ⟨M0, s0, w0⟩ := (dropAll osn).own w'
            have w0' : M0 = R := w0
            subst w0'
            exact h .non F' emp _ H' s' (sep_emp_l _) (g'.less s0) (hz y rfl F')
        | brk n => exact fun h => h.elim
        | cnt n => exact fun h => h.elim
        | ret y p =>
          intro h v σ' F' M1 mm M' H' s' k' w' p' g' r'
          have e : M1 = R := w'
          subst e
          exact h v F' mm M' H' s' p' g' r'
        | exc e p =>
          intro h cls d σ' F' M' H' s' k' w' g' x'
          have e : M' = R := w'
          subst e
          exact h cls d F' H' s' g' x'
end
/-! ### the start -/
theorem lookup_mem' {β : Type} {a : Addr} {o : β} : ∀ {l : List (Addr × β)}, l.lookup a = some o → (a, o) ∈ l
  | [], h => by cases h
  | (b, u) :: r, h => by
    rw [List.lookup] at h
    cases q : (a == b) with
    | true => rw [q] at h; cases h; rw [beq_iff_eq.mp q]; exact List.mem_cons_self ..
    | false => rw [q] at h; exact List.mem_cons_of_mem _ (lookup_mem' h)
theorem emp_sub {H : Hp} : Sub emp H := fun _ _ h => by cases h
theorem tab_start {K : PySem.W.Frag} {H : Hp} {a : Addr} {xs : List V} {T : List (Addr × Str)} (hT : ∀ p ∈ T, H p.1 = some (.tbl #[])) (nd : (T.map (·.1)).Nodup) (hS : SqL K H a xs) : ∃ F, Good F emp H ∧ Knows T F ∧ SqL K F a xs := by
  have look : ∀ {T : List (Addr × Str)}, (T.map (·.1)).Nodup → ∀ p ∈ T, T.lookup p.1 = some p.2 := fun {T} nd => by
    induction T with
    | nil => intro p hp; cases hp
    | cons r T ih =>
      intro p hp
      rw [List.map_cons, List.nodup_cons] at nd
      rcases List.mem_cons.mp hp with rfl | h
      · simp [List.lookup]
      · have hne : (p.1 == r.1) = false := by
          rw [beq_eq_false_iff_ne]
          exact fun z => nd.1 (by rw [← z]; exact List.mem_map.mpr ⟨p, h, rfl⟩)
        rw [List.lookup, hne]
        exact ih nd.2 p h
  have inT : ∀ {b : Addr} {q : Str}, T.lookup b = some q → H b = some (.tbl #[]) := fun {b q} e => hT (b, q) (lookup_mem' e)
  let F : Hp := fun b => match T.lookup b with
    | some q => some (.tbl #[.str q 0])
    | none => match H b with
      | some (.tbl _) => none
      | o => o
  have F1 : ∀ {b q}, T.lookup b = some q → F b = some (.tbl #[.str q 0]) := fun {b q} e => by show (match T.lookup b with | some q => _ | none => _) = _; rw [e]
  have F2 : ∀ {b o}, H b = some o → noTbl o → F b = some o := fun {b o} e n => by
    have e1 : T.lookup b = none := by
      cases z : T.lookup b with
      | none => rfl
      | some q =>
        have := inT z
        rw [e] at this
        exact absurd (Option.some.inj this) (n _)
    show (match T.lookup b with | some q => _ | none => _) = _
    rw [e1]
    show (match H b with | some (.tbl _) => none | o => o) = _
    rw [e]
    cases o with
    | tbl ps => exact absurd rfl (n ps)
    | _ => rfl
  refine ⟨F, ⟨fun b o e => ?_, emp_sub, fun _ => .inr rfl, fun _ _ e => by cases e⟩, fun p hp => F1 (look nd p hp), ?_⟩
  · cases z : T.lookup b with
    | some q =>
      rw [F1 z] at e
      cases e
      exact ⟨q, rfl, #[], inT z, True.intro, fun pos cv hc => by
        have z : codeAmong pos [] = some cv := hc
        simp [codeAmong] at z⟩
    | none =>
      have e' : (match H b with | some (.tbl _) => none | o => o) = some o := by
        have e2 : F b = (match H b with | some (.tbl _) => none | o => o) := by show (match T.lookup b with | some q => _ | none => _) = _; rw [z]
        rw [← e2]; exact e
      cases hb : H b with
      | none => rw [hb] at e'; cases e'
      | some u =>
        rw [hb] at e'
        cases u with
        | tbl ps => cases e'
        | _ => cases e'; exact hb
  · exact hS.imp (fun r => r.imp (fun e => F2 e fun _ z => nomatch z) fun ⟨o, e⟩ => ⟨o, F2 e fun _ z => nomatch z⟩) id
theorem walk_T {l : PySem.W.OpenLaw} {n k : Nat} {q : Program} {loose : List Str} {XP : (Str → Option Value) → Heap → Prop} {YP : World → Heap → Prop} {d : DefRec} {CX : World → CXT} {x : Str} (hn : l.most = some n) (hn2 : n ≤ sizeLine) (hdf : d.params.defaults = []) (hr : Room k callerA)
    (F : ∀ (w : World) (mg : Str → Option Value) (fa : Addr) (h : Heap), YP w h → h.Ns mainGlobals mg → mg d.name = some (.ref fa) →
      ∃ (K : PySem.W.Frag) (fd : FuncData) (cs : List (Addr × Addr)) (sp : Sp), K.In h ∧ (∀ p ∈ cs, h.get? p.2 = some { cls := .none, data := .fields #[] }) ∧ (∀ p ∈ cs, K.lookup p.2 = none) ∧ (∀ p ∈ cs, PySem.W.CodeHd h p.1 p.2) ∧ (∀ (s : Shared) (u : Value), BindsTo s fd ⟨[u], []⟩ [(x, u)]) ∧
        (∀ (H : Hp) (a : Addr) (ns : List Int), ns.length ≤ n → (∀ p ∈ cs, H p.2 = some (.tbl #[])) → SqL K H a (ns.map V.int) → sp [.ref a] H (fun v _ => v = .bl true) fun _ _ _ => False) ∧
        ∀ base : Heap, K.In base → base.Ns mainGlobals mg → (∀ p ∈ cs, LamX.TabB base mg p.1 p.2) → FnOk l.prog w K mg base (CX w) k fa fd [x] sp)
    (hCX : ∀ (w : World) (H : Hp) (s : Shared) (e : Value) (s' : Shared), CX w [] H s (fun _ _ _ => False) e s' → False) :
    PySem.W.WalkO q loose XP YP l.row.toRowW d [] (fun f vs => PySem.call f vs) := by
  refine Att.attach_callB hn hdf fun w s₀ s₁ mg mb fa o pm cd doc a vs ns G Y ho hd hcd hmg hobj hints hlen hbits hg => ?_
  obtain ⟨K, fd, cs, sp, KX, hT, nT, C, hb, hsp, hF⟩ := F w mg fa _ Y G.T.g hmg
  exact LamX.law_callTs KX G.T.g G.T.b G.T.builtins G.T.nolimit hg hT nT C G.T.bmain hobj hints (Nat.le_trans hlen hn2) hr hF hb (fun H hH hS => hsp H a ns hlen hH hS) fun H e s' => hCX w H s₁ e s'
end Mi

namespace Mi
open PySem PySem.Spec PyProof.Rows L2
/-! ### f(b = .., a = ..): all arguments by keyword, from the last to the first -/
def LkKR (M : Md) (nm : Str) (ps : List Str) (ts : List Ty) (tr : Ty) (fn : AT ts → Option (Except Exn tr.A)) (j : Nat) : Prop := ∃ f fd, LkF M nm ps (spP M.mg ts tr fn) j f fd ∧ ∀ (s : Shared) (ws : List Value), ws.length = ps.length → BindsTo s fd ⟨[], ps.reverse.zip ws⟩ (ps.zip ws.reverse)
def swap3T {t u w : Ty} (x : AT [t, u, w]) : AT [w, u, t] := (x.2.2.1, (x.2.1, (x.1, ())))
theorem swap3_ok {t u w : Ty} {x : AT [t, u, w]} {vs : List V} {F : Hp} (h : ArgsOk [t, u, w] x vs F) : ArgsOk [w, u, t] (swap3T x) vs.reverse F := by
  obtain ⟨v, l, e, q, v2, l2, e2, q2, v3, l3, e3, q3, e4⟩ := h
  have e4' : l3 = [] := e4
  subst e4' e3 e2 e
  exact ⟨v3, [v2, v], rfl, q3, v2, [v], rfl, q2, v, [], rfl, q, rfl⟩
section
variable {X : Cx} {N : List Str} {sc : Scope} {B : List Str} {k : Nat} {Γ : Ctx} {os os' : Os} {pos p p1 p2 p3 cpos apos : Pos} {e a b : Expr} {es : List Expr} {t u : Ty}
theorem re_callKR (xo : XOk X N sc B k) {nm : Str} {ps : List Str} {ts ts' : List Ty} {tr : Ty} {fn : AT ts → Option (Except Exn tr.A)} {j : Nat} {kws : List Keyword} {m : SM (OT os) (AT ts')} (pr : AT ts' → AT ts) (hpr : ∀ {x vs F}, ArgsOk ts' x vs F → ArgsOk ts (pr x) vs.reverse F) (l : LkKR X.md nm ps ts tr fn j) (g : Nat)
    (ha : RK X Γ os kws ts' m) (hg : sc.names[g]? = some (nm, .globalImplicit) := by rfl) (hj : j ≤ k := by decide)
    (hall : (backToKw pos (keywordEach kws X.env)).all (·.1.isSome) = true := by rfl) (hks : (backToKw pos (keywordEach kws X.env)).filterMap (·.1) = ps.reverse := by rfl)
    (hpl : ((backTo pos (starEach [] X.env)).any (·.1) || (backToKw pos (keywordEach kws X.env)).any (·.1.isNone)) = false := by rfl) :
    RE X Γ os (.Call (.Name nm p) [] kws pos) tr (SM.bind m fun x => SM.lifx (fn (pr x))) := by
  obtain ⟨f, fd, lf, bk⟩ := l
  intro σ F M R H o W Q tk c w gd h
  have pe : PE X (.Call (.Name nm p) [] kws pos) (fun σ' H' Q' => σ' = σ ∧ bestK X kws σ H' fun zs H1 => spP X.mg ts tr fn zs.reverse H1 Q' (WE W σ)) := by
    refine ⟨fun pins s σ' H' Q' I q => ?_⟩
    obtain ⟨rfl, q⟩ := q
    refine wpAny_Call_Name_kw (ld_glob I (xo.gl g nm hg) lf.mg ?_ (xo.db g nm _ hg).1)
    refine PySem.W.callWith_KW0 (h₀ := X.base) I.ok.mod.kin lf.kp hall ?_ hpl
    refine thn ((pk_best X kws).run pos pins s σ' H' _ I q) fun ws s2 ⟨zs, H2, I2, rz, q2⟩ => ⟨I2.kIn, ?_⟩
    rw [hks]
    have hl : ws.length = ps.length := by
      have := lf.ok.len _ _ _ _ q2
      rw [List.length_reverse] at this
      rw [← rz.length]; exact this
    refine wpAny_call (codeAny_mono (lf.ok.run X.A X.stack s2 H2 ⟨[], ps.reverse.zip ws⟩ ws.reverse zs.reverse Q' (WE W σ') (xo.room.mono hj) I2.env0 (bk s2 ws hl) (vals_rev rz) q2) fun r s' hq => ?_)
    cases r with
    | error e => exact passAt tk σ' pins H2 s2 e s' I2 hq
    | ok fl =>
      cases fl with
      | ret u => exact I2.after hq
      | next => exact False.elim hq
      | brk => exact False.elim hq
      | cont => exact False.elim hq
  refine ⟨_, pe, rfl, ?_⟩
  refine ha σ F M R H o W _ tk c w gd (h.bind.imp (fun x o2 h2 => ?_) fun _ _ z => z)
  intro vs F2 M2 H2 s2 w2 g2 r2
  refine ⟨pr x, F2, M2, hpr r2, g2, ?_⟩
  unfold SM.lifx at h2
  cases z : fn (pr x) with
  | none => rw [z] at h2; exact h2
  | some r =>
    rw [z] at h2
    cases r with
    | ok y => exact fun v F' mm M' H' s' p' g' r' => (show NormE os tr σ F R Q y o2 from h2) v F' M2 mm M' H' (s2.trans s') (w2.mono s') p' g' r'
    | error ex => exact fun cls d F' H' s' g' x' => (show ExcE X os σ F R W ex o2 from h2) cls d F' M2 H' (s2.trans s') (w2.mono s') g' x'
theorem re_gint (xo : XOk X N sc B k) {nm : Str} {i : Int} (l : LkC X.md nm (.int i)) (ga : Nat) (hg : sc.names[ga]? = some (nm, .globalImplicit) := by rfl) : RE X Γ os (.Name nm pos) tInt (SM.ret i) := fun σ F M R H o W Q tk c w g h =>
  ⟨_, C8.pe_gc (xo.gl ga _ hg) l (xo.db ga _ _ hg).1, end_flat (g := V.int) h (.refl F) w g⟩
theorem mg_int {M : Md} {x : Str} {i : Int} (h : ∃ t, M.mg x = some (.int i t)) : LkC M x (.int i) := by
  obtain ⟨t, h⟩ := h
  exact ⟨_, h, t, rfl⟩
end
end Mi

namespace Pb
open Mi
/-! ### full decompositions -/
abbrev PF := Nat → Option (List Nat)
def exN (P : PF) : Nat → Nat → List Nat
  | 0, c => [c]
  | n + 1, c => match P c with
    | none => [c]
    | some v => v.flatMap (exN P n)
def ndN (P : PF) : Nat → Nat → Nat
  | 0, _ => 0
  | n + 1, c => match P c with
    | none => 0
    | some v => 1 + (v.map (ndN P n)).sum
structure Rk (P : PF) (rk : Nat → Nat) : Prop where
  ne : ∀ c v, P c = some v → v ≠ []
  lt : ∀ c v, P c = some v → ∀ a ∈ v, rk a < rk c
  le : ∀ c v, P c = some v → rk c < 30
variable {P : PF} {rk : Nat → Nat}
theorem Rk.pos (h : Rk P rk) {c : Nat} {v : List Nat} (e : P c = some v) : 0 < rk c := by
  have hn := h.ne c v e
  cases v with
  | nil => exact absurd rfl hn
  | cons a r => exact Nat.lt_of_le_of_lt (Nat.zero_le _) (h.lt c _ e a (List.mem_cons_self ..))
theorem Rk.stab (h : Rk P rk) : ∀ (n : Nat) (c : Nat), rk c ≤ n → exN P n c = exN P (n + 1) c ∧ ndN P n c = ndN P (n + 1) c
  | 0, c, hc => by
    have e : P c = none := by
      cases e : P c with
      | none => rfl
      | some v => have := h.pos e; omega
    simp [exN, ndN, e]
  | n + 1, c, hc => by
    cases e : P c with
    | none => simp [exN, ndN, e]
    | some v =>
      have hv : ∀ a ∈ v, exN P n a = exN P (n + 1) a ∧ ndN P n a = ndN P (n + 1) a := fun a ha => h.stab n a (by have := h.lt c v e a ha; omega)
      constructor
      · show (match P c with | none => [c] | some v => v.flatMap (exN P n)) = (match P c with | none => [c] | some v => v.flatMap (exN P (n + 1)))
        rw [e]
        simp only [List.flatMap]
        congr 1
        exact List.map_congr_left fun a ha => (hv a ha).1
      · show (match P c with | none => 0 | some v => 1 + (v.map (ndN P n)).sum) = (match P c with | none => 0 | some v => 1 + (v.map (ndN P (n + 1))).sum)
        rw [e]
        show 1 + (v.map (ndN P n)).sum = 1 + (v.map (ndN P (n + 1))).sum
        rw [List.map_congr_left fun a ha => (hv a ha).2]
def ex (P : PF) (c : Nat) : List Nat := exN P 31 c
def nd (P : PF) (c : Nat) : Nat := ndN P 31 c
theorem ex_none {c : Nat} (e : P c = none) : ex P c = [c] := by simp [ex, exN, e]
theorem nd_none {c : Nat} (e : P c = none) : nd P c = 0 := by simp [nd, ndN, e]
theorem Rk.up (h : Rk P rk) {c : Nat} {v : List Nat} (e : P c = some v) {a : Nat} (ha : a ∈ v) {n : Nat} (hn : 28 ≤ n) : exN P n a = exN P (n + 1) a ∧ ndN P n a = ndN P (n + 1) a :=
  h.stab n a (by have := h.lt c v e a ha; have := h.le c v e; omega)
theorem Rk.ex_some (h : Rk P rk) {c : Nat} {v : List Nat} (e : P c = some v) : ex P c = v.flatMap (ex P) := by
  show (match P c with | none => [c] | some v => v.flatMap (exN P 30)) = _
  rw [e]
  simp only [List.flatMap]
  congr 1
  exact List.map_congr_left fun a ha => (h.up e ha (by omega)).1
theorem Rk.nd_some (h : Rk P rk) {c : Nat} {v : List Nat} (e : P c = some v) : nd P c = 1 + (v.map (nd P)).sum := by
  show (match P c with | none => 0 | some v => 1 + (v.map (ndN P 30)).sum) = _
  rw [e]
  show 1 + (v.map (ndN P 30)).sum = 1 + (v.map (ndN P 31)).sum
  rw [List.map_congr_left fun a ha => (h.up e ha (by omega)).2]
/-- by rank -/
theorem Rk.ind (h : Rk P rk) {Q : Nat → Prop} (h0 : ∀ c, P c = none → Q c) (h1 : ∀ c v, P c = some v → (∀ a ∈ v, Q a) → Q c) : ∀ c, Q c := by
  have : ∀ n c, rk c < n → Q c := by
    intro n
    induction n with
    | zero => intro c hc; omega
    | succ n ih =>
      intro c hc
      cases e : P c with
      | none => exact h0 c e
      | some v => exact h1 c v e fun a ha => ih a (by have := h.lt c v e a ha; omega)
  exact fun c => this (rk c + 1) c (by omega)
theorem flatMap_ne {v : List Nat} {f : Nat → List Nat} (hv : v ≠ []) (h : ∀ a ∈ v, f a ≠ []) : v.flatMap f ≠ [] := by
  cases v with
  | nil => exact absurd rfl hv
  | cons a r =>
    rw [List.flatMap_cons]
    intro e
    exact h a (List.mem_cons_self ..) (List.append_eq_nil_iff.mp e).1
theorem Rk.ex_ne (h : Rk P rk) : ∀ c, ex P c ≠ [] := h.ind (fun c e => by rw [ex_none e]; simp) fun c v e ih => by
  rw [h.ex_some e]
  exact flatMap_ne (h.ne c v e) ih
theorem Rk.ex_atoms (h : Rk P rk) : ∀ c, ∀ a ∈ ex P c, P a = none := h.ind (fun c e a ha => by rw [ex_none e] at ha; rw [List.mem_singleton.mp ha]; exact e) fun c v e ih a ha => by
  rw [h.ex_some e] at ha
  obtain ⟨b, hb, hab⟩ := List.mem_flatMap.mp ha
  exact ih b hb a hab
theorem Rk.ex_in (h : Rk P rk) {S : Nat → Prop} (hS : ∀ c v, P c = some v → ∀ a ∈ v, S a) : ∀ c, S c → ∀ a ∈ ex P c, S a := by
  refine h.ind (fun c e hc a ha => ?_) fun c v e ih hc a ha => ?_
  · rw [ex_none e] at ha; rw [List.mem_singleton.mp ha]; exact hc
  · rw [h.ex_some e] at ha
    obtain ⟨b, hb, hab⟩ := List.mem_flatMap.mp ha
    exact ih b hb (hS c v e b hb) a hab
theorem sum_map_le {v : List Nat} {f g : Nat → Nat} (h : ∀ a ∈ v, f a ≤ g a) : (v.map f).sum ≤ (v.map g).sum := by
  induction v with
  | nil => exact Nat.le_refl _
  | cons a r ih =>
    rw [List.map_cons, List.map_cons, List.sum_cons, List.sum_cons]
    have := h a (List.mem_cons_self ..)
    have := ih fun b hb => h b (List.mem_cons_of_mem _ hb)
    omega
theorem sum_map_mul {v : List Nat} {f : Nat → Nat} (k : Nat) : (v.map fun a => k * f a).sum = k * (v.map f).sum := by
  induction v with
  | nil => simp
  | cons a r ih => rw [List.map_cons, List.map_cons, List.sum_cons, List.sum_cons, ih, Nat.mul_add]
theorem flatMap_len {v : List Nat} {f : Nat → List Nat} : (v.flatMap f).length = (v.map fun a => (f a).length).sum := by
  induction v with
  | nil => rfl
  | cons a r ih => rw [List.flatMap_cons, List.length_append, ih, List.map_cons, List.sum_cons]
theorem Rk.nd_le (h : Rk P rk) : ∀ c, nd P c ≤ rk c * (ex P c).length := by
  refine h.ind (fun c e => by rw [nd_none e]; exact Nat.zero_le _) fun c v e ih => ?_
  rw [h.nd_some e, h.ex_some e, flatMap_len]
  have hp := h.pos e
  have h1 : (v.map (nd P)).sum ≤ (v.map fun a => (rk c - 1) * (ex P a).length).sum := sum_map_le fun a ha => Nat.le_trans (ih a ha) (Nat.mul_le_mul_right _ (by have := h.lt c v e a ha; omega))
  rw [sum_map_mul] at h1
  have h2 : 0 < (v.map fun a => (ex P a).length).sum := by
    have := List.length_pos_iff.mpr (flatMap_ne (h.ne c v e) fun a _ => h.ex_ne a)
    rwa [flatMap_len] at this
  generalize (v.map fun a => (ex P a).length).sum = L at *
  obtain ⟨r, hr⟩ : ∃ r, rk c = r + 1 := ⟨rk c - 1, by omega⟩
  rw [hr] at h1 ⊢
  rw [Nat.add_sub_cancel] at h1
  rw [Nat.add_mul, Nat.one_mul]
  omega
theorem Rk.len_pos (h : Rk P rk) (c : Nat) : 0 < (ex P c).length := List.length_pos_iff.mpr (h.ex_ne c)
/-- parts are no longer than the whole -/
theorem Rk.part_len (h : Rk P rk) {c : Nat} {v : List Nat} (e : P c = some v) {a : Nat} (ha : a ∈ v) : (ex P a).length ≤ (ex P c).length := by
  rw [h.ex_some e]
  obtain ⟨s, t, rfl⟩ := List.append_of_mem ha
  rw [List.flatMap_append, List.flatMap_cons, List.length_append, List.length_append]
  omega
/-- two functions that agree below c -/
theorem Rk.agree (h : Rk P rk) {P' : PF} {rk' : Nat → Nat} (h' : Rk P' rk') {S : Nat → Prop} (hS : ∀ c, S c → P c = P' c) (hc : ∀ c v, S c → P c = some v → ∀ a ∈ v, S a) : ∀ c, S c → ex P c = ex P' c := by
  refine h.ind (fun c e s => ?_) fun c v e ih s => ?_
  · rw [ex_none e, ex_none (by rw [← hS c s]; exact e)]
  · rw [h.ex_some e, h'.ex_some (by rw [← hS c s]; exact e)]
    simp only [List.flatMap]
    congr 1
    exact List.map_congr_left fun a ha => ih a ha (hc c v s e a ha)
/-- the first atom -/
def fst (P : PF) (c : Nat) : Nat := (ex P c).headD 0
theorem fst_none {c : Nat} (e : P c = none) : fst P c = c := by simp [fst, ex_none e]
theorem Rk.fst_some (h : Rk P rk) {c : Nat} {v : List Nat} (e : P c = some v) : fst P c = fst P (v.headD 0) := by
  unfold fst
  rw [h.ex_some e]
  have hn := h.ne c v e
  cases v with
  | nil => exact absurd rfl hn
  | cons a r =>
    rw [List.flatMap_cons, List.headD_cons]
    have := h.ex_ne a
    cases hx : ex P a with
    | nil => exact absurd hx this
    | cons b t => rfl
theorem Rk.fst_atom (h : Rk P rk) (c : Nat) : P (fst P c) = none := by
  unfold fst
  cases hx : ex P c with
  | nil => exact absurd hx (h.ex_ne c)
  | cons b t => exact h.ex_atoms c b (by rw [hx]; exact List.mem_cons_self ..)
theorem Rk.fst_ex (h : Rk P rk) (c : Nat) : (ex P c)[0]? = some (fst P c) := by
  unfold fst
  cases hx : ex P c with
  | nil => exact absurd hx (h.ex_ne c)
  | cons b t => rfl
/-- one replacement -/
theorem Rk.step (h : Rk P rk) {s t : List Nat} {c : Nat} {v : List Nat} (e : P c = some v) :
    (s ++ v ++ t).flatMap (ex P) = (s ++ c :: t).flatMap (ex P) ∧ ((s ++ v ++ t).map (nd P)).sum + 1 = ((s ++ c :: t).map (nd P)).sum := by
  constructor
  · rw [List.flatMap_append, List.flatMap_append, List.flatMap_append, List.flatMap_cons, h.ex_some e, List.append_assoc]
  · simp only [List.map_append, List.sum_append, List.map_cons, List.sum_cons, h.nd_some e]
    omega
theorem Rk.len_le (h : Rk P rk) : ∀ s : List Nat, s.length ≤ (s.flatMap (ex P)).length
  | [] => Nat.le_refl _
  | a :: r => by
    rw [List.flatMap_cons, List.length_append, List.length_cons]
    have := h.len_le r
    have := h.len_pos a
    omega
theorem flat_atoms {s : List Nat} (hs : ∀ a ∈ s, P a = none) : s.flatMap (ex P) = s := by
  induction s with
  | nil => rfl
  | cons a r ih =>
    rw [List.flatMap_cons, ex_none (hs a (List.mem_cons_self ..)), ih fun b hb => hs b (List.mem_cons_of_mem _ hb)]
    rfl
end Pb
namespace Pb
open Mi
/-! ### dicts -/
section
variable {A : Type}
theorem dget_mem {k : List Nat} {x : A} : ∀ {xs : List (List Nat × A)}, dget k xs = some x → (k, x) ∈ xs
  | [], h => by cases h
  | y :: r, h => by
    unfold dget at h
    split at h
    next e => cases h; rw [← e]; exact List.mem_cons_self ..
    next e => exact List.mem_cons_of_mem _ (dget_mem h)
theorem dhas_iff {k : List Nat} : ∀ {xs : List (List Nat × A)}, dhas k xs = true ↔ k ∈ xs.map (·.1)
  | [] => by simp [dhas, dget]
  | y :: r => by
    have ih := dhas_iff (k := k) (xs := r)
    unfold dhas at *
    unfold dget
    rw [List.map_cons, List.mem_cons]
    split
    next e => simp [e]
    next e => rw [ih]; exact ⟨.inr, fun h => h.elim (fun z => absurd z.symm e) id⟩
theorem dhas_false {k : List Nat} {xs : List (List Nat × A)} : dhas k xs = false ↔ k ∉ xs.map (·.1) := by
  rw [← dhas_iff, Bool.not_eq_true]
theorem dget_none {k : List Nat} {xs : List (List Nat × A)} : dget k xs = none ↔ k ∉ xs.map (·.1) := by
  rw [← dhas_false]
  unfold dhas
  cases dget k xs <;> simp
theorem dget_some {k : List Nat} {xs : List (List Nat × A)} (h : k ∈ xs.map (·.1)) : ∃ x, dget k xs = some x := by
  cases e : dget k xs with
  | none => exact absurd h (dget_none.mp e)
  | some x => exact ⟨x, rfl⟩
theorem dget_of_mem {k : List Nat} {x : A} : ∀ {xs : List (List Nat × A)}, (xs.map (·.1)).Nodup → (k, x) ∈ xs → dget k xs = some x
  | [], _, h => by cases h
  | y :: r, hn, h => by
    rw [List.map_cons, List.nodup_cons] at hn
    unfold dget
    rcases List.mem_cons.mp h with e | h
    · rw [← e]; simp
    · have : y.1 ≠ k := fun e => hn.1 (by rw [e]; exact List.mem_map.mpr ⟨_, h, rfl⟩)
      rw [if_neg this]
      exact dget_of_mem hn.2 h
theorem dput_new {k : List Nat} {x : A} {xs : List (List Nat × A)} (h : k ∉ xs.map (·.1)) : dput k x xs = xs ++ [(k, x)] := by
  unfold dput
  rw [dhas_false.mpr h]
  rfl
theorem dget_append {k : List Nat} : ∀ {xs ys : List (List Nat × A)}, dget k (xs ++ ys) = (dget k xs).or (dget k ys)
  | [], ys => by simp [dget]
  | y :: r, ys => by
    show (if y.1 = k then some y.2 else dget k (r ++ ys)) = (if y.1 = k then some y.2 else dget k r).or (dget k ys)
    split
    next e => rfl
    next e => exact dget_append
theorem dget_set {k l : List Nat} {x : A} : ∀ {xs : List (List Nat × A)}, dget l (xs.map fun y => if y.1 = k then (y.1, x) else y) = if l = k ∧ dhas k xs = true then some x else dget l xs
  | [] => by simp [dget, dhas]
  | y :: r => by
    have ih := dget_set (k := k) (l := l) (x := x) (xs := r)
    show (if (if y.1 = k then (y.1, x) else y).1 = l then some (if y.1 = k then (y.1, x) else y).2 else dget l (r.map fun y => if y.1 = k then (y.1, x) else y)) = if l = k ∧ (if y.1 = k then some y.2 else dget k r).isSome = true then some x else if y.1 = l then some y.2 else dget l r
    rw [ih]
    unfold dhas
    by_cases e : y.1 = k
    · rw [if_pos e]
      by_cases e2 : y.1 = l
      · have : l = k := by rw [← e2, e]
        subst this
        rw [if_pos (show (y.1, x).1 = l from e), if_pos e]
        exact (if_pos ⟨rfl, rfl⟩).symm
      · have : l ≠ k := fun z => e2 (by rw [e, z])
        rw [if_neg (show ¬ (y.1, x).1 = l from e2), if_neg e2, if_neg (fun h => this h.1), if_neg (fun h => this h.1)]
    · rw [if_neg e, if_neg e]
      by_cases e2 : y.1 = l
      · have : l ≠ k := fun z => e (by rw [e2, z])
        rw [if_pos e2, if_pos e2, if_neg fun h => this h.1]
      · rw [if_neg e2, if_neg e2]
theorem dget_put {k l : List Nat} {x : A} {xs : List (List Nat × A)} : dget l (dput k x xs) = if l = k then some x else dget l xs := by
  unfold dput
  by_cases h : dhas k xs = true
  · rw [if_pos h, dget_set]
    simp [h]
  · rw [if_neg h, dget_append]
    by_cases e : l = k
    · subst e
      have : dget l xs = none := by
        unfold dhas at h
        cases z : dget l xs with
        | none => rfl
        | some y => rw [z] at h; exact absurd rfl h
      rw [this]
      simp [dget]
    · have : dget l [(k, x)] = none := by simp [dget]; exact fun z => e z.symm
      rw [this, if_neg e]
      simp
theorem keys_put {k : List Nat} {x : A} {xs : List (List Nat × A)} : (dput k x xs).map (·.1) = if dhas k xs = true then xs.map (·.1) else xs.map (·.1) ++ [k] := by
  unfold dput
  by_cases h : dhas k xs = true
  · rw [if_pos h, if_pos h, List.map_map]
    refine List.map_congr_left fun y _ => ?_
    show (if y.1 = k then (y.1, x) else y).1 = y.1
    split <;> rfl
  · rw [if_neg h, if_neg h, List.map_append]
    rfl
theorem put_same {k : List Nat} {x : A} {xs : List (List Nat × A)} (hn : (xs.map (·.1)).Nodup) (h : dget k xs = some x) : dput k x xs = xs := by
  unfold dput
  rw [if_pos (by rw [dhas, h]; rfl)]
  have : ∀ y ∈ xs, (if y.1 = k then (y.1, x) else y) = y := fun y hy => by
    split
    next e =>
      have := dget_of_mem (k := y.1) (x := y.2) hn hy
      rw [e, h] at this
      cases this
      rfl
    next e => rfl
  rw [List.map_congr_left this, List.map_id']
/-- a dict with one-sign keys -/
def mk1 (ks : List Nat) (f : Nat → A) : List (List Nat × A) := ks.map fun c => ([c], f c)
theorem mk1_keys {ks : List Nat} {f : Nat → A} : (mk1 ks f).map (·.1) = ks.map fun c => [c] := by
  unfold mk1
  rw [List.map_map]
  rfl
theorem mem_sing {ks : List Nat} {c : Nat} : [c] ∈ ks.map (fun c => [c]) ↔ c ∈ ks := by
  constructor
  · intro h
    obtain ⟨a, ha, e⟩ := List.mem_map.mp h
    cases e
    exact ha
  · exact fun h => List.mem_map.mpr ⟨c, h, rfl⟩
theorem nodup_sing {ks : List Nat} : (ks.map fun c => [c]).Nodup ↔ ks.Nodup := by
  constructor
  · intro h
    exact (List.pairwise_map.mp h).imp fun h e => h (by rw [e])
  · intro h
    exact List.pairwise_map.mpr (h.imp fun h e => h (by cases e; rfl))
theorem mk1_get {ks : List Nat} {f : Nat → A} {c : Nat} : dget [c] (mk1 ks f) = if c ∈ ks then some (f c) else none := by
  induction ks with
  | nil => rfl
  | cons a r ih =>
    show (if [a] = [c] then some (f a) else dget [c] (mk1 r f)) = _
    rw [ih]
    by_cases e : a = c
    · simp [e]
    · have e' : c ≠ a := fun z => e z.symm
      simp [e, e']
theorem mk1_has {ks : List Nat} {f : Nat → A} {c : Nat} : dhas [c] (mk1 ks f) = decide (c ∈ ks) := by
  unfold dhas
  rw [mk1_get]
  by_cases h : c ∈ ks <;> simp [h]
/-- every dict with one-sign keys is such -/
theorem mk1_of {xs : List (List Nat × A)} {ks : List Nat} (hk : xs.map (·.1) = ks.map fun c => [c]) (hn : ks.Nodup) {f : Nat → A} (hf : ∀ c ∈ ks, dget [c] xs = some (f c)) : xs = mk1 ks f := by
  have hn' : (xs.map (·.1)).Nodup := by rw [hk]; exact nodup_sing.mpr hn
  have key : ∀ y ∈ xs, ∃ c ∈ ks, y = ([c], f c) := fun y hy => by
    have : y.1 ∈ ks.map fun c => [c] := by rw [← hk]; exact List.mem_map.mpr ⟨y, hy, rfl⟩
    obtain ⟨c, hc, e⟩ := List.mem_map.mp this
    refine ⟨c, hc, ?_⟩
    have h1 := dget_of_mem (k := y.1) (x := y.2) hn' hy
    rw [← e, hf c hc] at h1
    cases y
    simp at e h1
    rw [e, h1]
  clear hn' hf
  induction xs generalizing ks with
  | nil =>
    cases ks with
    | nil => rfl
    | cons a r => cases hk
  | cons y r ih =>
    cases ks with
    | nil => cases hk
    | cons a s =>
      rw [List.map_cons, List.map_cons] at hk
      injection hk with h1 h2
      obtain ⟨c, hc, e⟩ := key y (List.mem_cons_self ..)
      have : c = a := by rw [e] at h1; simpa using h1
      subst this
      show y :: r = ([c], f c) :: mk1 s f
      rw [e]
      congr 1
      refine ih h2 (List.nodup_cons.mp hn).2 fun z hz => ?_
      obtain ⟨d, hd, e'⟩ := key z (List.mem_cons_of_mem _ hz)
      refine ⟨d, ?_, e'⟩
      have : [d] ∈ s.map fun c => [c] := by rw [← h2]; exact List.mem_map.mpr ⟨z, hz, by rw [e']⟩
      exact mem_sing.mp this
end
end Pb
namespace Pb
open Mi
/-! ### valid plans -/
def CH : List Nat := [48, 49, 50, 51, 52, 53, 54, 55, 56, 57, 65, 66, 67, 68, 69, 70, 71, 72, 73, 74, 75, 76, 77, 78, 79, 80, 81, 82, 83, 84, 85, 86, 87, 88, 89, 90, 97, 98, 99, 100, 101, 102, 103, 104, 105, 106, 107, 108, 109, 110, 111, 112, 113, 114, 115, 116, 117, 118, 119, 120, 121, 122]
theorem ch_nodup : CH.Nodup := by decide
structure Val (ks : List Nat) (C : Nat → Int) (P : PF) (rk : Nat → Nat) : Prop where
  ndk : ks.Nodup
  ch : ∀ c ∈ ks, c ∈ CH
  n1 : ks.length ≤ 30
  cls : ∀ c ∈ ks, 0 ≤ C c ∧ C c ≤ 9
  R : Rk P rk
  rkl : ∀ c ∈ ks, rk c < ks.length
  dom : ∀ c v, P c = some v → c ∈ ks
  mem : ∀ c v, P c = some v → ∀ a ∈ v, a ∈ ks
  two : ∀ c v, P c = some v → v.length ≤ 2
  len : ∀ c, (ex P c).length ≤ 8
  zero : ∀ c v, P c = some v → (C c = 0 ↔ C (fst P c) = 0)
def up {A : Type} (f : Nat → A) (c : Nat) (x : A) : Nat → A := fun d => if d = c then x else f d
theorem up_same {A : Type} {f : Nat → A} {c : Nat} {x : A} : up f c x c = x := if_pos rfl
theorem up_ne {A : Type} {f : Nat → A} {c d : Nat} {x : A} (h : d ≠ c) : up f c x d = f d := if_neg h
section
variable {ks : List Nat} {C : Nat → Int} {P : PF} {rk : Nat → Nat}
theorem Val.ne (V : Val ks C P rk) {c v} (e : P c = some v) : v ≠ [] := V.R.ne c v e
theorem Val.out (V : Val ks C P rk) {c : Nat} (h : c ∉ ks) : P c = none := by
  cases e : P c with
  | none => rfl
  | some v => exact absurd (V.dom c v e) h
/-- one composite more: the full decompositions of the others stay -/
theorem rk_ext (V : Val ks C P rk) {c : Nat} {v : List Nat} (hc : c ∉ ks) (hv : v ≠ []) (hm : ∀ a ∈ v, a ∈ ks) (hl : ks.length < 30) :
    Rk (up P c (some v)) (up rk c ks.length) := by
  constructor
  · intro d w e
    by_cases h : d = c
    · subst h; rw [up_same] at e; cases e; exact hv
    · rw [up_ne h] at e; exact V.R.ne d w e
  · intro d w e a ha
    by_cases h : d = c
    · subst h
      rw [up_same] at e
      cases e
      have hac : a ≠ d := fun z => hc (z ▸ hm a ha)
      rw [up_ne hac, up_same]
      exact V.rkl a (hm a ha)
    · rw [up_ne h] at e
      have hac : a ≠ c := fun z => hc (z ▸ V.mem d w e a ha)
      rw [up_ne hac, up_ne h]
      exact V.R.lt d w e a ha
  · intro d w e
    by_cases h : d = c
    · subst h; rw [up_same]; exact hl
    · rw [up_ne h] at e ⊢; exact V.R.le d w e
theorem ex_ext (V : Val ks C P rk) {c : Nat} {v : List Nat} (hc : c ∉ ks) (hv : v ≠ []) (hm : ∀ a ∈ v, a ∈ ks) (hl : ks.length < 30) :
    (∀ d, d ≠ c → ex (up P c (some v)) d = ex P d) ∧ ex (up P c (some v)) c = v.flatMap (ex P) := by
  have h2 := rk_ext V hc hv hm hl
  have h1 : ∀ d, d ≠ c → ex (up P c (some v)) d = ex P d := fun d hd =>
    h2.agree V.R (S := fun d => d ≠ c) (fun d hd => up_ne hd) (fun d w hd e a ha => by
      rw [up_ne hd] at e
      exact fun z => hc (z ▸ V.mem d w e a ha)) d hd
  refine ⟨h1, ?_⟩
  rw [h2.ex_some (c := c) (v := v) up_same]
  simp only [List.flatMap]
  congr 1
  exact List.map_congr_left fun a ha => h1 a fun z => hc (z ▸ hm a ha)
theorem Val.ext (V : Val ks C P rk) {c : Nat} {v : List Nat} {x : Int} (hc : c ∉ ks) (hch : c ∈ CH) (hv : v ≠ []) (hm : ∀ a ∈ v, a ∈ ks) (hl : ks.length < 30) (h2 : v.length ≤ 2) (h8 : (v.flatMap (ex P)).length ≤ 8)
    (hx : 0 ≤ x ∧ x ≤ 9) (hz : x = 0 ↔ C (fst (up P c (some v)) c) = 0) : Val (ks ++ [c]) (up C c x) (up P c (some v)) (up rk c ks.length) := by
  have hr := rk_ext V hc hv hm hl
  obtain ⟨e1, e2⟩ := ex_ext V hc hv hm hl
  have hcn : ∀ d ∈ ks, d ≠ c := fun d hd z => hc (z ▸ hd)
  refine ⟨?_, ?_, ?_, ?_, hr, ?_, ?_, ?_, ?_, ?_, ?_⟩
  · rw [List.nodup_append]
    exact ⟨V.ndk, by simp, fun a ha b hb => by rw [List.mem_singleton.mp hb]; exact hcn a ha⟩
  · intro d hd
    rcases List.mem_append.mp hd with h | h
    · exact V.ch d h
    · rw [List.mem_singleton.mp h]; exact hch
  · rw [List.length_append, List.length_singleton]; omega
  · intro d hd
    by_cases h : d = c
    · subst h; rw [up_same]; exact hx
    · rw [up_ne h]
      rcases List.mem_append.mp hd with h' | h'
      · exact V.cls d h'
      · exact absurd (List.mem_singleton.mp h') h
  · intro d hd
    rw [List.length_append, List.length_singleton]
    by_cases h : d = c
    · subst h; rw [up_same]; omega
    · rw [up_ne h]
      rcases List.mem_append.mp hd with h' | h'
      · have := V.rkl d h'; omega
      · exact absurd (List.mem_singleton.mp h') h
  · intro d w e
    by_cases h : d = c
    · subst h; exact List.mem_append_right _ (by simp)
    · rw [up_ne h] at e; exact List.mem_append_left _ (V.dom d w e)
  · intro d w e a ha
    by_cases h : d = c
    · subst h; rw [up_same] at e; cases e; exact List.mem_append_left _ (hm a ha)
    · rw [up_ne h] at e; exact List.mem_append_left _ (V.mem d w e a ha)
  · intro d w e
    by_cases h : d = c
    · subst h; rw [up_same] at e; cases e; exact h2
    · rw [up_ne h] at e; exact V.two d w e
  · intro d
    by_cases h : d = c
    · subst h; rw [e2]; exact h8
    · rw [e1 d h]; exact V.len d
  · have hf : ∀ d, fst (up P c (some v)) d ≠ c := fun d z => by
      have := hr.fst_atom d
      rw [z, up_same] at this
      cases this
    intro d w e
    rw [up_ne (hf d)]
    by_cases h : d = c
    · subst h; rw [up_same]; exact hz
    · rw [up_ne h] at e ⊢
      rw [V.zero d w e]
      unfold fst
      rw [e1 d h]
/-- one atom more -/
theorem Val.atom (V : Val ks C P rk) {c : Nat} {x : Int} (hc : c ∉ ks) (hch : c ∈ CH) (hl : ks.length < 30) (hx : 0 ≤ x ∧ x ≤ 9) : Val (ks ++ [c]) (up C c x) P rk → Val (ks ++ [c]) (up C c x) P rk := id
theorem val_atoms {ks : List Nat} {C : Nat → Int} (hn : ks.Nodup) (hc : ∀ c ∈ ks, c ∈ CH) (hl : ks.length ≤ 30) (h0 : ks ≠ []) (hC : ∀ c ∈ ks, 0 ≤ C c ∧ C c ≤ 9) : Val ks C (fun _ => none) (fun _ => 0) :=
  ⟨hn, hc, hl, hC, ⟨(fun _ _ e => nomatch e), (fun _ _ e => nomatch e), (fun _ _ e => nomatch e)⟩, fun _ _ => List.length_pos_iff.mpr h0, (fun _ _ e => nomatch e), (fun _ _ e => nomatch e), (fun _ _ e => nomatch e), fun c => by rw [ex_none rfl]; simp, (fun _ _ e => nomatch e)⟩
/-- the characters in order -/
def known (ks : List Nat) : List Nat := CH.filter fun c => decide (c ∈ ks)
theorem mem_known (hk : ∀ c ∈ ks, c ∈ CH) {c : Nat} : c ∈ known ks ↔ c ∈ ks := by
  unfold known
  rw [List.mem_filter]
  exact ⟨fun h => of_decide_eq_true h.2, fun h => ⟨hk c h, decide_eq_true h⟩⟩
theorem known_nodup : (known ks).Nodup := ch_nodup.filter _
theorem known_perm (hk : ∀ c ∈ ks, c ∈ CH) (hn : ks.Nodup) : (known ks).Perm ks :=
  (List.perm_ext_iff_of_nodup known_nodup hn).mpr fun c => mem_known hk
theorem known_len (hk : ∀ c ∈ ks, c ∈ CH) (hn : ks.Nodup) : (known ks).length = ks.length := (known_perm hk hn).length_eq
end
end Pb

namespace Mi
open PySem PySem.Spec PyProof.Rows L2 Pb
/-! ### loops of mirrors -/
theorem whileS_inv {β : Type} {G : FX} {L : LC} {os : Os} {hS : OSub os G.ps} {c : β → SM (OT os) Bool} {body : β → OT os → Option (Out (β × OT os) (β × OT os) G.tr.A (OT G.ps))} (I : β → OT os → Prop) (μ : β → OT os → Nat) (Z : β → OT os → Prop)
    (step : ∀ b o, I b o → (∃ o', c b o = some (.ok false, o') ∧ Z b o') ∨ ∃ o', c b o = some (.ok true, o') ∧ ∃ b2 o2, body b o' = some (.nxt (b2, o2)) ∧ I b2 o2 ∧ μ b2 o2 < μ b o) :
    ∀ (n : Nat) (b : β) (o : OT os), I b o → μ b o < n → ∃ b' o', whileS (L := L) hS c body n b o = some (.nxt (b', o')) ∧ Z b' o'
  | 0, _, _, _, h => absurd h (Nat.not_lt_zero _)
  | n + 1, b, o, hI, hm => by
    unfold whileS
    rcases step b o hI with ⟨o', e, z⟩ | ⟨o', e1, b2, o2, e2, i2, lt⟩
    · rw [e]
      exact ⟨b, o', rfl, z⟩
    · rw [e1]
      simp only [bindX, if_true, e2, Out.turn]
      exact whileS_inv I μ Z step n b2 o2 i2 (by omega)
/-- for: what was walked so far -/
theorem forS_pre {α β : Type} {G : FX} {L : LC} {os : Os} {body : α → β → OT os → Option (Out (β × OT os) (β × OT os) G.tr.A (OT G.ps))} {P : List α → β → OT os → Prop} : ∀ (xs done : List α) (b : β) (o : OT os),
    (∀ d x r b o, done ++ xs = d ++ x :: r → P d b o → ∃ b' o', body x b o = some (.nxt (b', o')) ∧ P (d ++ [x]) b' o') → P done b o → ∃ b' o', forS (L := L) body xs b o = some (.nxt (b', o')) ∧ P (done ++ xs) b' o'
  | [], done, b, o, _, h => ⟨b, o, rfl, by rw [List.append_nil]; exact h⟩
  | x :: xs, done, b, o, hs, h => by
    obtain ⟨b1, o1, e1, i1⟩ := hs done x xs b o rfl h
    have e : done ++ x :: xs = (done ++ [x]) ++ xs := by simp
    obtain ⟨b2, o2, e2, i2⟩ := forS_pre (L := L) xs (done ++ [x]) b1 o1 (fun d y r b o h => hs d y r b o (e.trans h)) i1
    refine ⟨b2, o2, ?_, by rw [e]; exact i2⟩
    show Out.turn (body x b o) (forS body xs) = _
    rw [e1]
    exact e2
theorem forS_preU {α : Type} {G : FX} {L : LC} {os : Os} {body : α → Unit → OT os → Option (Out (Unit × OT os) (Unit × OT os) G.tr.A (OT G.ps))} {P : List α → OT os → Prop} (xs : List α) (o : OT os)
    (hs : ∀ d x r o, xs = d ++ x :: r → P d o → ∃ b' o', body x () o = some (.nxt (b', o')) ∧ P (d ++ [x]) o') (h0 : P [] o) : ∃ o', forS (L := L) body xs () o = some (.nxt ((), o')) ∧ P xs o' := by
  obtain ⟨b', o', e, h⟩ := forS_pre (L := L) (P := fun d _ o => P d o) xs [] () o (fun d x r b o he hp => hs d x r o he hp) h0
  exact ⟨o', e, h⟩
theorem noX_ok {O A : Type} {m : SM O A} {o o' : O} {x : A} (h : m o = some (.ok x, o')) : noX m o = some (.ok x, o') := by
  unfold noX
  rw [h]
theorem dcS_pure {O A C : Type} {mt : A → SM O Bool} {mk : A → SM O (List Nat)} {me : A → SM O C} {p : A → Bool} {g : A → List Nat} {f : A → C} {o : O} : ∀ (xs : List A) (acc : List (List Nat × C)), (∀ x ∈ xs, mt x o = some (.ok (p x), o)) → (∀ x ∈ xs, p x = true → mk x o = some (.ok (g x), o)) → (∀ x ∈ xs, p x = true → me x o = some (.ok (f x), o)) →
    dcS mt mk me xs acc o = some (.ok ((xs.filter p).foldl (fun acc x => dput (g x) (f x) acc) acc), o)
  | [], acc, _, _, _ => rfl
  | x :: xs, acc, ht, hk, he => by
    have ih := fun acc => dcS_pure (mt := mt) (mk := mk) (me := me) (p := p) (g := g) (f := f) (o := o) xs acc (fun y hy => ht y (List.mem_cons_of_mem _ hy)) (fun y hy => hk y (List.mem_cons_of_mem _ hy)) (fun y hy => he y (List.mem_cons_of_mem _ hy))
    unfold dcS
    unfold SM.bind
    rw [noX_ok (ht x (List.mem_cons_self ..))]
    cases hp : p x with
    | false =>
      rw [List.filter_cons_of_neg (by rw [hp]; simp)]
      exact ih acc
    | true =>
      rw [List.filter_cons_of_pos hp]
      simp only [if_true]
      rw [noX_ok (hk x (List.mem_cons_self ..) hp)]
      simp only []
      rw [noX_ok (he x (List.mem_cons_self ..) hp)]
      exact ih _
theorem fold_new {A C : Type} {g : A → List Nat} {f : A → C} : ∀ (xs : List A) (acc : List (List Nat × C)), (xs.map g).Nodup → (∀ x ∈ xs, g x ∉ acc.map (·.1)) → xs.foldl (fun acc x => dput (g x) (f x) acc) acc = acc ++ xs.map fun x => (g x, f x)
  | [], acc, _, _ => by simp
  | x :: xs, acc, hn, ha => by
    rw [List.map_cons, List.nodup_cons] at hn
    rw [List.foldl_cons, dput_new (ha x (List.mem_cons_self ..)), fold_new xs _ hn.2 fun y hy => ?_, List.map_cons, List.append_assoc]
    · rfl
    · rw [List.map_append, List.mem_append]
      rintro (h | h)
      · exact ha y (List.mem_cons_of_mem _ hy) h
      · have e : g y = g x := by simpa using h
        exact hn.1 (e ▸ List.mem_map.mpr ⟨y, hy, rfl⟩)
theorem dcS_new {O A C : Type} {mt : A → SM O Bool} {mk : A → SM O (List Nat)} {me : A → SM O C} {p : A → Bool} {g : A → List Nat} {f : A → C} {o : O} (xs : List A) (ht : ∀ x ∈ xs, mt x o = some (.ok (p x), o)) (hk : ∀ x ∈ xs, p x = true → mk x o = some (.ok (g x), o)) (he : ∀ x ∈ xs, p x = true → me x o = some (.ok (f x), o)) (hn : ((xs.filter p).map g).Nodup) :
    dcS mt mk me xs [] o = some (.ok ((xs.filter p).map fun x => (g x, f x)), o) := by
  rw [dcS_pure xs [] ht hk he, fold_new _ _ hn (fun _ _ => by simp)]
  rfl
theorem dcS_sing {O C : Type} {mt : Nat → SM O Bool} {mk : Nat → SM O (List Nat)} {me : Nat → SM O C} {p : Nat → Bool} {f : Nat → C} {o : O} (xs : List Nat) (ht : ∀ x ∈ xs, mt x o = some (.ok (p x), o)) (hk : ∀ x ∈ xs, p x = true → mk x o = some (.ok [x], o)) (he : ∀ x ∈ xs, p x = true → me x o = some (.ok (f x), o)) (hn : xs.Nodup) :
    dcS mt mk me xs [] o = some (.ok (mk1 (xs.filter p) f), o) :=
  dcS_new xs ht hk he (nodup_sing.mpr (hn.filter p))
theorem dcS_all {O C : Type} {mt : Nat → SM O Bool} {mk : Nat → SM O (List Nat)} {me : Nat → SM O C} {f : Nat → C} {o : O} (xs : List Nat) (hn : xs.Nodup) (ht : ∀ x ∈ xs, mt x o = some (.ok true, o)) (hk : ∀ x ∈ xs, mk x o = some (.ok [x], o)) (he : ∀ x ∈ xs, me x o = some (.ok (f x), o)) :
    dcS mt mk me xs [] o = some (.ok (mk1 xs f), o) := by
  have h := dcS_sing (p := fun _ => true) (f := f) xs ht (fun x hx _ => hk x hx) (fun x hx _ => he x hx) hn
  rw [List.filter_eq_self.mpr fun _ _ => rfl] at h
  exact h
theorem nodup_len {A : Type} [DecidableEq A] : ∀ {l m : List A}, l.Nodup → (∀ x ∈ l, x ∈ m) → l.length ≤ m.length
  | [], _, _, _ => Nat.zero_le _
  | a :: r, m, hn, h => by
    have ha := h a (List.mem_cons_self ..)
    have hn' := List.nodup_cons.mp hn
    have ih := nodup_len (l := r) (m := m.erase a) hn'.2 fun x hx => (List.mem_erase_of_ne (fun e : x = a => hn'.1 (e ▸ hx))).mpr (h x (List.mem_cons_of_mem _ hx))
    rw [List.length_erase_of_mem ha] at ih
    have := List.length_pos_of_mem ha
    rw [List.length_cons]
    omega
theorem filter_true {A : Type} (xs : List A) : xs.filter (fun _ => true) = xs := by simp
theorem mapS_id {O : Type} {A : Type} {mt : A → SM O Bool} {me : A → SM O A} {p : A → Bool} {o : O} (xs : List A) (ht : ∀ x ∈ xs, mt x o = some (.ok (p x), o)) (he : ∀ x ∈ xs, p x = true → me x o = some (.ok x, o)) : mapS mt me xs o = some (.ok (xs.filter p), o) := by
  rw [mapS_pure (f := _root_.id) xs ht he, List.map_id]
theorem mapS_map {O : Type} {A C : Type} {mt : A → SM O Bool} {me : A → SM O C} {f : A → C} {o : O} (xs : List A) (ht : ∀ x ∈ xs, mt x o = some (.ok true, o)) (he : ∀ x ∈ xs, me x o = some (.ok (f x), o)) : mapS mt me xs o = some (.ok (xs.map f), o) := by
  rw [mapS_pure (p := fun _ => true) (f := f) xs ht (fun x hx _ => he x hx), filter_true]
theorem forS_unit {α : Type} {G : FX} {L : LC} {os : Os} {body : α → Unit → OT os → Option (Out (Unit × OT os) (Unit × OT os) G.tr.A (OT G.ps))} {o : OT os} (xs : List α) (h : ∀ x ∈ xs, body x () o = some (.nxt ((), o))) : forS (L := L) body xs () o = some (.nxt ((), o)) := forS_same xs h
end Mi

namespace Pb
open PySem PySem.Spec PyProof.Rows L2 Mi
/-! ### what can be shown -/
def Sd (n d : Nat) (x : PyData) : Prop := x.showable = true ∧ x.leavesShort 13 = true ∧ x.bulk ≤ n ∧ x.depth ≤ d
def SdA (n d : Nat) (xs : List PyData) : Prop := PyData.showableAll xs = true ∧ PyData.leavesShortAll 13 xs = true ∧ PyData.bulkAll xs ≤ n ∧ PyData.depthAll xs ≤ d
def SdK (n d : Nat) (xs : List (PyData × PyData)) : Prop := PyData.showableKv xs = true ∧ PyData.leavesShortKv 13 xs = true ∧ PyData.bulkKv xs ≤ n ∧ PyData.depthKv xs ≤ d
theorem Sd.mono {n d n' d' : Nat} {x : PyData} (h : Sd n d x) (hn : n ≤ n') (hd : d ≤ d') : Sd n' d' x := ⟨h.1, h.2.1, Nat.le_trans h.2.2.1 hn, Nat.le_trans h.2.2.2 hd⟩
theorem sd_none {n d : Nat} : Sd n d .none := ⟨rfl, rfl, Nat.zero_le _, Nat.zero_le _⟩
theorem sd_int {n d : Nat} {i : Int} (h0 : 0 ≤ i) (h1 : i ≤ 999999999999) : Sd n d (.int i) := by
  refine ⟨?_, ?_, Nat.zero_le _, Nat.zero_le _⟩
  · simp only [PyData.showable, decide_eq_true_eq]
    have : i.natAbs < 2 ^ 1920 := Nat.lt_of_lt_of_le (m := 2 ^ 40) (by omega) (Nat.pow_le_pow_right (by decide) (by decide))
    by_cases z : i.natAbs = 0
    · rw [z]; decide
    · exact (Nat.log2_lt z).mpr this
  · simp only [PyData.leavesShort, decide_eq_true_eq]
    exact PyData.shown_int_le2 (by omega) h1
theorem sd_str {n d : Nat} {s : List Nat} (hs : ∀ c ∈ s, c < 1114112) (hl : s.length ≤ n) : Sd n d (.str (sOf s)) := by
  refine ⟨rfl, ?_, ?_, Nat.zero_le _⟩
  · simp only [PyData.leavesShort, List.all_eq_true, decide_eq_true_eq]
    intro c hc
    have := hs c (by simpa [sOf] using hc)
    omega
  · show (sOf s).cps.size ≤ n
    simpa [sOf] using hl
theorem sda_nil {n d : Nat} : SdA n d [] := ⟨rfl, rfl, Nat.zero_le _, Nat.zero_le _⟩
theorem sda_cons {n m d : Nat} {x : PyData} {xs : List PyData} (h : Sd n d x) (k : SdA m d xs) : SdA (n + 1 + m) d (x :: xs) := by
  obtain ⟨a1, a2, a3, a4⟩ := h
  obtain ⟨b1, b2, b3, b4⟩ := k
  refine ⟨?_, ?_, ?_, ?_⟩
  · simp only [PyData.showableAll, a1, b1, Bool.and_self]
  · simp only [PyData.leavesShortAll, a2, b2, Bool.and_self]
  · simp only [PyData.bulkAll]; omega
  · simp only [PyData.depthAll]; omega
theorem sd_list {n d : Nat} {xs : List PyData} (h : SdA n d xs) : Sd n (d + 1) (.list xs) := by
  obtain ⟨b1, b2, b3, b4⟩ := h
  refine ⟨?_, ?_, ?_, ?_⟩
  · simpa only [PyData.showable] using b1
  · simpa only [PyData.leavesShort] using b2
  · simpa only [PyData.bulk] using b3
  · simp only [PyData.depth]; omega
theorem sda_map {A : Type} {f : A → PyData} {n d : Nat} : ∀ {xs : List A}, (∀ x ∈ xs, Sd n d (f x)) → SdA ((n + 1) * xs.length) d (xs.map f)
  | [], _ => sda_nil
  | x :: xs, h => by
    have := sda_cons (h x (List.mem_cons_self ..)) (sda_map fun y hy => h y (List.mem_cons_of_mem _ hy))
    rw [List.map_cons, List.length_cons, Nat.mul_add, Nat.mul_one, Nat.add_comm]
    exact this
theorem sdk_cons {n m d : Nat} {k x : PyData} {xs : List (PyData × PyData)} (hk : Sd n d k) (h : Sd n d x) (r : SdK m d xs) : SdK (2 * n + 2 + m) d ((k, x) :: xs) := by
  obtain ⟨c1, c2, c3, c4⟩ := hk
  obtain ⟨a1, a2, a3, a4⟩ := h
  obtain ⟨b1, b2, b3, b4⟩ := r
  refine ⟨?_, ?_, ?_, ?_⟩
  · simp only [PyData.showableKv, a1, b1, c1, Bool.and_self]
  · simp only [PyData.leavesShortKv, a2, b2, c2, Bool.and_self]
  · simp only [PyData.bulkKv]; omega
  · simp only [PyData.depthKv]; omega
theorem sdk_map {A : Type} {k f : A → PyData} {n d : Nat} : ∀ {xs : List A}, (∀ x ∈ xs, Sd n d (k x) ∧ Sd n d (f x)) → SdK ((2 * n + 2) * xs.length) d (xs.map fun x => (k x, f x))
  | [], _ => ⟨rfl, rfl, Nat.zero_le _, Nat.zero_le _⟩
  | x :: xs, h => by
    have := sdk_cons (h x (List.mem_cons_self ..)).1 (h x (List.mem_cons_self ..)).2 (sdk_map fun y hy => h y (List.mem_cons_of_mem _ hy))
    rw [List.map_cons, List.length_cons, Nat.mul_add, Nat.mul_one, Nat.add_comm]
    exact this
theorem sd_dict {n d : Nat} {xs : List (PyData × PyData)} (h : SdK n d xs) : Sd n (d + 1) (.dict xs) := by
  obtain ⟨b1, b2, b3, b4⟩ := h
  refine ⟨?_, ?_, ?_, ?_⟩
  · simpa only [PyData.showable] using b1
  · simpa only [PyData.leavesShort] using b2
  · simpa only [PyData.bulk] using b3
  · simp only [PyData.depth]; omega
theorem sd_mk1 {t : Ty} {dat : t.A → PyData} {ks : List Nat} {f : Nat → t.A} {n d : Nat} (hk : ∀ c ∈ ks, c < 1114112) (h : ∀ c ∈ ks, Sd (n + 1) d (dat (f c))) : Sd ((2 * (n + 1) + 2) * ks.length) (d + 1) (.dict ((mk1 ks f).map (kvD dat))) := by
  have e : (mk1 ks f).map (kvD dat) = ks.map fun c => (PyData.str (sOf [c]), dat (f c)) := by
    unfold mk1
    rw [List.map_map]
    rfl
  rw [e]
  exact sd_dict (sdk_map fun c hc => ⟨sd_str (fun a ha => by rw [List.mem_singleton.mp ha]; exact hk c hc) (by simp), h c hc⟩)
theorem Sd.ok {n d : Nat} {x : PyData} (h : Sd n d x) (hn : n ≤ 2 ^ 20) (hd : d ≤ 100) : ShowOk x :=
  ⟨h.1, PyData.shown_fits_bulk (by decide) (by decide) h.2.1 (Nat.le_trans h.2.2.1 hn), Nat.le_trans h.2.2.2 hd⟩
theorem reprO_ok {ok : PyData → Bool} {x : PyData} {n d : Nat} (h : Sd n d x) (ho : ok x = true) (hn : n ≤ 2 ^ 20) (hd : d ≤ 100) : reprO ok x = some (textL x) := if_pos ⟨ho, h.ok hn hd⟩
theorem reprL_ok {xs : List PyData} {n d : Nat} (h : SdA n d xs) (ho : xs.all dOnly = true) (hl : xs.length ≤ 1000) (hn : n ≤ 2 ^ 20) (hd : d + 1 ≤ 100) : reprL xs = some (textL (.list xs)) := if_pos ⟨ho, (sd_list h).ok hn hd, hl⟩
theorem ones_map (ks : List Nat) : ones (ks.map fun c => [c]) = some ks := by
  unfold ones
  rw [if_pos, List.map_map]
  · congr 1
    have : ((fun y : List Nat => y.headD 0) ∘ fun c : Nat => [c]) = _root_.id := rfl
    rw [this, List.map_id]
  · rw [List.all_map, List.all_eq_true]
    intro c _
    rfl
theorem ch_sorted : CH.Pairwise (· ≤ ·) := by decide
theorem sort_known {ks : List Nat} (hk : ∀ c ∈ ks, c ∈ CH) (hn : ks.Nodup) : sortC ks = known ks :=
  (perm_sorted_eq ((known_perm hk hn).trans (sortC_perm ks).symm) (ch_sorted.filter _) (sortC_sorted ks)).symm
end Pb

namespace Pb
open PySem PySem.Spec Mi
/-! ### decomposed forms -/
section
variable (C : Nat → Int)
def nums : List Int := [1, 2, 3, 4, 5, 6, 7, 8, 9]
/-- a run, class by class -/
def cl (run : List Nat) : List Nat := nums.flatMap fun k => run.filter fun c => decide (C c = k)
def nfr : List Nat → List Nat → List Nat
  | run, [] => cl C run
  | run, a :: s => if C a = 0 then cl C run ++ a :: nfr [] s else nfr (run ++ [a]) s
def nf (s : List Nat) : List Nat := nfr C [] s
def stp (st : List Nat × List Nat) (a : Nat) : List Nat × List Nat := if C a = 0 then (st.1 ++ cl C st.2 ++ [a], []) else (st.1, st.2 ++ [a])
end
variable {C : Nat → Int}
theorem stp_end : ∀ (s : List Nat) (f run : List Nat), (s.foldl (stp C) (f, run)).1 ++ cl C (s.foldl (stp C) (f, run)).2 = f ++ nfr C run s
  | [], f, run => rfl
  | a :: s, f, run => by
    rw [List.foldl_cons]
    unfold stp nfr
    by_cases h : C a = 0
    · rw [if_pos h, if_pos h]
      have := stp_end s (f ++ cl C run ++ [a]) []
      unfold stp at this
      rw [this]
      simp [List.append_assoc]
    · rw [if_neg h, if_neg h]
      have := stp_end s f (run ++ [a])
      unfold stp at this
      exact this
theorem filt_flat (run : List Nat) (k : Int) : ∀ (L : List Int), L.Nodup → (L.flatMap fun j => run.filter fun c => decide (C c = j)).filter (fun c => decide (C c = k)) = if k ∈ L then run.filter (fun c => decide (C c = k)) else []
  | [], _ => by simp
  | j :: L, hn => by
    rw [List.nodup_cons] at hn
    rw [List.flatMap_cons, List.filter_append, filt_flat run k L hn.2, List.filter_filter]
    by_cases h : k = j
    · subst h
      rw [if_neg hn.1, if_pos (by simp), List.append_nil]
      exact List.filter_congr fun c _ => by simp
    · have e : run.filter (fun c => decide (C c = k) && decide (C c = j)) = [] := by
        refine List.filter_eq_nil_iff.mpr fun c _ => ?_
        intro z
        rw [Bool.and_eq_true, decide_eq_true_eq, decide_eq_true_eq] at z
        exact h (z.1.symm.trans z.2)
      rw [e, List.nil_append]
      by_cases h2 : k ∈ L
      · rw [if_pos h2, if_pos (List.mem_cons_of_mem _ h2)]
      · rw [if_neg h2, if_neg (by simp [h, h2])]
theorem nums_nd : nums.Nodup := by decide
theorem cl_cl (run : List Nat) : cl C (cl C run) = cl C run := by
  have : ∀ k ∈ nums, (cl C run).filter (fun c => decide (C c = k)) = run.filter fun c => decide (C c = k) := fun k hk => by
    have := filt_flat (C := C) run k nums nums_nd
    rw [if_pos hk] at this
    exact this
  show nums.flatMap (fun k => (cl C run).filter fun c => decide (C c = k)) = nums.flatMap fun k => run.filter fun c => decide (C c = k)
  rw [List.flatMap, List.flatMap, List.map_congr_left this]
theorem mem_cl {run : List Nat} {c : Nat} (h : c ∈ cl C run) : c ∈ run ∧ C c ≠ 0 := by
  obtain ⟨k, hk, hc⟩ := List.mem_flatMap.mp h
  obtain ⟨h1, h2⟩ := List.mem_filter.mp hc
  refine ⟨h1, ?_⟩
  have e : C c = k := of_decide_eq_true h2
  rw [e]
  intro z
  subst z
  exact absurd hk (by decide)
theorem nfr_marks (r0 t : List Nat) : ∀ (r : List Nat), (∀ c ∈ r, C c ≠ 0) → nfr C r0 (r ++ t) = nfr C (r0 ++ r) t
  | r, h => by
    induction r generalizing r0 with
    | nil => simp
    | cons a r ih =>
      rw [List.cons_append]
      show (if C a = 0 then cl C r0 ++ a :: nfr C [] (r ++ t) else nfr C (r0 ++ [a]) (r ++ t)) = _
      rw [if_neg (h a (List.mem_cons_self ..)), ih (r0 ++ [a]) fun c hc => h c (List.mem_cons_of_mem _ hc)]
      simp [List.append_assoc]
theorem nf_nfr : ∀ (s run : List Nat), nf C (nfr C run s) = nfr C run s
  | [], run => by
    have z := nfr_marks (C := C) [] [] (cl C run) fun c hc => (mem_cl hc).2
    rw [List.append_nil, List.nil_append] at z
    show nfr C [] (cl C run) = cl C run
    rw [z]
    exact cl_cl run
  | a :: s, run => by
    show nfr C [] (if C a = 0 then cl C run ++ a :: nfr C [] s else nfr C (run ++ [a]) s) = if C a = 0 then cl C run ++ a :: nfr C [] s else nfr C (run ++ [a]) s
    by_cases h : C a = 0
    · rw [if_pos h, nfr_marks [] _ _ fun c hc => (mem_cl hc).2, List.nil_append]
      show (if C a = 0 then cl C (cl C run) ++ a :: nfr C [] (nfr C [] s) else _) = _
      rw [if_pos h, cl_cl]
      have := nf_nfr s []
      unfold nf at this
      rw [this]
    · rw [if_neg h]
      exact nf_nfr s (run ++ [a])
theorem nf_nf (s : List Nat) : nf C (nf C s) = nf C s := nf_nfr s []
theorem cl_perm {run : List Nat} (h : ∀ c ∈ run, 1 ≤ C c ∧ C c ≤ 9) : (cl C run).Perm run := by
  have key : ∀ (L : List Int), L.Nodup → (L.flatMap fun j => run.filter fun c => decide (C c = j)).Perm (run.filter fun c => decide (C c ∈ L)) := fun L => by
    induction L with
    | nil => intro _; simp
    | cons j L ih =>
      intro hn
      rw [List.nodup_cons] at hn
      rw [List.flatMap_cons]
      refine ((ih hn.2).append_left _).trans ?_
      have e : run.filter (fun c => decide (C c ∈ L)) = (run.filter (fun c => decide (C c ∈ j :: L))).filter (fun c => !decide (C c = j)) := by
        rw [List.filter_filter]
        refine List.filter_congr fun c _ => ?_
        by_cases h1 : C c = j
        · have : C c ∉ L := fun z => hn.1 (h1 ▸ z)
          simp [h1, h1 ▸ this]
        · simp [h1]
      have e2 : run.filter (fun c => decide (C c = j)) = (run.filter (fun c => decide (C c ∈ j :: L))).filter (fun c => decide (C c = j)) := by
        rw [List.filter_filter]
        refine List.filter_congr fun c _ => ?_
        by_cases h1 : C c = j <;> simp [h1]
      rw [e, e2]
      exact List.filter_append_perm _ _
  refine (key nums nums_nd).trans ?_
  have : run.filter (fun c => decide (C c ∈ nums)) = run := List.filter_eq_self.mpr fun c hc => by
    obtain ⟨h1, h2⟩ := h c hc
    have : C c ∈ nums := by
      unfold nums
      have : C c = 1 ∨ C c = 2 ∨ C c = 3 ∨ C c = 4 ∨ C c = 5 ∨ C c = 6 ∨ C c = 7 ∨ C c = 8 ∨ C c = 9 := by omega
      simpa using this
    exact decide_eq_true this
  rw [this]
theorem nfr_perm : ∀ (s run : List Nat), (∀ c ∈ run, 1 ≤ C c ∧ C c ≤ 9) → (∀ c ∈ s, 0 ≤ C c ∧ C c ≤ 9) → (nfr C run s).Perm (run ++ s)
  | [], run, h, _ => by rw [List.append_nil]; exact cl_perm h
  | a :: s, run, h, hs => by
    show (if C a = 0 then cl C run ++ a :: nfr C [] s else nfr C (run ++ [a]) s).Perm _
    have ih0 := fun run h => nfr_perm s run h fun c hc => hs c (List.mem_cons_of_mem _ hc)
    by_cases h0 : C a = 0
    · rw [if_pos h0]
      have := ih0 [] (fun c hc => by cases hc)
      rw [List.nil_append] at this
      exact ((cl_perm h).append_right _).trans ((this.cons a).append_left run)
    · rw [if_neg h0]
      have ha := hs a (List.mem_cons_self ..)
      have := ih0 (run ++ [a]) fun c hc => by
        rcases List.mem_append.mp hc with z | z
        · exact h c z
        · rw [List.mem_singleton.mp z]; omega
      rw [List.append_assoc] at this
      exact this
theorem nf_perm {s : List Nat} (hs : ∀ c ∈ s, 0 ≤ C c ∧ C c ≤ 9) : (nf C s).Perm s := nfr_perm s [] (fun c hc => by cases hc) hs
/-! ### the stable sort -/
theorem sortN_eq (run : List Nat) : sortN run (run.map C) = run.mergeSort fun a b => decide (C a ≤ C b) := by
  unfold sortN
  have e : run.zip (run.map C) = run.map fun c => (c, C c) := by
    induction run with
    | nil => rfl
    | cons a r ih => rw [List.map_cons, List.map_cons, List.zip_cons_cons, ih]
  have h1 : (run.mergeSort fun a b => decide (C a ≤ C b)).map (fun c => (c, C c)) = (run.map fun c => (c, C c)).mergeSort fun p q => decide (p.2 ≤ q.2) := List.map_mergeSort fun _ _ _ _ => rfl
  rw [e, ← h1, List.map_map]
  exact List.map_id' _
theorem sorted_cl {m : List Nat} (hs : m.Pairwise fun a b => C a ≤ C b) : ∀ (L : List Int), L.Pairwise (· < ·) → (∀ c ∈ m, C c ∈ L) → m = L.flatMap fun k => m.filter fun c => decide (C c = k)
  | [], _, h => by
    cases m with
    | nil => rfl
    | cons a r => exact absurd (h a (List.mem_cons_self ..)) (by simp)
  | j :: L, hL, h => by
    rw [List.pairwise_cons] at hL
    rw [List.flatMap_cons]
    -- split off the least
    have key : ∀ m : List Nat, m.Pairwise (fun a b => C a ≤ C b) → (∀ c ∈ m, C c ∈ j :: L) → m = m.filter (fun c => decide (C c = j)) ++ m.filter (fun c => !decide (C c = j)) := fun m => by
      induction m with
      | nil => intro _ _; rfl
      | cons a r ih =>
        intro hs h
        rw [List.pairwise_cons] at hs
        have ih' := ih hs.2 fun c hc => h c (List.mem_cons_of_mem _ hc)
        by_cases ha : C a = j
        · rw [List.filter_cons_of_pos (by simpa using ha), List.filter_cons_of_neg (by simpa using ha), List.cons_append, ← ih']
        · have hn : r.filter (fun c => decide (C c = j)) = [] := List.filter_eq_nil_iff.mpr fun c hc z => by
            have z : C c = j := of_decide_eq_true z
            have h1 := hs.1 c hc
            have h2 : C a ∈ L := by
              rcases List.mem_cons.mp (h a (List.mem_cons_self ..)) with y | y
              · exact absurd y ha
              · exact y
            have := hL.1 _ h2
            omega
          have e2 : r.filter (fun c => !decide (C c = j)) = r := by rw [hn, List.nil_append] at ih'; exact ih'.symm
          rw [List.filter_cons_of_neg (by simpa using ha), List.filter_cons_of_pos (by simpa using ha), hn, e2]
          rfl
    have e1 := key m hs h
    have hm : ∀ c ∈ m.filter (fun c => !decide (C c = j)), C c ∈ L := fun c hc => by
      obtain ⟨h1, h2⟩ := List.mem_filter.mp hc
      rcases List.mem_cons.mp (h c h1) with y | y
      · rw [decide_eq_true y] at h2; cases h2
      · exact y
    have e2 := sorted_cl (hs.filter fun c => !decide (C c = j)) L hL.2 hm
    have e3 : (L.flatMap fun k => (m.filter fun c => !decide (C c = j)).filter fun c => decide (C c = k)) = L.flatMap fun k => m.filter fun c => decide (C c = k) := by
      rw [List.flatMap, List.flatMap]
      congr 1
      refine List.map_congr_left fun k hk => ?_
      rw [List.filter_filter]
      refine List.filter_congr fun c _ => ?_
      have := hL.1 k hk
      by_cases y : C c = k
      · have : C c ≠ j := by omega
        simp [y]; omega
      · simp [y]
    rw [e3] at e2
    rw [← e2]
    exact e1
theorem sort_cl {run : List Nat} (h : ∀ c ∈ run, 1 ≤ C c ∧ C c ≤ 9) : sortN run (run.map C) = cl C run := by
  rw [sortN_eq]
  have tr : ∀ a b c : Nat, decide (C a ≤ C b) = true → decide (C b ≤ C c) = true → decide (C a ≤ C c) = true := fun a b c h1 h2 => by
    rw [decide_eq_true_eq] at *; omega
  have to : ∀ a b : Nat, (decide (C a ≤ C b) || decide (C b ≤ C a)) = true := fun a b => by
    rw [Bool.or_eq_true, decide_eq_true_eq, decide_eq_true_eq]; omega
  have hp := List.mergeSort_perm run fun a b => decide (C a ≤ C b)
  have hs : (run.mergeSort fun a b => decide (C a ≤ C b)).Pairwise fun a b => C a ≤ C b := (List.pairwise_mergeSort tr to run).imp fun z => of_decide_eq_true z
  have hf : ∀ k, (run.mergeSort fun a b => decide (C a ≤ C b)).filter (fun c => decide (C c = k)) = run.filter fun c => decide (C c = k) := fun k => by
    have h1 : (run.filter fun c => decide (C c = k)).Sublist (run.mergeSort fun a b => decide (C a ≤ C b)) := by
      refine List.sublist_mergeSort tr to ?_ List.filter_sublist
      refine List.pairwise_of_forall_mem_list fun a ha b hb => ?_
      have ea : C a = k := of_decide_eq_true (List.mem_filter.mp ha).2
      have eb : C b = k := of_decide_eq_true (List.mem_filter.mp hb).2
      rw [decide_eq_true_eq, ea, eb]
      exact Int.le_refl _
    have h2 := h1.filter fun c => decide (C c = k)
    rw [List.filter_filter] at h2
    have e : run.filter (fun c => decide (C c = k) && decide (C c = k)) = run.filter fun c => decide (C c = k) := List.filter_congr fun c _ => Bool.and_self _
    rw [e] at h2
    exact (h2.eq_of_length ((hp.filter _).length_eq.symm)).symm
  have hm : ∀ c ∈ run.mergeSort (fun a b => decide (C a ≤ C b)), C c ∈ nums := fun c hc => by
    obtain ⟨h1, h2⟩ := h c (hp.mem_iff.mp hc)
    unfold nums
    have : C c = 1 ∨ C c = 2 ∨ C c = 3 ∨ C c = 4 ∨ C c = 5 ∨ C c = 6 ∨ C c = 7 ∨ C c = 8 ∨ C c = 9 := by omega
    simpa using this
  rw [sorted_cl hs nums (by decide) hm]
  unfold cl
  rw [List.flatMap, List.flatMap]
  congr 1
  exact List.map_congr_left fun k _ => hf k
end Pb

namespace K
open PySem PySem.Spec PyProof.Rows L2 Mi

def TG (K : PySem.W.Frag) : List (Addr × Str) := [((He.cT K ("sorted_runs", none)).2, "sorted_runs.<locals>.<lambda>")]
def top (i : Nat) : Stmt := PySem.Challenge.pw_canontext_k14_decomposed_forms.main.body.getD i (.Pass ⟨0, 0, 0, 0⟩)
def mth (i j : Nat) : Stmt := clsBody (top i) j
def tf : List He.Defn := [("sorted_runs", none)]
def TCs (K : PySem.W.Frag) : List (Addr × Addr) := tf.map (He.cT K)
abbrev fs_Table : Flds := [("class_map", (tDctL tInt)), ("part_map", (tDctL tStr)), ("atom_map", (tDctL tStr)), ("barred", tStr), ("pair_map", (tDctL tStr))]
theorem flsk_Table : FlsK fs_Table := ⟨(flk_dctL flk_flat), ⟨(flk_dctL flk_flat), ⟨(flk_dctL flk_flat), ⟨flk_flat, ⟨(flk_dctL flk_flat), trivial⟩⟩⟩⟩⟩
abbrev Bn : List Str := ["range", "max", "min", "len", "int", "list", "isinstance", "dict", "all", "str", "bool", "sum", "enumerate", "repr", "sorted"]
/-! ### _law_cell -/
abbrev st__law_cell : Stmt := top 40
abbrev N__law_cell : List Str := ["script", "k"]
abbrev ps__law_cell : List Str := ["script", "k"]
abbrev G__law_cell : FX := ⟨[], [], tInt⟩
def L__law_cell (K : PySem.W.Frag) (M : Md) : Prop := M.K = K
set_option maxHeartbeats 4000000 in
noncomputable def d__law_cell (K : PySem.W.Frag) : { m : (List Int × tInt.A × Unit) → OT [] → OutT G__law_cell LC.none Unit [] // ∀ (X : Cx) (lks : L__law_cell K X.md) (xo : XOk X N__law_cell (defScope st__law_cell) Bn 0) (xs : XS X) (x : List Int × tInt.A × Unit), RB X G__law_cell LC.none [some ⟨(tScr K), x.1⟩, some ⟨tInt, x.2.1⟩] [] (defBody st__law_cell) (fun _ : Unit => []) [] (m x) } := ⟨_, fun X lks xo xs x =>
  rb_cons (G := G__law_cell) (Γm := fun b3 : Unit => [some ⟨(tScr K), x.1⟩, some ⟨tInt, x.2.1⟩]) (om := []) (rs_if (G := G__law_cell) .nil (rt_lt (re_var xo 1 1) (re_lenX xo lks 2 3 (ra_cons im_scr (re_var xo 0 0) ra_nil))) (rb_one (rs_ret (G := G__law_cell) .nil (re_ixX lks (re_var xo 0 0) (re_var xo 1 1)))) (rb_nil (G := G__law_cell) (Γn := fun b3 : Unit => [some ⟨(tScr K), x.1⟩, some ⟨tInt, x.2.1⟩]) () (.same (.same .nil)) .nil)) fun b3 =>
  rb_one (rs_ret (G := G__law_cell) .nil (re_add (re_mul re_int (re_var xo 1 1)) re_int))⟩
noncomputable def r__law_cell (K : PySem.W.Frag) : (List Int × tInt.A × Unit) → Option (Except Exn tInt.A) := fun x => runZ (none) ((d__law_cell K).1 x ())

/-! ### _law_box -/
abbrev st__law_box : Stmt := top 41
abbrev N__law_box : List Str := ["cell"]
abbrev ps__law_box : List Str := ["cell"]
abbrev G__law_box : FX := ⟨[], [], (tOwn tInt)⟩
def L__law_box (K : PySem.W.Frag) (M : Md) : Prop := M.K = K
set_option maxHeartbeats 4000000 in
noncomputable def d__law_box (K : PySem.W.Frag) : { m : (tInt.A × Unit) → OT [] → OutT G__law_box LC.none Unit [] // ∀ (X : Cx) (lks : L__law_box K X.md) (xo : XOk X N__law_box (defScope st__law_box) Bn 0) (xs : XS X) (x : tInt.A × Unit), RB X G__law_box LC.none [some ⟨tInt, x.1⟩] [] (defBody st__law_box) (fun _ : Unit => []) [] (m x) } := ⟨_, fun X lks xo xs x =>
  rb_one (rs_ret (G := G__law_box) .nil (re_list (t := tInt) (ral_cons imF (re_max2 xo 1 1 (ra_cons imF re_int (ra_cons imF (re_sub (re_var xo 0 0) (re_pow re_int re_int)) ra_nil))) (ral_cons imF (re_mod (re_var xo 0 0) re_int) (ral_cons imF re_int ral_nil)))))⟩
noncomputable def r__law_box (K : PySem.W.Frag) : (tInt.A × Unit) → Option (Except Exn (tOwn tInt).A) := fun x => runZ (none) ((d__law_box K).1 x ())

/-! ### _law_take -/
abbrev st__law_take : Stmt := top 42
abbrev N__law_take : List Str := ["box", "many", "digit", "mixed"]
abbrev ps__law_take : List Str := ["box", "many"]
abbrev G__law_take : FX := ⟨[0], [(0, (tOwn tInt))], tInt⟩
def L__law_take (K : PySem.W.Frag) (M : Md) : Prop := M.K = K
set_option maxHeartbeats 4000000 in
noncomputable def d__law_take (K : PySem.W.Frag) : { m : (tInt.A × Unit) → OT [(0, (tOwn tInt))] → OutT G__law_take LC.none Unit [] // ∀ (X : Cx) (lks : L__law_take K X.md) (xo : XOk X N__law_take (defScope st__law_take) Bn 0) (xs : XS X) (x : tInt.A × Unit), RB X G__law_take LC.none [none, some ⟨tInt, x.1⟩, none, none] [(0, (tOwn tInt))] (defBody st__law_take) (fun _ : Unit => []) [] (m x) } := ⟨_, fun X lks xo xs x =>
  rb_cons (G := G__law_take) (Γm := fun b7 : Unit => [none, some ⟨tInt, x.1⟩, none, none]) (om := [(0, (tOwn tInt))]) (rs_if (G := G__law_take) (.keep .nil) (rt_gt (re_bor .here frz_own (fl_own fl_flat) trivial fl_flat fun v6 => re_ixL imF (re_var xo 0 0) re_int) re_int) (rb_asg xo (G := G__law_take) (.keep .nil) 2 2 imF (re_mod (re_bor .here frz_own (fl_own fl_flat) trivial fl_flat fun v9 => re_ixL imF (re_var xo 0 0) re_int) (re_var xo 1 1)) fun v10 =>
  rb_setL xo (G := G__law_take) (.keep .nil) .here 0 imF (re_fdiv (re_bor .here frz_own (fl_own fl_flat) trivial fl_flat fun v12 => re_ixL imF (re_var xo 0 0) re_int) (re_var xo 1 1)) re_int
  (rb_one (rs_ret (G := G__law_take) (.keep .nil) (re_var xo 2 2)))) (rb_nil (G := G__law_take) (Γn := fun b7 : Unit => [none, some ⟨tInt, x.1⟩, none, none]) () (.same (.same (.same (.same .nil)))) (.keep .nil))) fun b7 =>
  rb_setL xo (G := G__law_take) (.keep .nil) .here 0 imF (re_add (re_bor .here frz_own (fl_own fl_flat) trivial fl_flat fun v14 => re_ixL imF (re_var xo 0 0) re_int) re_int) re_int
  (rb_asg xo (G := G__law_take) (.keep .nil) 3 3 imF (re_mod (re_pow (re_add (re_add (re_bor .here frz_own (fl_own fl_flat) trivial fl_flat fun v16 => re_ixL imF (re_var xo 0 0) re_int) (re_mul re_int (re_bor .here frz_own (fl_own fl_flat) trivial fl_flat fun v18 => re_ixL imF (re_var xo 0 0) re_int))) re_int) re_int) re_int) fun v19 =>
  rb_asg xo (G := G__law_take) (.keep .nil) 3 3 imF (re_mod (re_pow (re_add (re_var xo 3 3) (re_mul re_int (re_bor .here frz_own (fl_own fl_flat) trivial fl_flat fun v21 => re_ixL imF (re_var xo 0 0) re_int))) re_int) re_int) fun v22 =>
  rb_one (rs_ret (G := G__law_take) (.keep .nil) (re_mod (re_fdiv (re_var xo 3 3) re_int) (re_var xo 1 1))))⟩
noncomputable def r__law_take (K : PySem.W.Frag) : (tOwn tInt).A → (tInt.A × Unit) → Option (Except Exn tInt.A × (tOwn tInt).A) := fun y x => runO ((d__law_take K).1 x (y, ()))

/-! ### _law_chars -/
abbrev st__law_chars : Stmt := top 43
abbrev N__law_chars : List Str := ["box", "many", "signs", "begin", "step", "k"]
abbrev ps__law_chars : List Str := ["box", "many"]
abbrev G__law_chars : FX := ⟨[0], [(0, (tOwn tInt))], (tOwn tChr)⟩
def L__law_chars (K : PySem.W.Frag) (M : Md) : Prop := LkO M "_law_take" ps__law_take (tOwn tInt) [tInt] tInt (r__law_take K) 1 ∧ M.K = K
set_option maxHeartbeats 4000000 in
noncomputable def d__law_chars (K : PySem.W.Frag) : { m : (tInt.A × Unit) → OT [(0, (tOwn tInt))] → OutT G__law_chars LC.none Unit [] // ∀ (X : Cx) (lks : L__law_chars K X.md) (xo : XOk X N__law_chars (defScope st__law_chars) Bn 1) (xs : XS X) (x : tInt.A × Unit), RB X G__law_chars LC.none [none, some ⟨tInt, x.1⟩, none, none, none, none] [(0, (tOwn tInt))] (defBody st__law_chars) (fun _ : Unit => []) [] (m x) } := ⟨_, fun X lks xo xs x =>
  rb_asg xo (G := G__law_chars) (.keep .nil) 2 2 imF (re_str [97, 98, 99, 100, 101, 102, 103, 104, 105, 106, 107, 108, 109, 110, 111, 112, 113, 114, 115, 116, 117, 118, 119, 120, 121, 122, 65, 66, 67, 68, 69, 70, 71, 72, 73, 74, 75, 76, 77, 78, 79, 80, 81, 82, 83, 84, 85, 86, 87, 88, 89, 90, 48, 49, 50, 51, 52, 53, 54, 55, 56, 57]) fun v24 =>
  rb_unp2 xo (G := G__law_chars) (.keep .nil) 3 4 3 4 (ts := [tInt, tInt]) (.imm 3 imF (.imm 4 imF .nil)) (ram_cons (re_callO xo (lks.1) 5 .here 0 (ra_cons imF re_int ra_nil) (hib := by rfl)) (ram_cons (re_ixL imF (re_frz frz_own (re_list (t := tInt) (ral_cons imF re_int (ral_cons imF re_int (ral_cons imF re_int (ral_cons imF re_int (ral_cons imF re_int (ral_cons imF re_int (ral_cons imF re_int (ral_cons imF re_int ral_nil)))))))))) (re_callO xo (lks.1) 5 .here 0 (ra_cons imF re_int ra_nil) (hib := by rfl))) ram_nil)) fun v25 =>
  rb_one (rs_ret (G := G__law_chars) (.keep .nil) (re_lc lks xo [("k", 5)] [0, 1, 2, 3, 4] imF (ri_range1 xo 6 0 (ra_cons imF (re_var xo 1 1) ra_nil)) (fun X27 o29 => rg_name o29 5 1) (fun X27 l28 o29 v26 => rts_nil) (fun X27 l28 o29 v26 => re_ixS (re_var o29 2 3) (re_mod (re_add (re_var o29 3 2) (re_mul (re_var o29 4 4) (re_var o29 5 1))) re_int))))⟩
noncomputable def r__law_chars (K : PySem.W.Frag) : (tOwn tInt).A → (tInt.A × Unit) → Option (Except Exn (tOwn tChr).A × (tOwn tInt).A) := fun y x => runO ((d__law_chars K).1 x (y, ()))

/-! ### _law_atoms -/
abbrev st__law_atoms : Stmt := top 44
abbrev N__law_atoms : List Str := ["plan", "char", "found", "left", "at", "sign"]
abbrev ps__law_atoms : List Str := ["plan", "char"]
abbrev G__law_atoms : FX := ⟨[], [], tStr⟩
def L__law_atoms (K : PySem.W.Frag) (M : Md) : Prop := M.K = K
set_option maxHeartbeats 4000000 in
noncomputable def d__law_atoms (K : PySem.W.Frag) : { m : ((tHas [112, 97, 114, 116, 115] (tDct tStr)).A × tStr.A × Unit) → OT [] → OutT G__law_atoms LC.none Unit [] // ∀ (X : Cx) (lks : L__law_atoms K X.md) (xo : XOk X N__law_atoms (defScope st__law_atoms) Bn 0) (xs : XS X) (x : (tHas [112, 97, 114, 116, 115] (tDct tStr)).A × tStr.A × Unit), RB X G__law_atoms LC.none [some ⟨(tHas [112, 97, 114, 116, 115] (tDct tStr)), x.1⟩, some ⟨tStr, x.2.1⟩, none, none, none, none] [] (defBody st__law_atoms) (fun _ : Unit => []) [] (m x) } := ⟨_, fun X lks xo xs x =>
  rb_asg xo (G := G__law_atoms) .nil 2 2 imF (re_var xo 1 1) fun v43 =>
  rb_asgLc lks xo (G := G__law_atoms) .nil [("sign", 5)] [0, 1, 2, 3, 4] 3 3 imF (ri_str (re_var xo 2 2)) (fun X45 o47 => rg_name o47 5 1) (fun X45 l46 o47 v44 => rts_one (rt_inD o47 (re_cv cv_chr (re_var o47 5 1)) (re_fldH o47 (n := [112, 97, 114, 116, 115]) im_dct (re_var o47 0 2)))) (fun X45 l46 o47 v44 => re_var o47 5 1) fun v48 =>
  rb_cons (G := G__law_atoms) (Γm := fun b49 : tStr.A × (tLst tChr).A × Unit => [some ⟨(tHas [112, 97, 114, 116, 115] (tDct tStr)), x.1⟩, some ⟨tStr, x.2.1⟩, some ⟨tStr, b49.1⟩, some ⟨(tLst tChr), b49.2.1⟩, none, none]) (om := []) (rs_while (G := G__law_atoms) (β := tStr.A × (tLst tChr).A × Unit) .nil xs.own 1000000000 (ΓL := fun b49 : tStr.A × (tLst tChr).A × Unit => [some ⟨(tHas [112, 97, 114, 116, 115] (tDct tStr)), x.1⟩, some ⟨tStr, x.2.1⟩, some ⟨tStr, b49.1⟩, some ⟨(tLst tChr), b49.2.1⟩, none, none]) (b0 := (v43, (v48, ()))) (.same (.same (.same (.same (.same (.same .nil)))))) (fun b49 => rt_ne0 xo (re_var xo 3 3) (re_frz frz_own (re_list (t := tChr) ral_nil))) (fun b49 =>
  rb_asg xo (G := G__law_atoms) .nil 4 4 imF (re_index (re_var xo 2 2) (ra_cons imF (re_ixL imF (re_var xo 3 3) re_int) ra_nil)) fun v50 =>
  rb_asg xo (G := G__law_atoms) .nil 2 2 imF (re_addS (re_addS (re_slS (re_var xo 2 2) ro_none (ro_some (re_var xo 4 4))) (re_ixD xo imF (re_fldH xo (n := [112, 97, 114, 116, 115]) im_dct (re_var xo 0 0)) (re_cv cv_chr (re_ixL imF (re_var xo 3 3) re_int)))) (re_slS (re_var xo 2 2) (ro_some (re_add (re_var xo 4 4) re_int)) ro_none)) fun v51 =>
  rb_asgLc lks xo (G := G__law_atoms) .nil [("sign", 5)] [0, 1, 2, 3, 4] 3 3 imF (ri_str (re_var xo 2 2)) (fun X53 o55 => rg_name o55 5 1) (fun X53 l54 o55 v52 => rts_one (rt_inD o55 (re_cv cv_chr (re_var o55 5 1)) (re_fldH o55 (n := [112, 97, 114, 116, 115]) im_dct (re_var o55 0 2)))) (fun X53 l54 o55 v52 => re_var o55 5 1) fun v56 =>
  rb_nil (G := G__law_atoms) (Γn := fun b49 : tStr.A × (tLst tChr).A × Unit => [some ⟨(tHas [112, 97, 114, 116, 115] (tDct tStr)), x.1⟩, some ⟨tStr, x.2.1⟩, some ⟨tStr, b49.1⟩, some ⟨(tLst tChr), b49.2.1⟩, none, none]) (v51, (v56, ())) (.same (.same (.same (.same (.drop (.same .nil)))))) .nil)) fun b49 =>
  rb_one (rs_ret (G := G__law_atoms) .nil (re_var xo 2 2))⟩
noncomputable def r__law_atoms (K : PySem.W.Frag) : ((tHas [112, 97, 114, 116, 115] (tDct tStr)).A × tStr.A × Unit) → Option (Except Exn tStr.A) := fun x => runZ (none) ((d__law_atoms K).1 x ())

/-! ### _law_barred -/
abbrev st__law_barred : Stmt := top 45
abbrev N__law_barred : List Str := ["box", "parts", "found", "char", "ahead", "one"]
abbrev ps__law_barred : List Str := ["box", "parts"]
abbrev G__law_barred : FX := ⟨[0], [(0, (tOwn tInt))], tStr⟩
def L__law_barred (K : PySem.W.Frag) (M : Md) : Prop := LkO M "_law_take" ps__law_take (tOwn tInt) [tInt] tInt (r__law_take K) 1 ∧ M.K = K
set_option maxHeartbeats 4000000 in
noncomputable def d__law_barred (K : PySem.W.Frag) : { m : ((tDctL tStr).A × Unit) → OT [(0, (tOwn tInt))] → OutT G__law_barred LC.none Unit [] // ∀ (X : Cx) (lks : L__law_barred K X.md) (xo : XOk X N__law_barred (defScope st__law_barred) Bn 1) (xs : XS X) (x : (tDctL tStr).A × Unit), RB X G__law_barred LC.none [none, some ⟨(tDctL tStr), x.1⟩, none, none, none, none] [(0, (tOwn tInt))] (defBody st__law_barred) (fun _ : Unit => []) [] (m x) } := ⟨_, fun X lks xo xs x =>
  rb_asg xo (G := G__law_barred) (.keep .nil) 2 2 imF (re_str []) fun v66 =>
  rb_cons (G := G__law_barred) (Γm := fun b67 : tStr.A × Unit => [none, some ⟨(tDctL tStr), x.1⟩, some ⟨tStr, b67.1⟩, none, none, none]) (om := [(0, (tOwn tInt))]) (rs_for (G := G__law_barred) (β := tStr.A × Unit) (.keep .nil) xs.own xo.calm (ΓL := fun b67 : tStr.A × Unit => [none, some ⟨(tDctL tStr), x.1⟩, some ⟨tStr, b67.1⟩, none, none, none]) (b0 := (v66, ())) (.same (.same (.same (.same (.same (.same .nil)))))) (ri_dctL (re_var xo 1 1)) (fun b67 => rg_name xo 3 3) (fun v68 b67 =>
  rb_asgLc lks xo (G := G__law_barred) (.keep .nil) [("one", 5)] [0, 1, 2, 3, 4] 4 4 imF (ri_dctL (re_var xo 1 1)) (fun X70 o72 => rg_name o72 5 1) (fun X70 l71 o72 v69 => rts_one (RW.rt (rw_and (rt_ne sca_str (re_var o72 5 1) (re_var o72 3 3)) (rw_and (rt_niS (re_var o72 5 1) (re_var o72 2 4)) (rw_and1 (rt_eq sca_int (re_lenS o72 2 3 (ra_cons imF (re_ixD o72 imF (re_cv cv_dctL (re_var o72 1 5)) (re_var o72 5 1)) ra_nil)) re_int)))))) (fun X70 l71 o72 v69 => re_ixD o72 imF (re_cv cv_dctL (re_var o72 1 5)) (re_var o72 5 1)) fun v73 =>
  rb_cons (G := G__law_barred) (Γm := fun b74 : tStr.A × Unit => [none, some ⟨(tDctL tStr), x.1⟩, some ⟨tStr, b74.1⟩, some ⟨tStr, v68⟩, some ⟨(tLst tStr), v73⟩, none]) (om := [(0, (tOwn tInt))]) (rs_if (G := G__law_barred) (.keep .nil) (RW.rt (rw_or (rt_eq sca_int (re_callO xo (lks.1) 5 .here 0 (ra_cons imF re_int ra_nil) (hib := by rfl)) re_int) (rw_or1 (RW.rt (rw_and (rt_eq sca_int (re_lenS xo 6 3 (ra_cons imF (re_ixD xo imF (re_cv cv_dctL (re_var xo 1 1)) (re_var xo 3 3)) ra_nil)) re_int) (rw_and1 (rt_inL (re_ixD xo imF (re_cv cv_dctL (re_var xo 1 1)) (re_var xo 3 3)) (re_var xo 4 4)))))))) (rb_asg xo (G := G__law_barred) (.keep .nil) 2 2 imF (re_addS (re_var xo 2 2) (re_var xo 3 3)) fun v75 =>
  rb_nil (G := G__law_barred) (Γn := fun b74 : tStr.A × Unit => [none, some ⟨(tDctL tStr), x.1⟩, some ⟨tStr, b74.1⟩, some ⟨tStr, v68⟩, some ⟨(tLst tStr), v73⟩, none]) (v75, ()) (.same (.same (.same (.same (.same (.same .nil)))))) (.keep .nil)) (rb_nil (G := G__law_barred) (Γn := fun b74 : tStr.A × Unit => [none, some ⟨(tDctL tStr), x.1⟩, some ⟨tStr, b74.1⟩, some ⟨tStr, v68⟩, some ⟨(tLst tStr), v73⟩, none]) (b67.1, ()) (.same (.same (.same (.same (.same (.same .nil)))))) (.keep .nil))) fun b74 =>
  rb_nil (G := G__law_barred) (Γn := fun b67 : tStr.A × Unit => [none, some ⟨(tDctL tStr), x.1⟩, some ⟨tStr, b67.1⟩, none, none, none]) (b74.1, ()) (.same (.same (.same (.drop (.drop (.same .nil)))))) (.keep .nil))) fun b67 =>
  rb_one (rs_ret (G := G__law_barred) (.keep .nil) (re_var xo 2 2))⟩
noncomputable def r__law_barred (K : PySem.W.Frag) : (tOwn tInt).A → ((tDctL tStr).A × Unit) → Option (Except Exn tStr.A × (tOwn tInt).A) := fun y x => runO ((d__law_barred K).1 x (y, ()))

/-! ### _law_table -/
abbrev st__law_table : Stmt := top 46
abbrev N__law_table : List Str := ["box", "atoms", "composites", "chars", "span", "classes", "parts", "char", "known", "one", "other", "lead"]
abbrev ps__law_table : List Str := ["box", "atoms", "composites"]
abbrev G__law_table : FX := ⟨[0], [(0, (tOwn tInt))], (tRec [([99, 108, 97, 115, 115, 101, 115], (tDctL tInt)), ([112, 97, 114, 116, 115], (tDctL tStr)), ([98, 97, 114, 114, 101, 100], tStr)])⟩
def L__law_table (K : PySem.W.Frag) (M : Md) : Prop := LkO M "_law_chars" ps__law_chars (tOwn tInt) [tInt] (tOwn tChr) (r__law_chars K) 2 ∧ LkO M "_law_take" ps__law_take (tOwn tInt) [tInt] tInt (r__law_take K) 1 ∧ LkP M "_law_atoms" ps__law_atoms [(tHas [112, 97, 114, 116, 115] (tDct tStr)), tStr] tStr (r__law_atoms K) 1 ∧ LkO M "_law_barred" ps__law_barred (tOwn tInt) [(tDctL tStr)] tStr (r__law_barred K) 2 ∧ M.K = K
set_option maxHeartbeats 4000000 in
noncomputable def d__law_table (K : PySem.W.Frag) : { m : (tInt.A × tInt.A × Unit) → OT [(0, (tOwn tInt))] → OutT G__law_table LC.none Unit [] // ∀ (X : Cx) (lks : L__law_table K X.md) (xo : XOk X N__law_table (defScope st__law_table) Bn 2) (xs : XS X) (x : tInt.A × tInt.A × Unit), RB X G__law_table LC.none [none, some ⟨tInt, x.1⟩, some ⟨tInt, x.2.1⟩, none, none, none, none, none, none, none, none, none] [(0, (tOwn tInt))] (defBody st__law_table) (fun _ : Unit => []) [] (m x) } := ⟨_, fun X lks xo xs x =>
  rb_asg xo (G := G__law_table) (.keep .nil) 3 3 im_lst (re_frz frz_own (re_callO xo (lks.1) 12 .here 0 (ra_cons imF (re_add (re_var xo 1 1) (re_var xo 2 2)) ra_nil) (hib := by rfl))) fun v30 =>
  rb_par3 xo (G := G__law_table) (.keep .nil) 4 5 6 4 5 6 (ts := [tInt, (tOwnD tInt), (tOwnD tStr)]) (.imm 4 imF (.own 5 (.own 6 .nil))) (ram_cons (re_ixL imF (re_frz frz_own (re_list (t := tInt) (ral_cons imF re_int (ral_cons imF re_int (ral_cons imF re_int (ral_cons imF re_int ral_nil)))))) (re_callO xo (lks.2.1) 13 .here 0 (ra_cons imF re_int ra_nil) (hib := by rfl))) (ram_cons (re_dnew (t := tInt)) (ram_cons (re_dnew (t := tStr)) ram_nil))) fun v31 =>
  rb_cons (G := G__law_table) (Γm := fun b32 : Unit => [none, some ⟨tInt, x.1⟩, some ⟨tInt, x.2.1⟩, some ⟨(tLst tChr), v30⟩, some ⟨tInt, v31.1⟩, none, none, none, none, none, none, none]) (om := [(6, (tOwnD tStr)), (5, (tOwnD tInt)), (0, (tOwn tInt))]) (rs_for (G := G__law_table) (β := Unit) (.skip (.skip (.keep .nil))) xs.own xo.calm (ΓL := fun b32 : Unit => [none, some ⟨tInt, x.1⟩, some ⟨tInt, x.2.1⟩, some ⟨(tLst tChr), v30⟩, some ⟨tInt, v31.1⟩, none, none, none, none, none, none, none]) (b0 := ()) (.same (.same (.same (.same (.same (.same (.same (.same (.same (.same (.same (.same .nil)))))))))))) (ri_list (re_frz frz_own (re_slL (re_var xo 3 3) ro_none (ro_some (re_var xo 1 1))))) (fun b32 => rg_name xo 7 7) (fun v33 b32 =>
  rb_setD xo (G := G__law_table) (.skip (.skip (.keep .nil))) (.there .here) 5 imF (re_mul (re_ixL imF (re_frz frz_own (re_list (t := tInt) (ral_cons imF re_int (ral_cons imF re_int (ral_cons imF re_int (ral_cons imF re_int (ral_cons imF re_int ral_nil))))))) (re_callO xo (lks.2.1) 13 (.there (.there .here)) 0 (ra_cons imF re_int ra_nil) (hib := by rfl))) (re_add re_int (re_callO xo (lks.2.1) 13 (.there (.there .here)) 0 (ra_cons imF (re_var xo 4 4) ra_nil) (hib := by rfl)))) (re_cv cv_chr (re_var xo 7 7))
  (rb_nil (G := G__law_table) (Γn := fun b32 : Unit => [none, some ⟨tInt, x.1⟩, some ⟨tInt, x.2.1⟩, some ⟨(tLst tChr), v30⟩, some ⟨tInt, v31.1⟩, none, none, none, none, none, none, none]) () (.same (.same (.same (.same (.same (.same (.same (.drop (.same (.same (.same (.same .nil)))))))))))) (.keep (.keep (.keep .nil)))))) fun b32 =>
  rb_cons (G := G__law_table) (Γm := fun b34 : Unit => [none, some ⟨tInt, x.1⟩, some ⟨tInt, x.2.1⟩, some ⟨(tLst tChr), v30⟩, some ⟨tInt, v31.1⟩, none, none, none, none, none, none, none]) (om := [(6, (tOwnD tStr)), (5, (tOwnD tInt)), (0, (tOwn tInt))]) (rs_for (G := G__law_table) (β := Unit) (.skip (.skip (.keep .nil))) xs.own xo.calm (ΓL := fun b34 : Unit => [none, some ⟨tInt, x.1⟩, some ⟨tInt, x.2.1⟩, some ⟨(tLst tChr), v30⟩, some ⟨tInt, v31.1⟩, none, none, none, none, none, none, none]) (b0 := ()) (.same (.same (.same (.same (.same (.same (.same (.same (.same (.same (.same (.same .nil)))))))))))) (ri_list (re_frz frz_own (re_slL (re_var xo 3 3) (ro_some (re_var xo 1 1)) ro_none))) (fun b34 => rg_name xo 7 7) (fun v35 b34 =>
  rb_asg xo (G := G__law_table) (.skip (.skip (.keep .nil))) 8 8 im_lst (re_frz frz_own (re_bor (.there .here) frz_ownD (fl_ownD fl_flat) ⟨(fl_ownD fl_flat), ⟨(fl_own fl_flat), trivial⟩⟩ (fl_own fl_flat) fun v37 => re_listD xo 14 5 (ra_cons im_dct (re_var xo 5 5) ra_nil))) fun v38 =>
  rb_par2 xo (G := G__law_table) (.skip (.skip (.keep .nil))) 9 10 9 10 (ts := [tStr, tStr]) (.imm 9 imF (.imm 10 imF .nil)) (ram_cons (re_ixL imF (re_var xo 8 8) (re_callO xo (lks.2.1) 13 (.there (.there .here)) 0 (ra_cons imF (re_lenL xo 15 3 (ra_cons im_lst (re_var xo 8 8) ra_nil)) ra_nil) (hib := by rfl))) (ram_cons (re_ixL imF (re_var xo 8 8) (re_callO xo (lks.2.1) 13 (.there (.there .here)) 0 (ra_cons imF (re_lenL xo 15 3 (ra_cons im_lst (re_var xo 8 8) ra_nil)) ra_nil) (hib := by rfl))) ram_nil)) fun v39 =>
  rb_setD xo (G := G__law_table) (.skip (.skip (.keep .nil))) .here 6 imF (re_if (rt_eq sca_int (re_callO xo (lks.2.1) 13 (.there (.there .here)) 0 (ra_cons imF re_int ra_nil) (hib := by rfl)) re_int) (re_var xo 9 9) (re_addS (re_var xo 9 9) (re_var xo 10 10))) (re_cv cv_chr (re_var xo 7 7))
  (rb_cons (G := G__law_table) (Γm := fun b57 : Unit => [none, some ⟨tInt, x.1⟩, some ⟨tInt, x.2.1⟩, some ⟨(tLst tChr), v30⟩, some ⟨tInt, v31.1⟩, none, none, some ⟨tChr, v35⟩, some ⟨(tLst tStr), v38⟩, some ⟨tStr, v39.1⟩, some ⟨tStr, v39.2.1⟩, none]) (om := [(6, (tOwnD tStr)), (5, (tOwnD tInt)), (0, (tOwn tInt))]) (rs_if (G := G__law_table) (.skip (.skip (.keep .nil))) (rt_gt (re_lenS xo 15 3 (ra_cons imF (re_bor .here frz_ownD (fl_ownD fl_flat) ⟨(fl_ownD fl_flat), ⟨(fl_own fl_flat), trivial⟩⟩ fl_flat fun v42 => re_call xo (lks.2.2.1) 16 (ra_cons im_has (re_cv (cv_has (fs := [([112, 97, 114, 116, 115], (tDct tStr))]) (n := [112, 97, 114, 116, 115]) .here (by decide)) (re_rec (fs := [([112, 97, 114, 116, 115], (tDct tStr))]) (rp_cons (n := [112, 97, 114, 116, 115]) im_dct (re_var xo 6 6) rp_nil))) (ra_cons imF (re_cv cv_chr (re_var xo 7 7)) ra_nil))) ra_nil)) re_int) (rb_setD xo (G := G__law_table) (.skip (.skip (.keep .nil))) .here 6 imF (re_var xo 9 9) (re_cv cv_chr (re_var xo 7 7))
  (rb_nil (G := G__law_table) (Γn := fun b57 : Unit => [none, some ⟨tInt, x.1⟩, some ⟨tInt, x.2.1⟩, some ⟨(tLst tChr), v30⟩, some ⟨tInt, v31.1⟩, none, none, some ⟨tChr, v35⟩, some ⟨(tLst tStr), v38⟩, some ⟨tStr, v39.1⟩, some ⟨tStr, v39.2.1⟩, none]) () (.same (.same (.same (.same (.same (.same (.same (.same (.same (.same (.same (.same .nil)))))))))))) (.keep (.keep (.keep .nil))))) (rb_nil (G := G__law_table) (Γn := fun b57 : Unit => [none, some ⟨tInt, x.1⟩, some ⟨tInt, x.2.1⟩, some ⟨(tLst tChr), v30⟩, some ⟨tInt, v31.1⟩, none, none, some ⟨tChr, v35⟩, some ⟨(tLst tStr), v38⟩, some ⟨tStr, v39.1⟩, some ⟨tStr, v39.2.1⟩, none]) () (.same (.same (.same (.same (.same (.same (.same (.same (.same (.same (.same (.same .nil)))))))))))) (.keep (.keep (.keep .nil))))) fun b57 =>
  rb_asg xo (G := G__law_table) (.skip (.skip (.keep .nil))) 11 11 imF (re_bor (.there .here) frz_ownD (fl_ownD fl_flat) ⟨(fl_ownD fl_flat), ⟨(fl_own fl_flat), trivial⟩⟩ fl_flat fun v59 => re_ixD xo imF (re_var xo 5 5) (re_cv cv_chr (re_ixS (re_bor .here frz_ownD (fl_ownD fl_flat) ⟨(fl_own fl_flat), trivial⟩ fl_flat fun v62 => re_call xo (lks.2.2.1) 16 (ra_cons im_has (re_cv (cv_has (fs := [([112, 97, 114, 116, 115], (tDct tStr))]) (n := [112, 97, 114, 116, 115]) .here (by decide)) (re_rec (fs := [([112, 97, 114, 116, 115], (tDct tStr))]) (rp_cons (n := [112, 97, 114, 116, 115]) im_dct (re_var xo 6 6) rp_nil))) (ra_cons imF (re_cv cv_chr (re_var xo 7 7)) ra_nil))) re_int))) fun v63 =>
  rb_setD xo (G := G__law_table) (.skip (.skip (.keep .nil))) (.there .here) 5 imF (re_if (RW.rt (rw_or (rt_eq sca_int (re_var xo 11 11) re_int) (rw_or1 (rt_gt (re_callO xo (lks.2.1) 13 (.there (.there .here)) 0 (ra_cons imF re_int ra_nil) (hib := by rfl)) re_int)))) (re_var xo 11 11) (re_add re_int (re_callO xo (lks.2.1) 13 (.there (.there .here)) 0 (ra_cons imF (re_var xo 4 4) ra_nil) (hib := by rfl)))) (re_cv cv_chr (re_var xo 7 7))
  (rb_nil (G := G__law_table) (Γn := fun b34 : Unit => [none, some ⟨tInt, x.1⟩, some ⟨tInt, x.2.1⟩, some ⟨(tLst tChr), v30⟩, some ⟨tInt, v31.1⟩, none, none, none, none, none, none, none]) () (.same (.same (.same (.same (.same (.same (.same (.drop (.drop (.drop (.drop (.drop .nil)))))))))))) (.keep (.keep (.keep .nil))))))) fun b34 =>
  rb_frzD (.there .here) fun v64 =>
  rb_frzD .here fun v65 =>
  rb_one (rs_ret (G := G__law_table) (.keep .nil) (re_rec (fs := [([99, 108, 97, 115, 115, 101, 115], (tDctL tInt)), ([112, 97, 114, 116, 115], (tDctL tStr)), ([98, 97, 114, 114, 101, 100], tStr)]) (rp_cons (n := [99, 108, 97, 115, 115, 101, 115]) im_dctL (re_var xo 5 5) (rp_cons (n := [112, 97, 114, 116, 115]) im_dctL (re_var xo 6 6) (rp_cons (n := [98, 97, 114, 114, 101, 100]) imF (re_callO xo (lks.2.2.2.1) 17 .here 0 (ra_cons im_dctL (re_var xo 6 6) ra_nil) (hib := by rfl)) rp_nil)))))⟩
noncomputable def r__law_table (K : PySem.W.Frag) : (tOwn tInt).A → (tInt.A × tInt.A × Unit) → Option (Except Exn (tRec [([99, 108, 97, 115, 115, 101, 115], (tDctL tInt)), ([112, 97, 114, 116, 115], (tDctL tStr)), ([98, 97, 114, 114, 101, 100], tStr)]).A × (tOwn tInt).A) := fun y x => runO ((d__law_table K).1 x (y, ()))

/-! ### _law_turned_i -/
abbrev st__law_turned_i : Stmt := top 47
abbrev N__law_turned_i : List Str := ["box", "rows", "left", "found", "key"]
abbrev ps__law_turned_i : List Str := ["box", "rows"]
abbrev G__law_turned_i : FX := ⟨[0], [(0, (tOwn tInt))], (tOwnD tInt)⟩
def L__law_turned_i (K : PySem.W.Frag) (M : Md) : Prop := LkO M "_law_take" ps__law_take (tOwn tInt) [tInt] tInt (r__law_take K) 1 ∧ M.K = K
set_option maxHeartbeats 4000000 in
noncomputable def d__law_turned_i (K : PySem.W.Frag) : { m : ((tDctL tInt).A × Unit) → OT [(0, (tOwn tInt))] → OutT G__law_turned_i LC.none Unit [] // ∀ (X : Cx) (lks : L__law_turned_i K X.md) (xo : XOk X N__law_turned_i (defScope st__law_turned_i) Bn 1) (xs : XS X) (x : (tDctL tInt).A × Unit), RB X G__law_turned_i LC.none [none, some ⟨(tDctL tInt), x.1⟩, none, none, none] [(0, (tOwn tInt))] (defBody st__law_turned_i) (fun _ : Unit => []) [] (m x) } := ⟨_, fun X lks xo xs x =>
  rb_par2 xo (G := G__law_turned_i) (.keep .nil) 2 3 2 3 (ts := [(tOwn tStr), (tOwnD tInt)]) (.own 2 (.own 3 .nil)) (ram_cons (re_listD xo 5 5 (ra_cons im_dct (re_cv cv_dctL (re_var xo 1 1)) ra_nil)) (ram_cons (re_dnew (t := tInt)) ram_nil)) fun v77 =>
  rb_cons (G := G__law_turned_i) (Γm := fun b78 : Unit => [none, some ⟨(tDctL tInt), x.1⟩, none, none, none]) (om := [(3, (tOwnD tInt)), (2, (tOwn tStr)), (0, (tOwn tInt))]) (rs_while (G := G__law_turned_i) (β := Unit) (.skip (.skip (.keep .nil))) xs.own 1000000000 (ΓL := fun b78 : Unit => [none, some ⟨(tDctL tInt), x.1⟩, none, none, none]) (b0 := ()) (.same (.same (.same (.same (.same .nil))))) (fun b78 => rt_bor (.there .here) frz_own (fl_own fl_flat) ⟨(fl_ownD fl_flat), ⟨(fl_own fl_flat), trivial⟩⟩ fun v80 => rt_neL0 xo (re_var xo 2 2) (re_frz frz_own (re_list (t := tStr) ral_nil))) (fun b78 =>
  rb_asg xo (G := G__law_turned_i) (.skip (.skip (.keep .nil))) 4 4 imF (re_popAt xo imF (.there .here) 2 (ra_cons imF (re_callO xo (lks.1) 6 (.there (.there .here)) 0 (ra_cons imF (re_bor (.there .here) frz_own (fl_own fl_flat) ⟨(fl_ownD fl_flat), ⟨(fl_own fl_flat), trivial⟩⟩ fl_flat fun v82 => re_lenL xo 7 3 (ra_cons im_lst (re_var xo 2 2) ra_nil)) ra_nil) (hib := by rfl)) ra_nil)) fun v83 =>
  rb_setD xo (G := G__law_turned_i) (.skip (.skip (.keep .nil))) .here 3 imF (re_ixD xo imF (re_cv cv_dctL (re_var xo 1 1)) (re_var xo 4 4)) (re_var xo 4 4)
  (rb_nil (G := G__law_turned_i) (Γn := fun b78 : Unit => [none, some ⟨(tDctL tInt), x.1⟩, none, none, none]) () (.same (.same (.same (.same (.drop .nil))))) (.keep (.keep (.keep .nil)))))) fun b78 =>
  rb_one (rs_retO (G := G__law_turned_i) (j := 3) xo .here (.skip (.keep .nil)) (by rfl))⟩
noncomputable def r__law_turned_i (K : PySem.W.Frag) : (tOwn tInt).A → ((tDctL tInt).A × Unit) → Option (Except Exn (tOwnD tInt).A × (tOwn tInt).A) := fun y x => runO ((d__law_turned_i K).1 x (y, ()))

/-! ### _law_turned_s -/
abbrev st__law_turned_s : Stmt := top 47
abbrev N__law_turned_s : List Str := ["box", "rows", "left", "found", "key"]
abbrev ps__law_turned_s : List Str := ["box", "rows"]
abbrev G__law_turned_s : FX := ⟨[0], [(0, (tOwn tInt))], (tOwnD tStr)⟩
def L__law_turned_s (K : PySem.W.Frag) (M : Md) : Prop := LkO M "_law_take" ps__law_take (tOwn tInt) [tInt] tInt (r__law_take K) 1 ∧ M.K = K
set_option maxHeartbeats 4000000 in
noncomputable def d__law_turned_s (K : PySem.W.Frag) : { m : ((tDctL tStr).A × Unit) → OT [(0, (tOwn tInt))] → OutT G__law_turned_s LC.none Unit [] // ∀ (X : Cx) (lks : L__law_turned_s K X.md) (xo : XOk X N__law_turned_s (defScope st__law_turned_s) Bn 1) (xs : XS X) (x : (tDctL tStr).A × Unit), RB X G__law_turned_s LC.none [none, some ⟨(tDctL tStr), x.1⟩, none, none, none] [(0, (tOwn tInt))] (defBody st__law_turned_s) (fun _ : Unit => []) [] (m x) } := ⟨_, fun X lks xo xs x =>
  rb_par2 xo (G := G__law_turned_s) (.keep .nil) 2 3 2 3 (ts := [(tOwn tStr), (tOwnD tStr)]) (.own 2 (.own 3 .nil)) (ram_cons (re_listD xo 5 5 (ra_cons im_dct (re_cv cv_dctL (re_var xo 1 1)) ra_nil)) (ram_cons (re_dnew (t := tStr)) ram_nil)) fun v84 =>
  rb_cons (G := G__law_turned_s) (Γm := fun b85 : Unit => [none, some ⟨(tDctL tStr), x.1⟩, none, none, none]) (om := [(3, (tOwnD tStr)), (2, (tOwn tStr)), (0, (tOwn tInt))]) (rs_while (G := G__law_turned_s) (β := Unit) (.skip (.skip (.keep .nil))) xs.own 1000000000 (ΓL := fun b85 : Unit => [none, some ⟨(tDctL tStr), x.1⟩, none, none, none]) (b0 := ()) (.same (.same (.same (.same (.same .nil))))) (fun b85 => rt_bor (.there .here) frz_own (fl_own fl_flat) ⟨(fl_ownD fl_flat), ⟨(fl_own fl_flat), trivial⟩⟩ fun v87 => rt_neL0 xo (re_var xo 2 2) (re_frz frz_own (re_list (t := tStr) ral_nil))) (fun b85 =>
  rb_asg xo (G := G__law_turned_s) (.skip (.skip (.keep .nil))) 4 4 imF (re_popAt xo imF (.there .here) 2 (ra_cons imF (re_callO xo (lks.1) 6 (.there (.there .here)) 0 (ra_cons imF (re_bor (.there .here) frz_own (fl_own fl_flat) ⟨(fl_ownD fl_flat), ⟨(fl_own fl_flat), trivial⟩⟩ fl_flat fun v89 => re_lenL xo 7 3 (ra_cons im_lst (re_var xo 2 2) ra_nil)) ra_nil) (hib := by rfl)) ra_nil)) fun v90 =>
  rb_setD xo (G := G__law_turned_s) (.skip (.skip (.keep .nil))) .here 3 imF (re_ixD xo imF (re_cv cv_dctL (re_var xo 1 1)) (re_var xo 4 4)) (re_var xo 4 4)
  (rb_nil (G := G__law_turned_s) (Γn := fun b85 : Unit => [none, some ⟨(tDctL tStr), x.1⟩, none, none, none]) () (.same (.same (.same (.same (.drop .nil))))) (.keep (.keep (.keep .nil)))))) fun b85 =>
  rb_one (rs_retO (G := G__law_turned_s) (j := 3) xo .here (.skip (.keep .nil)) (by rfl))⟩
noncomputable def r__law_turned_s (K : PySem.W.Frag) : (tOwn tInt).A → ((tDctL tStr).A × Unit) → Option (Except Exn (tOwnD tStr).A × (tOwn tInt).A) := fun y x => runO ((d__law_turned_s K).1 x (y, ()))

/-! ### is_character_s -/
abbrev st_is_character_s : Stmt := top 17
abbrev N_is_character_s : List Str := ["value"]
abbrev ps_is_character_s : List Str := ["value"]
abbrev G_is_character_s : FX := ⟨[], [], tBool⟩
def L_is_character_s (K : PySem.W.Frag) (M : Md) : Prop := LkC M "CHARACTERS" (.str (sOf [48, 49, 50, 51, 52, 53, 54, 55, 56, 57, 65, 66, 67, 68, 69, 70, 71, 72, 73, 74, 75, 76, 77, 78, 79, 80, 81, 82, 83, 84, 85, 86, 87, 88, 89, 90, 97, 98, 99, 100, 101, 102, 103, 104, 105, 106, 107, 108, 109, 110, 111, 112, 113, 114, 115, 116, 117, 118, 119, 120, 121, 122])) ∧ M.K = K
set_option maxHeartbeats 4000000 in
noncomputable def d_is_character_s (K : PySem.W.Frag) : { m : (tStr.A × Unit) → OT [] → OutT G_is_character_s LC.none Unit [] // ∀ (X : Cx) (lks : L_is_character_s K X.md) (xo : XOk X N_is_character_s (defScope st_is_character_s) Bn 0) (xs : XS X) (x : tStr.A × Unit), RB X G_is_character_s LC.none [some ⟨tStr, x.1⟩] [] (defBody st_is_character_s) (fun _ : Unit => []) [] (m x) } := ⟨_, fun X lks xo xs x =>
  rb_one (rs_ret (G := G_is_character_s) .nil (re_and (re_isiT xo 1 6 2 9 (T := "str") sty_str imF (r := true) (by decide +kernel) (by decide +kernel) (by decide) (by decide) (re_var xo 0 0)) (re_and (re_eq sca_int (re_lenS xo 3 3 (ra_cons imF (re_var xo 0 0) ra_nil)) re_int) (re_one (re_inS (re_var xo 0 0) (re_gstr xo (lks.1) 4))))))⟩
noncomputable def r_is_character_s (K : PySem.W.Frag) : (tStr.A × Unit) → Option (Except Exn tBool.A) := fun x => runZ (none) ((d_is_character_s K).1 x ())

/-! ### is_character_c -/
abbrev st_is_character_c : Stmt := top 17
abbrev N_is_character_c : List Str := ["value"]
abbrev ps_is_character_c : List Str := ["value"]
abbrev G_is_character_c : FX := ⟨[], [], tBool⟩
def L_is_character_c (K : PySem.W.Frag) (M : Md) : Prop := LkC M "CHARACTERS" (.str (sOf [48, 49, 50, 51, 52, 53, 54, 55, 56, 57, 65, 66, 67, 68, 69, 70, 71, 72, 73, 74, 75, 76, 77, 78, 79, 80, 81, 82, 83, 84, 85, 86, 87, 88, 89, 90, 97, 98, 99, 100, 101, 102, 103, 104, 105, 106, 107, 108, 109, 110, 111, 112, 113, 114, 115, 116, 117, 118, 119, 120, 121, 122])) ∧ M.K = K
set_option maxHeartbeats 4000000 in
noncomputable def d_is_character_c (K : PySem.W.Frag) : { m : (tChr.A × Unit) → OT [] → OutT G_is_character_c LC.none Unit [] // ∀ (X : Cx) (lks : L_is_character_c K X.md) (xo : XOk X N_is_character_c (defScope st_is_character_c) Bn 0) (xs : XS X) (x : tChr.A × Unit), RB X G_is_character_c LC.none [some ⟨tChr, x.1⟩] [] (defBody st_is_character_c) (fun _ : Unit => []) [] (m x) } := ⟨_, fun X lks xo xs x =>
  rb_one (rs_ret (G := G_is_character_c) .nil (re_and (re_isiT xo 1 6 2 9 (T := "str") sty_chr imF (r := true) (by decide +kernel) (by decide +kernel) (by decide) (by decide) (re_var xo 0 0)) (re_and (re_eq sca_int (re_lenS xo 3 3 (ra_cons imF (re_cv cv_chr (re_var xo 0 0)) ra_nil)) re_int) (re_one (re_inC (re_var xo 0 0) (re_gstr xo (lks.1) 4))))))⟩
noncomputable def r_is_character_c (K : PySem.W.Frag) : (tChr.A × Unit) → Option (Except Exn tBool.A) := fun x => runZ (none) ((d_is_character_c K).1 x ())

/-! ### in_order -/
abbrev st_in_order : Stmt := top 19
abbrev N_in_order : List Str := ["characters", "char"]
abbrev ps_in_order : List Str := ["characters"]
abbrev G_in_order : FX := ⟨[], [], tStr⟩
def L_in_order (K : PySem.W.Frag) (M : Md) : Prop := LkP M "is_character" ps_is_character_c [tChr] tBool (r_is_character_c K) 1 ∧ LkC M "CHARACTERS" (.str (sOf [48, 49, 50, 51, 52, 53, 54, 55, 56, 57, 65, 66, 67, 68, 69, 70, 71, 72, 73, 74, 75, 76, 77, 78, 79, 80, 81, 82, 83, 84, 85, 86, 87, 88, 89, 90, 97, 98, 99, 100, 101, 102, 103, 104, 105, 106, 107, 108, 109, 110, 111, 112, 113, 114, 115, 116, 117, 118, 119, 120, 121, 122])) ∧ M.K = K
set_option maxHeartbeats 4000000 in
noncomputable def d_in_order (K : PySem.W.Frag) : { m : (tStr.A × Unit) → OT [] → OutT G_in_order LC.none Unit [] // ∀ (X : Cx) (lks : L_in_order K X.md) (xo : XOk X N_in_order (defScope st_in_order) Bn 1) (xs : XS X) (x : tStr.A × Unit), RB X G_in_order LC.none [some ⟨tStr, x.1⟩, none] [] (defBody st_in_order) (fun _ : Unit => []) [] (m x) } := ⟨_, fun X lks xo xs x =>
  rb_cons (G := G_in_order) (Γm := fun b98 : Unit => [some ⟨tStr, x.1⟩, none]) (om := []) (rs_if (G := G_in_order) .nil (rt_not (rt_val (re_isiT xo 2 6 3 9 (T := "str") sty_str imF (r := true) (by decide +kernel) (by decide +kernel) (by decide) (by decide) (re_var xo 0 0)))) (rb_one rs_fail) (rb_nil (G := G_in_order) (Γn := fun b98 : Unit => [some ⟨tStr, x.1⟩, none]) () (.same (.same .nil)) .nil)) fun b98 =>
  rb_cons (G := G_in_order) (Γm := fun b99 : Unit => [some ⟨tStr, x.1⟩, none]) (om := []) (rs_for (G := G_in_order) (β := Unit) .nil xs.own xo.calm (ΓL := fun b99 : Unit => [some ⟨tStr, x.1⟩, none]) (b0 := ()) (.same (.same .nil)) (ri_str (re_var xo 0 0)) (fun b99 => rg_name xo 1 1) (fun v100 b99 =>
  rb_cons (G := G_in_order) (Γm := fun b101 : Unit => [some ⟨tStr, x.1⟩, some ⟨tChr, v100⟩]) (om := []) (rs_if (G := G_in_order) .nil (rt_not (rt_val (re_call xo (lks.1) 5 (ra_cons imF (re_var xo 1 1) ra_nil)))) (rb_one rs_fail) (rb_nil (G := G_in_order) (Γn := fun b101 : Unit => [some ⟨tStr, x.1⟩, some ⟨tChr, v100⟩]) () (.same (.same .nil)) .nil)) fun b101 =>
  rb_nil (G := G_in_order) (Γn := fun b99 : Unit => [some ⟨tStr, x.1⟩, none]) () (.same (.drop .nil)) .nil)) fun b99 =>
  rb_one (rs_ret (G := G_in_order) .nil (re_join0 (re_frz frz_own (re_lc lks xo [("char", 1)] [0] imF (ri_str (re_gstr xo (lks.2.1) 6)) (fun X103 o105 => rg_name o105 1 1) (fun X103 l104 o105 v102 => rts_one (rt_inC (re_var o105 1 1) (re_var o105 0 2))) (fun X103 l104 o105 v102 => re_var o105 1 1)))))⟩
noncomputable def r_in_order (K : PySem.W.Frag) : (tStr.A × Unit) → Option (Except Exn tStr.A) := fun x => runZ (none) ((d_in_order K).1 x ())

/-! ### is_class -/
abbrev st_is_class : Stmt := top 25
abbrev N_is_class : List Str := ["value", "most"]
abbrev ps_is_class : List Str := ["value", "most"]
abbrev G_is_class : FX := ⟨[], [], tBool⟩
def L_is_class (K : PySem.W.Frag) (M : Md) : Prop := M.K = K
set_option maxHeartbeats 4000000 in
noncomputable def d_is_class (K : PySem.W.Frag) : { m : (tInt.A × tInt.A × Unit) → OT [] → OutT G_is_class LC.none Unit [] // ∀ (X : Cx) (lks : L_is_class K X.md) (xo : XOk X N_is_class (defScope st_is_class) Bn 0) (xs : XS X) (x : tInt.A × tInt.A × Unit), RB X G_is_class LC.none [some ⟨tInt, x.1⟩, some ⟨tInt, x.2.1⟩] [] (defBody st_is_class) (fun _ : Unit => []) [] (m x) } := ⟨_, fun X lks xo xs x =>
  rb_one (rs_ret (G := G_is_class) .nil (re_and (re_isiT xo 2 6 3 4 (T := "int") sty_int imF (r := true) (by decide +kernel) (by decide +kernel) (by decide) (by decide) (re_var xo 0 0)) (re_and (re_not (re_isiT xo 2 6 4 10 (T := "bool") sty_int imF (r := false) (by decide +kernel) (by decide +kernel) (by decide) (by decide) (re_var xo 0 0))) (re_one (re_chain op_le op_le re_int (re_var xo 0 0) (re_var xo 1 1))))))⟩
noncomputable def r_is_class (K : PySem.W.Frag) : (tInt.A × tInt.A × Unit) → Option (Except Exn tBool.A) := fun x => runZ (none) ((d_is_class K).1 x ())

/-! ### require_classes -/
abbrev st_require_classes : Stmt := top 26
abbrev N_require_classes : List Str := ["classes", "char"]
abbrev ps_require_classes : List Str := ["classes"]
abbrev G_require_classes : FX := ⟨[], [], tNone⟩
def L_require_classes (K : PySem.W.Frag) (M : Md) : Prop := LkP M "is_character" ps_is_character_s [tStr] tBool (r_is_character_s K) 1 ∧ LkP M "in_order" ps_in_order [tStr] tStr (r_in_order K) 2 ∧ LkP M "is_class" ps_is_class [tInt, tInt] tBool (r_is_class K) 1 ∧ LkV M "Table" "MAX_CHARACTERS" 30 ∧ LkV M "Table" "MAX_CLASS" 9 ∧ M.K = K
set_option maxHeartbeats 4000000 in
noncomputable def d_require_classes (K : PySem.W.Frag) : { m : ((tDct tInt).A × Unit) → OT [] → OutT G_require_classes LC.none Unit [] // ∀ (X : Cx) (lks : L_require_classes K X.md) (xo : XOk X N_require_classes (defScope st_require_classes) Bn 2) (xs : XS X) (x : (tDct tInt).A × Unit), RB X G_require_classes LC.none [some ⟨(tDct tInt), x.1⟩, none] [] (defBody st_require_classes) (fun _ : Unit => [none, none]) [] (m x) } := ⟨_, fun X lks xo xs x =>
  rb_cons (G := G_require_classes) (Γm := fun b96 : Unit => [some ⟨(tDct tInt), x.1⟩, none]) (om := []) (rs_if (G := G_require_classes) .nil (RW.rt (rw_or (rt_not (rt_val (re_isiT xo 2 6 3 7 (T := "dict") sty_dct im_dct (r := true) (by decide +kernel) (by decide +kernel) (by decide) (by decide) (re_var xo 0 0)))) (rw_or1 (rt_not (rt_val (re_all xo 4 8 (ra_cons im_lst (re_frz frz_own (re_lockD (i := 0) (x := x.1) (by intro y hy u x e; simp only [List.mem_cons, List.not_mem_nil, or_false] at hy; rcases hy with rfl; all_goals first | (cases e; done)) trivial flk_flat (fl_own fl_flat) trivial (re_lc lks xo [("char", 1)] [0] imF (ri_dctL (re_var xo 0 0)) (fun X93 o95 => rg_name o95 1 1) (fun X93 l94 o95 v92 => rts_nil) (fun X93 l94 o95 v92 => re_call o95 (l94.1) 2 (ra_cons imF (re_var o95 1 1) ra_nil))))) ra_nil))))))) (rb_one rs_fail) (rb_nil (G := G_require_classes) (Γn := fun b96 : Unit => [some ⟨(tDct tInt), x.1⟩, none]) () (.same (.same .nil)) .nil)) fun b96 =>
  rb_cons (G := G_require_classes) (Γm := fun b97 : Unit => [some ⟨(tDct tInt), x.1⟩, none]) (om := []) (rs_if (G := G_require_classes) .nil (rt_not (rt_chain op_le op_le re_int (re_lenD xo 6 3 (ra_cons im_dct (re_var xo 0 0) ra_nil)) (re_cval xo (lks.2.2.2.1) 7))) (rb_one rs_fail) (rb_nil (G := G_require_classes) (Γn := fun b97 : Unit => [some ⟨(tDct tInt), x.1⟩, none]) () (.same (.same .nil)) .nil)) fun b97 =>
  rb_cons (G := G_require_classes) (Γm := fun b106 : Unit => [some ⟨(tDct tInt), x.1⟩, none]) (om := []) (rs_for (G := G_require_classes) (β := Unit) .nil xs.own xo.calm (ΓL := fun b106 : Unit => [some ⟨(tDct tInt), x.1⟩, none]) (b0 := ()) (.same (.same .nil)) (ri_str (re_call xo (lks.2.1) 9 (ra_cons imF (re_join0L (re_frz frz_own (re_listD xo 10 5 (ra_cons im_dct (re_var xo 0 0) ra_nil)))) ra_nil))) (fun b106 => rg_name xo 1 1) (fun v107 b106 =>
  rb_cons (G := G_require_classes) (Γm := fun b108 : Unit => [some ⟨(tDct tInt), x.1⟩, some ⟨tChr, v107⟩]) (om := []) (rs_if (G := G_require_classes) .nil (rt_not (rt_val (re_call xo (lks.2.2.1) 11 (ra_cons imF (re_ixD xo imF (re_var xo 0 0) (re_cv cv_chr (re_var xo 1 1))) (ra_cons imF (re_cval xo (lks.2.2.2.2.1) 7) ra_nil))))) (rb_one rs_fail) (rb_nil (G := G_require_classes) (Γn := fun b108 : Unit => [some ⟨(tDct tInt), x.1⟩, some ⟨tChr, v107⟩]) () (.same (.same .nil)) .nil)) fun b108 =>
  rb_nil (G := G_require_classes) (Γn := fun b106 : Unit => [some ⟨(tDct tInt), x.1⟩, none]) () (.same (.drop .nil)) .nil)) fun b106 =>
  rb_nil (G := G_require_classes) (Γn := fun _ : Unit => [none, none]) () (.drop (.same .nil)) .nil⟩
noncomputable def r_require_classes (K : PySem.W.Frag) : ((tDct tInt).A × Unit) → Option (Except Exn tNone.A) := fun x => runZ (some ()) ((d_require_classes K).1 x ())

/-! ### is_text -/
abbrev st_is_text : Stmt := top 18
abbrev N_is_text : List Str := ["value", "characters", "char"]
abbrev ps_is_text : List Str := ["value", "characters"]
abbrev G_is_text : FX := ⟨[], [], tBool⟩
def L_is_text (K : PySem.W.Frag) (M : Md) : Prop := M.K = K
set_option maxHeartbeats 4000000 in
noncomputable def d_is_text (K : PySem.W.Frag) : { m : (tStr.A × tStr.A × Unit) → OT [] → OutT G_is_text LC.none Unit [] // ∀ (X : Cx) (lks : L_is_text K X.md) (xo : XOk X N_is_text (defScope st_is_text) Bn 0) (xs : XS X) (x : tStr.A × tStr.A × Unit), RB X G_is_text LC.none [some ⟨tStr, x.1⟩, some ⟨tStr, x.2.1⟩, none] [] (defBody st_is_text) (fun _ : Unit => []) [] (m x) } := ⟨_, fun X lks xo xs x =>
  rb_one (rs_ret (G := G_is_text) .nil (re_and (re_isiT xo 2 6 3 9 (T := "str") sty_str imF (r := true) (by decide +kernel) (by decide +kernel) (by decide) (by decide) (re_var xo 0 0)) (re_one (re_all xo 4 8 (ra_cons im_lst (re_frz frz_own (re_lc lks xo [("char", 2)] [0, 1] imF (ri_str (re_var xo 0 0)) (fun X125 o127 => rg_name o127 2 1) (fun X125 l126 o127 v124 => rts_nil) (fun X125 l126 o127 v124 => re_inC (re_var o127 2 1) (re_var o127 1 2)))) ra_nil)))))⟩
noncomputable def r_is_text (K : PySem.W.Frag) : (tStr.A × tStr.A × Unit) → Option (Except Exn tBool.A) := fun x => runZ (none) ((d_is_text K).1 x ())

/-! ### reached_from -/
abbrev st_reached_from : Stmt := top 21
abbrev N_reached_from : List Str := ["char", "decompositions", "found", "at", "other"]
abbrev ps_reached_from : List Str := ["char", "decompositions"]
abbrev G_reached_from : FX := ⟨[], [], (tOwn tChr)⟩
def L_reached_from (K : PySem.W.Frag) (M : Md) : Prop := M.K = K
set_option maxHeartbeats 4000000 in
noncomputable def d_reached_from (K : PySem.W.Frag) : { m : (tChr.A × (tDct tStr).A × Unit) → OT [] → OutT G_reached_from LC.none Unit [] // ∀ (X : Cx) (lks : L_reached_from K X.md) (xo : XOk X N_reached_from (defScope st_reached_from) Bn 0) (xs : XS X) (x : tChr.A × (tDct tStr).A × Unit), RB X G_reached_from LC.none [some ⟨tChr, x.1⟩, some ⟨(tDct tStr), x.2.1⟩, none, none, none] [] (defBody st_reached_from) (fun _ : Unit => []) [] (m x) } := ⟨_, fun X lks xo xs x =>
  rb_asgO xo (G := G_reached_from) .nil 2 2 (re_listS xo 4 5 (ra_cons imF (re_ixD xo imF (re_var xo 1 1) (re_cv cv_chr (re_var xo 0 0))) ra_nil))
  (rb_asg xo (G := G_reached_from) (.skip .nil) 3 3 imF re_int fun v132 =>
  rb_cons (G := G_reached_from) (Γm := fun b133 : tInt.A × Unit => [some ⟨tChr, x.1⟩, some ⟨(tDct tStr), x.2.1⟩, none, some ⟨tInt, b133.1⟩, none]) (om := [(2, (tOwn tChr))]) (rs_while (G := G_reached_from) (β := tInt.A × Unit) (.skip .nil) xs.own 1000000000 (ΓL := fun b133 : tInt.A × Unit => [some ⟨tChr, x.1⟩, some ⟨(tDct tStr), x.2.1⟩, none, some ⟨tInt, b133.1⟩, none]) (b0 := (v132, ())) (.same (.same (.same (.same (.same .nil))))) (fun b133 => rt_lt (re_var xo 3 3) (re_bor .here frz_own (fl_own fl_flat) trivial fl_flat fun v135 => re_lenL xo 5 3 (ra_cons im_lst (re_var xo 2 2) ra_nil))) (fun b133 =>
  rb_expr (G := G_reached_from) (.skip .nil) (re_extend xo .here 2 (ra_cons im_lst (re_frz frz_own (re_lc lks xo [("other", 4)] [0, 1, 2, 3] imF (ri_str (re_get2 xo imF (re_var xo 1 1) (re_cv cv_chr (re_bor .here frz_own (fl_own fl_flat) trivial fl_flat fun v137 => re_ixL imF (re_var xo 2 2) (re_var xo 3 3))) (re_str []))) (fun X139 o141 => rg_name o141 4 1) (fun X139 l140 o141 v138 => rts_one (rt_bor .here frz_own (fl_own fl_flat) trivial fun v143 => rt_niL (re_cv cv_chr (re_var o141 4 1)) (re_cv cv_lstC (re_var o141 2 2)))) (fun X139 l140 o141 v138 => re_var o141 4 1))) ra_nil))
  (rb_augI xo (G := G_reached_from) (.skip .nil) 3 3 re_int fun v144 =>
  rb_nil (G := G_reached_from) (Γn := fun b133 : tInt.A × Unit => [some ⟨tChr, x.1⟩, some ⟨(tDct tStr), x.2.1⟩, none, some ⟨tInt, b133.1⟩, none]) (v144, ()) (.same (.same (.same (.same (.same .nil))))) (.keep .nil)))) fun b133 =>
  rb_one (rs_retO (G := G_reached_from) (j := 2) xo .here .nil (by rfl)))⟩
noncomputable def r_reached_from (K : PySem.W.Frag) : (tChr.A × (tDct tStr).A × Unit) → Option (Except Exn (tOwn tChr).A) := fun x => runZ (none) ((d_reached_from K).1 x ())

/-! ### require_decompositions -/
abbrev st_require_decompositions : Stmt := top 27
abbrev N_require_decompositions : List Str := ["decompositions", "characters", "char", "composites", "value"]
abbrev ps_require_decompositions : List Str := ["decompositions", "characters"]
abbrev G_require_decompositions : FX := ⟨[], [], tNone⟩
def L_require_decompositions (K : PySem.W.Frag) (M : Md) : Prop := LkP M "is_text" ps_is_text [tStr, tStr] tBool (r_is_text K) 1 ∧ LkP M "reached_from" ps_reached_from [tChr, (tDct tStr)] (tOwn tChr) (r_reached_from K) 1 ∧ M.K = K
set_option maxHeartbeats 4000000 in
noncomputable def d_require_decompositions (K : PySem.W.Frag) : { m : ((tDct tStr).A × tStr.A × Unit) → OT [] → OutT G_require_decompositions LC.none Unit [] // ∀ (X : Cx) (lks : L_require_decompositions K X.md) (xo : XOk X N_require_decompositions (defScope st_require_decompositions) Bn 1) (xs : XS X) (x : (tDct tStr).A × tStr.A × Unit), RB X G_require_decompositions LC.none [some ⟨(tDct tStr), x.1⟩, some ⟨tStr, x.2.1⟩, none, none, none] [] (defBody st_require_decompositions) (fun _ : Unit => [none, none, none, none, none]) [] (m x) } := ⟨_, fun X lks xo xs x =>
  rb_cons (G := G_require_decompositions) (Γm := fun b115 : Unit => [some ⟨(tDct tStr), x.1⟩, some ⟨tStr, x.2.1⟩, none, none, none]) (om := []) (rs_if (G := G_require_decompositions) .nil (RW.rt (rw_or (rt_not (rt_val (re_isiT xo 5 6 6 7 (T := "dict") sty_dct im_dct (r := true) (by decide +kernel) (by decide +kernel) (by decide) (by decide) (re_var xo 0 0)))) (rw_or1 (rt_not (rt_val (re_all xo 7 8 (ra_cons im_lst (re_frz frz_own (re_lockD (i := 0) (x := x.1) (by intro y hy u x e; simp only [List.mem_cons, List.not_mem_nil, or_false] at hy; rcases hy with rfl | rfl | rfl | rfl; all_goals first | (cases e; done) | (cases e; exact flk_flat)) trivial flk_flat (fl_own fl_flat) trivial (re_lc lks xo [("char", 2)] [0, 1, 3, 4] imF (ri_dctL (re_var xo 0 0)) (fun X112 o114 => rg_name o114 2 1) (fun X112 l113 o114 v111 => rts_nil) (fun X112 l113 o114 v111 => re_inL (re_var o114 2 1) (re_cv cv_lstC (re_frz frz_own (re_listS o114 2 5 (ra_cons imF (re_var o114 1 3) ra_nil)))))))) ra_nil))))))) (rb_one rs_fail) (rb_nil (G := G_require_decompositions) (Γn := fun b115 : Unit => [some ⟨(tDct tStr), x.1⟩, some ⟨tStr, x.2.1⟩, none, none, none]) () (.same (.same (.same (.same (.same .nil))))) .nil)) fun b115 =>
  rb_asgLc lks xo (G := G_require_decompositions) .nil [("char", 2)] [0, 1, 3, 4] 3 3 imF (ri_str (re_var xo 1 1)) (fun X117 o119 => rg_name o119 2 1) (fun X117 l118 o119 v116 => rts_one (rt_inD o119 (re_cv cv_chr (re_var o119 2 1)) (re_var o119 0 2))) (fun X117 l118 o119 v116 => re_var o119 2 1) fun v120 =>
  rb_cons (G := G_require_decompositions) (Γm := fun b121 : Unit => [some ⟨(tDct tStr), x.1⟩, some ⟨tStr, x.2.1⟩, none, some ⟨(tLst tChr), v120⟩, none]) (om := []) (rs_for (G := G_require_decompositions) (β := Unit) .nil xs.own xo.calm (ΓL := fun b121 : Unit => [some ⟨(tDct tStr), x.1⟩, some ⟨tStr, x.2.1⟩, none, some ⟨(tLst tChr), v120⟩, none]) (b0 := ()) (.same (.same (.same (.same (.same .nil))))) (ri_list (re_var xo 3 3)) (fun b121 => rg_name xo 2 2) (fun v122 b121 =>
  rb_asg xo (G := G_require_decompositions) .nil 4 4 imF (re_ixD xo imF (re_var xo 0 0) (re_cv cv_chr (re_var xo 2 2))) fun v123 =>
  rb_cons (G := G_require_decompositions) (Γm := fun b128 : Unit => [some ⟨(tDct tStr), x.1⟩, some ⟨tStr, x.2.1⟩, some ⟨tChr, v122⟩, some ⟨(tLst tChr), v120⟩, some ⟨tStr, v123⟩]) (om := []) (rs_if (G := G_require_decompositions) .nil (RW.rt (rw_or (rt_not (rt_val (re_call xo (lks.1) 9 (ra_cons imF (re_var xo 4 4) (ra_cons imF (re_var xo 1 1) ra_nil))))) (rw_or1 (rt_not (rt_chain op_le op_le re_int (re_lenS xo 10 3 (ra_cons imF (re_var xo 4 4) ra_nil)) re_int))))) (rb_one rs_fail) (rb_nil (G := G_require_decompositions) (Γn := fun b128 : Unit => [some ⟨(tDct tStr), x.1⟩, some ⟨tStr, x.2.1⟩, some ⟨tChr, v122⟩, some ⟨(tLst tChr), v120⟩, some ⟨tStr, v123⟩]) () (.same (.same (.same (.same (.same .nil))))) .nil)) fun b128 =>
  rb_nil (G := G_require_decompositions) (Γn := fun b121 : Unit => [some ⟨(tDct tStr), x.1⟩, some ⟨tStr, x.2.1⟩, none, some ⟨(tLst tChr), v120⟩, none]) () (.same (.same (.drop (.same (.drop .nil))))) .nil)) fun b121 =>
  rb_cons (G := G_require_decompositions) (Γm := fun b129 : Unit => [some ⟨(tDct tStr), x.1⟩, some ⟨tStr, x.2.1⟩, none, some ⟨(tLst tChr), v120⟩, none]) (om := []) (rs_for (G := G_require_decompositions) (β := Unit) .nil xs.own xo.calm (ΓL := fun b129 : Unit => [some ⟨(tDct tStr), x.1⟩, some ⟨tStr, x.2.1⟩, none, some ⟨(tLst tChr), v120⟩, none]) (b0 := ()) (.same (.same (.same (.same (.same .nil))))) (ri_list (re_var xo 3 3)) (fun b129 => rg_name xo 2 2) (fun v130 b129 =>
  rb_cons (G := G_require_decompositions) (Γm := fun b145 : Unit => [some ⟨(tDct tStr), x.1⟩, some ⟨tStr, x.2.1⟩, some ⟨tChr, v130⟩, some ⟨(tLst tChr), v120⟩, none]) (om := []) (rs_if (G := G_require_decompositions) .nil (rt_inL (re_cv cv_chr (re_var xo 2 2)) (re_cv cv_lstC (re_frz frz_own (re_call xo (lks.2.1) 11 (ra_cons imF (re_var xo 2 2) (ra_cons im_dct (re_var xo 0 0) ra_nil)))))) (rb_one rs_fail) (rb_nil (G := G_require_decompositions) (Γn := fun b145 : Unit => [some ⟨(tDct tStr), x.1⟩, some ⟨tStr, x.2.1⟩, some ⟨tChr, v130⟩, some ⟨(tLst tChr), v120⟩, none]) () (.same (.same (.same (.same (.same .nil))))) .nil)) fun b145 =>
  rb_nil (G := G_require_decompositions) (Γn := fun b129 : Unit => [some ⟨(tDct tStr), x.1⟩, some ⟨tStr, x.2.1⟩, none, some ⟨(tLst tChr), v120⟩, none]) () (.same (.same (.drop (.same (.same .nil))))) .nil)) fun b129 =>
  rb_nil (G := G_require_decompositions) (Γn := fun _ : Unit => [none, none, none, none, none]) () (.drop (.drop (.same (.drop (.same .nil))))) .nil⟩
noncomputable def r_require_decompositions (K : PySem.W.Frag) : ((tDct tStr).A × tStr.A × Unit) → Option (Except Exn tNone.A) := fun x => runZ (some ()) ((d_require_decompositions K).1 x ())

/-! ### atom_counts -/
abbrev st_atom_counts : Stmt := top 22
abbrev N_atom_counts : List Str := ["decompositions", "characters", "char", "found", "part"]
abbrev ps_atom_counts : List Str := ["decompositions", "characters"]
abbrev G_atom_counts : FX := ⟨[], [], (tOwnD tInt)⟩
def L_atom_counts (K : PySem.W.Frag) (M : Md) : Prop := M.K = K
set_option maxHeartbeats 4000000 in
noncomputable def d_atom_counts (K : PySem.W.Frag) : { m : ((tDct tStr).A × tStr.A × Unit) → OT [] → OutT G_atom_counts LC.none Unit [] // ∀ (X : Cx) (lks : L_atom_counts K X.md) (xo : XOk X N_atom_counts (defScope st_atom_counts) Bn 0) (xs : XS X) (x : (tDct tStr).A × tStr.A × Unit), RB X G_atom_counts LC.none [some ⟨(tDct tStr), x.1⟩, some ⟨tStr, x.2.1⟩, none, none, none] [] (defBody st_atom_counts) (fun _ : Unit => []) [] (m x) } := ⟨_, fun X lks xo xs x =>
  rb_asgO xo (G := G_atom_counts) .nil 3 3 (hs := sw_at xo (j := 3) (kd := .cell) (by rfl) (by decide) (by rfl)) (re_dc lks xo [("char", 2)] [0, 1, 3, 4] imF (ri_str (re_var xo 1 1)) (fun X152 o154 => rg_name o154 2 1) (fun X152 l153 o154 v151 => rts_one (rt_niD o154 (re_cv cv_chr (re_var o154 2 1)) (re_var o154 0 2))) (fun X152 l153 o154 v151 => re_cv cv_chr (re_var o154 2 1)) (fun X152 l153 o154 v151 => re_int))
  (rb_cons (G := G_atom_counts) (Γm := fun b156 : Unit => [some ⟨(tDct tStr), x.1⟩, some ⟨tStr, x.2.1⟩, none, none, none]) (om := [(3, (tOwnD tInt))]) (rs_while (G := G_atom_counts) (β := Unit) (.skip .nil) xs.own 1000000000 (ΓL := fun b156 : Unit => [some ⟨(tDct tStr), x.1⟩, some ⟨tStr, x.2.1⟩, none, none, none]) (b0 := ()) (.same (.same (.same (.same (.same .nil))))) (fun b156 => rt_lt (re_bor .here frz_ownD (fl_ownD fl_flat) trivial fl_flat fun v158 => re_lenD xo 4 3 (ra_cons im_dct (re_var xo 3 3) ra_nil)) (re_lenS xo 4 3 (ra_cons imF (re_var xo 1 1) ra_nil))) (fun b156 =>
  rb_cons (G := G_atom_counts) (Γm := fun b159 : Unit => [some ⟨(tDct tStr), x.1⟩, some ⟨tStr, x.2.1⟩, none, none, none]) (om := [(3, (tOwnD tInt))]) (rs_for (G := G_atom_counts) (β := Unit) (.skip .nil) xs.own xo.calm (ΓL := fun b159 : Unit => [some ⟨(tDct tStr), x.1⟩, some ⟨tStr, x.2.1⟩, none, none, none]) (b0 := ()) (.same (.same (.same (.same (.same .nil))))) (ri_str (re_var xo 1 1)) (fun b159 => rg_name xo 2 2) (fun v160 b159 =>
  rb_cons (G := G_atom_counts) (Γm := fun b169 : Unit => [some ⟨(tDct tStr), x.1⟩, some ⟨tStr, x.2.1⟩, some ⟨tChr, v160⟩, none, none]) (om := [(3, (tOwnD tInt))]) (rs_if (G := G_atom_counts) (.skip .nil) (RW.rt (rw_and (rt_bor .here frz_ownD (fl_ownD fl_flat) trivial fun v162 => rt_niD xo (re_cv cv_chr (re_var xo 2 2)) (re_var xo 3 3)) (rw_and1 (rt_val (re_all xo 5 8 (ra_cons im_lst (re_frz frz_own (re_lc lks xo [("part", 4)] [0, 1, 2, 3] imF (ri_str (re_ixD xo imF (re_var xo 0 0) (re_cv cv_chr (re_var xo 2 2)))) (fun X164 o166 => rg_name o166 4 1) (fun X164 l165 o166 v163 => rts_nil) (fun X164 l165 o166 v163 => re_bor .here frz_ownD (fl_ownD fl_flat) trivial fl_flat fun v168 => re_inD o166 (re_cv cv_chr (re_var o166 4 1)) (re_var o166 3 2)))) ra_nil)))))) (rb_setD xo (G := G_atom_counts) (.skip .nil) .here 3 imF (re_sum xo 6 11 (ra_cons im_lst (re_frz frz_own (re_lc lks xo [("part", 4)] [0, 1, 2, 3] imF (ri_str (re_ixD xo imF (re_var xo 0 0) (re_cv cv_chr (re_var xo 2 2)))) (fun X171 o173 => rg_name o173 4 1) (fun X171 l172 o173 v170 => rts_nil) (fun X171 l172 o173 v170 => re_bor .here frz_ownD (fl_ownD fl_flat) trivial fl_flat fun v175 => re_ixD o173 imF (re_var o173 3 2) (re_cv cv_chr (re_var o173 4 1))))) ra_nil)) (re_cv cv_chr (re_var xo 2 2))
  (rb_nil (G := G_atom_counts) (Γn := fun b169 : Unit => [some ⟨(tDct tStr), x.1⟩, some ⟨tStr, x.2.1⟩, some ⟨tChr, v160⟩, none, none]) () (.same (.same (.same (.same (.same .nil))))) (.keep .nil))) (rb_nil (G := G_atom_counts) (Γn := fun b169 : Unit => [some ⟨(tDct tStr), x.1⟩, some ⟨tStr, x.2.1⟩, some ⟨tChr, v160⟩, none, none]) () (.same (.same (.same (.same (.same .nil))))) (.keep .nil))) fun b169 =>
  rb_nil (G := G_atom_counts) (Γn := fun b159 : Unit => [some ⟨(tDct tStr), x.1⟩, some ⟨tStr, x.2.1⟩, none, none, none]) () (.same (.same (.drop (.same (.same .nil))))) (.keep .nil))) fun b159 =>
  rb_nil (G := G_atom_counts) (Γn := fun b156 : Unit => [some ⟨(tDct tStr), x.1⟩, some ⟨tStr, x.2.1⟩, none, none, none]) () (.same (.same (.same (.same (.same .nil))))) (.keep .nil))) fun b156 =>
  rb_one (rs_retO (G := G_atom_counts) (j := 3) xo .here .nil (by rfl)))⟩
noncomputable def r_atom_counts (K : PySem.W.Frag) : ((tDct tStr).A × tStr.A × Unit) → Option (Except Exn (tOwnD tInt).A) := fun x => runZ (none) ((d_atom_counts K).1 x ())

/-! ### first_atom -/
abbrev st_first_atom : Stmt := top 23
abbrev N_first_atom : List Str := ["char", "decompositions"]
abbrev ps_first_atom : List Str := ["char", "decompositions"]
abbrev G_first_atom : FX := ⟨[], [], tChr⟩
def L_first_atom (K : PySem.W.Frag) (M : Md) : Prop := M.K = K
set_option maxHeartbeats 4000000 in
noncomputable def d_first_atom (K : PySem.W.Frag) : { m : (tChr.A × (tDct tStr).A × Unit) → OT [] → OutT G_first_atom LC.none Unit [] // ∀ (X : Cx) (lks : L_first_atom K X.md) (xo : XOk X N_first_atom (defScope st_first_atom) Bn 0) (xs : XS X) (x : tChr.A × (tDct tStr).A × Unit), RB X G_first_atom LC.none [some ⟨tChr, x.1⟩, some ⟨(tDct tStr), x.2.1⟩] [] (defBody st_first_atom) (fun _ : Unit => []) [] (m x) } := ⟨_, fun X lks xo xs x =>
  rb_cons (G := G_first_atom) (Γm := fun b182 : tChr.A × Unit => [some ⟨tChr, b182.1⟩, some ⟨(tDct tStr), x.2.1⟩]) (om := []) (rs_while (G := G_first_atom) (β := tChr.A × Unit) .nil xs.own 1000000000 (ΓL := fun b182 : tChr.A × Unit => [some ⟨tChr, b182.1⟩, some ⟨(tDct tStr), x.2.1⟩]) (b0 := (x.1, ())) (.same (.same .nil)) (fun b182 => rt_inD xo (re_cv cv_chr (re_var xo 0 0)) (re_var xo 1 1)) (fun b182 =>
  rb_asg xo (G := G_first_atom) .nil 0 0 imF (re_ixS (re_ixD xo imF (re_var xo 1 1) (re_cv cv_chr (re_var xo 0 0))) re_int) fun v183 =>
  rb_nil (G := G_first_atom) (Γn := fun b182 : tChr.A × Unit => [some ⟨tChr, b182.1⟩, some ⟨(tDct tStr), x.2.1⟩]) (v183, ()) (.same (.same .nil)) .nil)) fun b182 =>
  rb_one (rs_ret (G := G_first_atom) .nil (re_var xo 0 0))⟩
noncomputable def r_first_atom (K : PySem.W.Frag) : (tChr.A × (tDct tStr).A × Unit) → Option (Except Exn tChr.A) := fun x => runZ (none) ((d_first_atom K).1 x ())

/-! ### require_fit -/
abbrev st_require_fit : Stmt := top 28
abbrev N_require_fit : List Str := ["classes", "decompositions", "characters", "char", "composites", "counts"]
abbrev ps_require_fit : List Str := ["classes", "decompositions", "characters"]
abbrev G_require_fit : FX := ⟨[], [], tNone⟩
def L_require_fit (K : PySem.W.Frag) (M : Md) : Prop := LkP M "atom_counts" ps_atom_counts [(tDct tStr), tStr] (tOwnD tInt) (r_atom_counts K) 1 ∧ LkP M "first_atom" ps_first_atom [tChr, (tDct tStr)] tChr (r_first_atom K) 1 ∧ LkV M "Table" "MAX_ATOMS" 8 ∧ M.K = K
set_option maxHeartbeats 4000000 in
noncomputable def d_require_fit (K : PySem.W.Frag) : { m : ((tDct tInt).A × (tDct tStr).A × tStr.A × Unit) → OT [] → OutT G_require_fit LC.none Unit [] // ∀ (X : Cx) (lks : L_require_fit K X.md) (xo : XOk X N_require_fit (defScope st_require_fit) Bn 1) (xs : XS X) (x : (tDct tInt).A × (tDct tStr).A × tStr.A × Unit), RB X G_require_fit LC.none [some ⟨(tDct tInt), x.1⟩, some ⟨(tDct tStr), x.2.1⟩, some ⟨tStr, x.2.2.1⟩, none, none, none] [] (defBody st_require_fit) (fun _ : Unit => [none, none, none, none, none, none]) [] (m x) } := ⟨_, fun X lks xo xs x =>
  rb_asgLc lks xo (G := G_require_fit) .nil [("char", 3)] [0, 1, 2, 4, 5] 4 4 imF (ri_str (re_var xo 2 2)) (fun X147 o149 => rg_name o149 3 1) (fun X147 l148 o149 v146 => rts_one (rt_inD o149 (re_cv cv_chr (re_var o149 3 1)) (re_var o149 1 2))) (fun X147 l148 o149 v146 => re_var o149 3 1) fun v150 =>
  rb_asg xo (G := G_require_fit) .nil 5 5 im_dctL (re_frzD (re_call xo (lks.1) 6 (ra_cons im_dct (re_var xo 1 1) (ra_cons imF (re_var xo 2 2) ra_nil)))) fun v176 =>
  rb_cons (G := G_require_fit) (Γm := fun b177 : Unit => [some ⟨(tDct tInt), x.1⟩, some ⟨(tDct tStr), x.2.1⟩, some ⟨tStr, x.2.2.1⟩, none, some ⟨(tLst tChr), v150⟩, some ⟨(tDctL tInt), v176⟩]) (om := []) (rs_for (G := G_require_fit) (β := Unit) .nil xs.own xo.calm (ΓL := fun b177 : Unit => [some ⟨(tDct tInt), x.1⟩, some ⟨(tDct tStr), x.2.1⟩, some ⟨tStr, x.2.2.1⟩, none, some ⟨(tLst tChr), v150⟩, some ⟨(tDctL tInt), v176⟩]) (b0 := ()) (.same (.same (.same (.same (.same (.same .nil)))))) (ri_list (re_var xo 4 4)) (fun b177 => rg_name xo 3 3) (fun v178 b177 =>
  rb_cons (G := G_require_fit) (Γm := fun b179 : Unit => [some ⟨(tDct tInt), x.1⟩, some ⟨(tDct tStr), x.2.1⟩, some ⟨tStr, x.2.2.1⟩, some ⟨tChr, v178⟩, some ⟨(tLst tChr), v150⟩, some ⟨(tDctL tInt), v176⟩]) (om := []) (rs_if (G := G_require_fit) .nil (rt_gt (re_ixD xo imF (re_cv cv_dctL (re_var xo 5 5)) (re_cv cv_chr (re_var xo 3 3))) (re_cval xo (lks.2.2.1) 7)) (rb_one rs_fail) (rb_nil (G := G_require_fit) (Γn := fun b179 : Unit => [some ⟨(tDct tInt), x.1⟩, some ⟨(tDct tStr), x.2.1⟩, some ⟨tStr, x.2.2.1⟩, some ⟨tChr, v178⟩, some ⟨(tLst tChr), v150⟩, some ⟨(tDctL tInt), v176⟩]) () (.same (.same (.same (.same (.same (.same .nil)))))) .nil)) fun b179 =>
  rb_nil (G := G_require_fit) (Γn := fun b177 : Unit => [some ⟨(tDct tInt), x.1⟩, some ⟨(tDct tStr), x.2.1⟩, some ⟨tStr, x.2.2.1⟩, none, some ⟨(tLst tChr), v150⟩, some ⟨(tDctL tInt), v176⟩]) () (.same (.same (.same (.drop (.same (.same .nil)))))) .nil)) fun b177 =>
  rb_cons (G := G_require_fit) (Γm := fun b180 : Unit => [some ⟨(tDct tInt), x.1⟩, some ⟨(tDct tStr), x.2.1⟩, some ⟨tStr, x.2.2.1⟩, none, some ⟨(tLst tChr), v150⟩, some ⟨(tDctL tInt), v176⟩]) (om := []) (rs_for (G := G_require_fit) (β := Unit) .nil xs.own xo.calm (ΓL := fun b180 : Unit => [some ⟨(tDct tInt), x.1⟩, some ⟨(tDct tStr), x.2.1⟩, some ⟨tStr, x.2.2.1⟩, none, some ⟨(tLst tChr), v150⟩, some ⟨(tDctL tInt), v176⟩]) (b0 := ()) (.same (.same (.same (.same (.same (.same .nil)))))) (ri_list (re_var xo 4 4)) (fun b180 => rg_name xo 3 3) (fun v181 b180 =>
  rb_cons (G := G_require_fit) (Γm := fun b184 : Unit => [some ⟨(tDct tInt), x.1⟩, some ⟨(tDct tStr), x.2.1⟩, some ⟨tStr, x.2.2.1⟩, some ⟨tChr, v181⟩, some ⟨(tLst tChr), v150⟩, some ⟨(tDctL tInt), v176⟩]) (om := []) (rs_if (G := G_require_fit) .nil (rt_ne sca_bool (re_eq sca_int (re_ixD xo imF (re_var xo 0 0) (re_cv cv_chr (re_var xo 3 3))) re_int) (re_eq sca_int (re_ixD xo imF (re_var xo 0 0) (re_cv cv_chr (re_call xo (lks.2.1) 9 (ra_cons imF (re_var xo 3 3) (ra_cons im_dct (re_var xo 1 1) ra_nil))))) re_int)) (rb_one rs_fail) (rb_nil (G := G_require_fit) (Γn := fun b184 : Unit => [some ⟨(tDct tInt), x.1⟩, some ⟨(tDct tStr), x.2.1⟩, some ⟨tStr, x.2.2.1⟩, some ⟨tChr, v181⟩, some ⟨(tLst tChr), v150⟩, some ⟨(tDctL tInt), v176⟩]) () (.same (.same (.same (.same (.same (.same .nil)))))) .nil)) fun b184 =>
  rb_nil (G := G_require_fit) (Γn := fun b180 : Unit => [some ⟨(tDct tInt), x.1⟩, some ⟨(tDct tStr), x.2.1⟩, some ⟨tStr, x.2.2.1⟩, none, some ⟨(tLst tChr), v150⟩, some ⟨(tDctL tInt), v176⟩]) () (.same (.same (.same (.drop (.same (.same .nil)))))) .nil)) fun b180 =>
  rb_nil (G := G_require_fit) (Γn := fun _ : Unit => [none, none, none, none, none, none]) () (.drop (.drop (.drop (.same (.drop (.drop .nil)))))) .nil⟩
noncomputable def r_require_fit (K : PySem.W.Frag) : ((tDct tInt).A × (tDct tStr).A × tStr.A × Unit) → Option (Except Exn tNone.A) := fun x => runZ (some ()) ((d_require_fit K).1 x ())

/-! ### require_exclusions -/
abbrev st_require_exclusions : Stmt := top 29
abbrev N_require_exclusions : List Str := ["excluded", "composites", "char"]
abbrev ps_require_exclusions : List Str := ["excluded", "composites"]
abbrev G_require_exclusions : FX := ⟨[], [], tNone⟩
def L_require_exclusions (K : PySem.W.Frag) (M : Md) : Prop := M.K = K
set_option maxHeartbeats 4000000 in
noncomputable def d_require_exclusions (K : PySem.W.Frag) : { m : (tStr.A × (tLst tChr).A × Unit) → OT [] → OutT G_require_exclusions LC.none Unit [] // ∀ (X : Cx) (lks : L_require_exclusions K X.md) (xo : XOk X N_require_exclusions (defScope st_require_exclusions) Bn 0) (xs : XS X) (x : tStr.A × (tLst tChr).A × Unit), RB X G_require_exclusions LC.none [some ⟨tStr, x.1⟩, some ⟨(tLst tChr), x.2.1⟩, none] [] (defBody st_require_exclusions) (fun _ : Unit => [none, none, none]) [] (m x) } := ⟨_, fun X lks xo xs x =>
  rb_cons (G := G_require_exclusions) (Γm := fun b190 : Unit => [some ⟨tStr, x.1⟩, some ⟨(tLst tChr), x.2.1⟩, none]) (om := []) (rs_if (G := G_require_exclusions) .nil (rt_not (rt_val (re_isiT xo 3 6 4 9 (T := "str") sty_str imF (r := true) (by decide +kernel) (by decide +kernel) (by decide) (by decide) (re_var xo 0 0)))) (rb_one rs_fail) (rb_nil (G := G_require_exclusions) (Γn := fun b190 : Unit => [some ⟨tStr, x.1⟩, some ⟨(tLst tChr), x.2.1⟩, none]) () (.same (.same (.same .nil))) .nil)) fun b190 =>
  rb_cons (G := G_require_exclusions) (Γm := fun b191 : Unit => [some ⟨tStr, x.1⟩, some ⟨(tLst tChr), x.2.1⟩, none]) (om := []) (rs_for (G := G_require_exclusions) (β := Unit) .nil xs.own xo.calm (ΓL := fun b191 : Unit => [some ⟨tStr, x.1⟩, some ⟨(tLst tChr), x.2.1⟩, none]) (b0 := ()) (.same (.same (.same .nil))) (ri_str (re_var xo 0 0)) (fun b191 => rg_name xo 2 2) (fun v192 b191 =>
  rb_cons (G := G_require_exclusions) (Γm := fun b193 : Unit => [some ⟨tStr, x.1⟩, some ⟨(tLst tChr), x.2.1⟩, some ⟨tChr, v192⟩]) (om := []) (rs_if (G := G_require_exclusions) .nil (rt_niL (re_cv cv_chr (re_var xo 2 2)) (re_cv cv_lstC (re_var xo 1 1))) (rb_one rs_fail) (rb_nil (G := G_require_exclusions) (Γn := fun b193 : Unit => [some ⟨tStr, x.1⟩, some ⟨(tLst tChr), x.2.1⟩, some ⟨tChr, v192⟩]) () (.same (.same (.same .nil))) .nil)) fun b193 =>
  rb_nil (G := G_require_exclusions) (Γn := fun b191 : Unit => [some ⟨tStr, x.1⟩, some ⟨(tLst tChr), x.2.1⟩, none]) () (.same (.same (.drop .nil))) .nil)) fun b191 =>
  rb_nil (G := G_require_exclusions) (Γn := fun _ : Unit => [none, none, none]) () (.drop (.drop (.same .nil))) .nil⟩
noncomputable def r_require_exclusions (K : PySem.W.Frag) : (tStr.A × (tLst tChr).A × Unit) → Option (Except Exn tNone.A) := fun x => runZ (some ()) ((d_require_exclusions K).1 x ())

/-! ### require_unique -/
abbrev st_require_unique : Stmt := top 30
abbrev N_require_unique : List Str := ["decompositions", "candidates", "pairs", "at", "first", "second", "char"]
abbrev ps_require_unique : List Str := ["decompositions", "candidates"]
abbrev G_require_unique : FX := ⟨[], [], tNone⟩
def L_require_unique (K : PySem.W.Frag) (M : Md) : Prop := M.K = K
set_option maxHeartbeats 4000000 in
noncomputable def d_require_unique (K : PySem.W.Frag) : { m : ((tDct tStr).A × (tLst tChr).A × Unit) → OT [] → OutT G_require_unique LC.none Unit [] // ∀ (X : Cx) (lks : L_require_unique K X.md) (xo : XOk X N_require_unique (defScope st_require_unique) Bn 0) (xs : XS X) (x : (tDct tStr).A × (tLst tChr).A × Unit), RB X G_require_unique LC.none [some ⟨(tDct tStr), x.1⟩, some ⟨(tLst tChr), x.2.1⟩, none, none, none, none, none] [] (defBody st_require_unique) (fun _ : Unit => [none, none, none, none, none, none, none]) [] (m x) } := ⟨_, fun X lks xo xs x =>
  rb_asgLc lks xo (G := G_require_unique) .nil [("char", 6)] [0, 1, 2, 3, 4, 5] 2 2 imF (ri_list (re_var xo 1 1)) (fun X199 o201 => rg_name o201 6 1) (fun X199 l200 o201 v198 => rts_one (rt_eq sca_int (re_lenS o201 2 3 (ra_cons imF (re_ixD o201 imF (re_var o201 0 3) (re_cv cv_chr (re_var o201 6 1))) ra_nil)) re_int)) (fun X199 l200 o201 v198 => re_var o201 6 1) fun v202 =>
  rb_cons (G := G_require_unique) (Γm := fun b203 : Unit => [some ⟨(tDct tStr), x.1⟩, some ⟨(tLst tChr), x.2.1⟩, some ⟨(tLst tChr), v202⟩, none, none, none, none]) (om := []) (rs_for (G := G_require_unique) (β := Unit) .nil xs.own xo.calm (ΓL := fun b203 : Unit => [some ⟨(tDct tStr), x.1⟩, some ⟨(tLst tChr), x.2.1⟩, some ⟨(tLst tChr), v202⟩, none, none, none, none]) (b0 := ()) (.same (.same (.same (.same (.same (.same (.same .nil))))))) (ri_enum xo 6 12 (ra_cons im_lst (re_var xo 2 2) ra_nil)) (fun b203 => rg_tup2 xo 3 4 3 4 xo.calm (by decide)) (fun v204 b203 =>
  rb_cons (G := G_require_unique) (Γm := fun b205 : Unit => [some ⟨(tDct tStr), x.1⟩, some ⟨(tLst tChr), x.2.1⟩, some ⟨(tLst tChr), v202⟩, some ⟨tInt, v204.1⟩, some ⟨tChr, v204.2.1⟩, none, none]) (om := []) (rs_for (G := G_require_unique) (β := Unit) .nil xs.own xo.calm (ΓL := fun b205 : Unit => [some ⟨(tDct tStr), x.1⟩, some ⟨(tLst tChr), x.2.1⟩, some ⟨(tLst tChr), v202⟩, some ⟨tInt, v204.1⟩, some ⟨tChr, v204.2.1⟩, none, none]) (b0 := ()) (.same (.same (.same (.same (.same (.same (.same .nil))))))) (ri_list (re_frz frz_own (re_slL (re_var xo 2 2) (ro_some (re_add (re_var xo 3 3) re_int)) ro_none))) (fun b205 => rg_name xo 5 5) (fun v206 b205 =>
  rb_cons (G := G_require_unique) (Γm := fun b207 : Unit => [some ⟨(tDct tStr), x.1⟩, some ⟨(tLst tChr), x.2.1⟩, some ⟨(tLst tChr), v202⟩, some ⟨tInt, v204.1⟩, some ⟨tChr, v204.2.1⟩, some ⟨tChr, v206⟩, none]) (om := []) (rs_if (G := G_require_unique) .nil (rt_eq sca_str (re_ixD xo imF (re_var xo 0 0) (re_cv cv_chr (re_var xo 4 4))) (re_ixD xo imF (re_var xo 0 0) (re_cv cv_chr (re_var xo 5 5)))) (rb_one rs_fail) (rb_nil (G := G_require_unique) (Γn := fun b207 : Unit => [some ⟨(tDct tStr), x.1⟩, some ⟨(tLst tChr), x.2.1⟩, some ⟨(tLst tChr), v202⟩, some ⟨tInt, v204.1⟩, some ⟨tChr, v204.2.1⟩, some ⟨tChr, v206⟩, none]) () (.same (.same (.same (.same (.same (.same (.same .nil))))))) .nil)) fun b207 =>
  rb_nil (G := G_require_unique) (Γn := fun b205 : Unit => [some ⟨(tDct tStr), x.1⟩, some ⟨(tLst tChr), x.2.1⟩, some ⟨(tLst tChr), v202⟩, some ⟨tInt, v204.1⟩, some ⟨tChr, v204.2.1⟩, none, none]) () (.same (.same (.same (.same (.same (.drop (.same .nil))))))) .nil)) fun b205 =>
  rb_nil (G := G_require_unique) (Γn := fun b203 : Unit => [some ⟨(tDct tStr), x.1⟩, some ⟨(tLst tChr), x.2.1⟩, some ⟨(tLst tChr), v202⟩, none, none, none, none]) () (.same (.same (.same (.drop (.drop (.same (.same .nil))))))) .nil)) fun b203 =>
  rb_nil (G := G_require_unique) (Γn := fun _ : Unit => [none, none, none, none, none, none, none]) () (.drop (.drop (.drop (.same (.same (.same (.same .nil))))))) .nil⟩
noncomputable def r_require_unique (K : PySem.W.Frag) : ((tDct tStr).A × (tLst tChr).A × Unit) → Option (Except Exn tNone.A) := fun x => runZ (some ()) ((d_require_unique K).1 x ())

/-! ### expanded -/
abbrev st_expanded : Stmt := top 24
abbrev N_expanded : List Str := ["char", "decompositions", "part"]
abbrev ps_expanded : List Str := ["char", "decompositions"]
abbrev G_expanded : FX := ⟨[], [], tStr⟩
def L_expanded (K : PySem.W.Frag) (fn : (tChr.A × (tDct tStr).A × Unit) → Option (Except Exn tStr.A)) (k : Nat) (M : Md) : Prop := LkP M "expanded" ps_expanded [tChr, (tDct tStr)] tStr fn k ∧ M.K = K
set_option maxHeartbeats 4000000 in
noncomputable def d_expanded (K : PySem.W.Frag) (fn : (tChr.A × (tDct tStr).A × Unit) → Option (Except Exn tStr.A)) : { m : (tChr.A × (tDct tStr).A × Unit) → OT [] → OutT G_expanded LC.none Unit [] // ∀ (k : Nat) (X : Cx) (lks : L_expanded K fn k X.md) (xo : XOk X N_expanded (defScope st_expanded) Bn k) (xs : XS X) (x : tChr.A × (tDct tStr).A × Unit), RB X G_expanded LC.none [some ⟨tChr, x.1⟩, some ⟨(tDct tStr), x.2.1⟩, none] [] (defBody st_expanded) (fun _ : Unit => []) [] (m x) } := ⟨_, fun k X lks xo xs x =>
  rb_cons (G := G_expanded) (Γm := fun b220 : Unit => [some ⟨tChr, x.1⟩, some ⟨(tDct tStr), x.2.1⟩, none]) (om := []) (rs_if (G := G_expanded) .nil (rt_niD xo (re_cv cv_chr (re_var xo 0 0)) (re_var xo 1 1)) (rb_one (rs_ret (G := G_expanded) .nil (re_cv cv_chr (re_var xo 0 0)))) (rb_nil (G := G_expanded) (Γn := fun b220 : Unit => [some ⟨tChr, x.1⟩, some ⟨(tDct tStr), x.2.1⟩, none]) () (.same (.same (.same .nil))) .nil)) fun b220 =>
  rb_one (rs_ret (G := G_expanded) .nil (re_join0L (re_frz frz_own (re_lc lks xo [("part", 2)] [0, 1] imF (ri_str (re_ixD xo imF (re_var xo 1 1) (re_cv cv_chr (re_var xo 0 0)))) (fun X222 o224 => rg_name o224 2 1) (fun X222 l223 o224 v221 => rts_nil) (fun X222 l223 o224 v221 => re_call o224 (l223.1) 2 (ra_cons imF (re_var o224 2 1) (ra_cons im_dct (re_var o224 1 3) ra_nil)) (hj := Nat.le_refl _))))))⟩
noncomputable def rd_expanded (K : PySem.W.Frag) : Nat → (tChr.A × (tDct tStr).A × Unit) → Option (Except Exn tStr.A)
  | 0 => fun _ => none
  | d + 1 => fun x => runZ (none) ((d_expanded K (rd_expanded K d)).1 x ())
noncomputable def r_expanded (K : PySem.W.Frag) : (tChr.A × (tDct tStr).A × Unit) → Option (Except Exn tStr.A) := rd_expanded K 32

/-! ### Table___init__ -/
abbrev st_Table___init__ : Stmt := mth 31 3
abbrev N_Table___init__ : List Str := ["self", "classes", "decompositions", "excluded", "known", "parts", "composites", "char"]
abbrev ps_Table___init__ : List Str := ["self", "classes", "decompositions", "excluded"]
abbrev G_Table___init__ : FX := ⟨[0], [], tNone⟩
def L_Table___init__ (K : PySem.W.Frag) (M : Md) : Prop := LkP M "require_classes" ps_require_classes [(tDct tInt)] tNone (r_require_classes K) 3 ∧ LkP M "in_order" ps_in_order [tStr] tStr (r_in_order K) 2 ∧ LkP M "require_decompositions" ps_require_decompositions [(tDct tStr), tStr] tNone (r_require_decompositions K) 2 ∧ LkP M "require_fit" ps_require_fit [(tDct tInt), (tDct tStr), tStr] tNone (r_require_fit K) 2 ∧ LkP M "require_exclusions" ps_require_exclusions [tStr, (tLst tChr)] tNone (r_require_exclusions K) 1 ∧ LkP M "require_unique" ps_require_unique [(tDct tStr), (tLst tChr)] tNone (r_require_unique K) 1 ∧ LkP M "expanded" ps_expanded [tChr, (tDct tStr)] tStr (r_expanded K) 32 ∧ Cls M.K (He.ga K "Table") ∧ NoAttr M.K (He.ga K "Table") "pair_map" ∧ NoAttr M.K (He.ga K "Table") "barred" ∧ NoAttr M.K (He.ga K "Table") "atom_map" ∧ NoAttr M.K (He.ga K "Table") "part_map" ∧ NoAttr M.K (He.ga K "Table") "class_map" ∧ M.K = K
set_option maxHeartbeats 4000000 in
noncomputable def d_Table___init__ (K : PySem.W.Frag) : { m : ((tDct tInt).A × (tDct tStr).A × tStr.A × Unit) → OT [(0, (tOwnI (He.ga K "Table") []))] → OutT G_Table___init__ LC.none Unit [(0, (tOwnI (He.ga K "Table") [("class_map", (tDctL tInt)), ("part_map", (tDctL tStr)), ("atom_map", (tDctL tStr)), ("barred", tStr), ("pair_map", (tDctL tStr))]))] // ∀ (X : Cx) (lks : L_Table___init__ K X.md) (xo : XOk X N_Table___init__ (defScope st_Table___init__) Bn 32) (xs : XS X) (x : (tDct tInt).A × (tDct tStr).A × tStr.A × Unit), RB X G_Table___init__ LC.none [none, some ⟨(tDct tInt), x.1⟩, some ⟨(tDct tStr), x.2.1⟩, some ⟨tStr, x.2.2.1⟩, none, none, none, none] [(0, (tOwnI (He.ga K "Table") []))] (defBody st_Table___init__) (fun _ : Unit => [none, none, none, none, none, none, none, none]) [(0, (tOwnI (He.ga K "Table") [("class_map", (tDctL tInt)), ("part_map", (tDctL tStr)), ("atom_map", (tDctL tStr)), ("barred", tStr), ("pair_map", (tDctL tStr))]))] (m x) } := ⟨_, fun X lks xo xs x =>
  rb_expr (G := G_Table___init__) (.skip .nil) (re_call xo (lks.1) 7 (ra_cons im_dct (re_var xo 1 1) ra_nil))
  (rb_asg xo (G := G_Table___init__) (.skip .nil) 4 4 imF (re_call xo (lks.2.1) 8 (ra_cons imF (re_join0L (re_frz frz_own (re_listD xo 9 5 (ra_cons im_dct (re_var xo 1 1) ra_nil)))) ra_nil)) fun v109 =>
  rb_asg xo (G := G_Table___init__) (.skip .nil) 5 5 im_dct (re_if (rt_isNF im_dct nn_dct (re_var xo 2 2)) (re_cv cv_dctL (re_frzD (re_dnew (t := tStr)))) (re_var xo 2 2)) fun v110 =>
  rb_expr (G := G_Table___init__) (.skip .nil) (re_call xo (lks.2.2.1) 10 (ra_cons im_dct (re_var xo 5 5) (ra_cons imF (re_var xo 4 4) ra_nil)))
  (rb_expr (G := G_Table___init__) (.skip .nil) (re_call xo (lks.2.2.2.1) 11 (ra_cons im_dct (re_var xo 1 1) (ra_cons im_dct (re_var xo 5 5) (ra_cons imF (re_var xo 4 4) ra_nil))))
  (rb_asgLc lks xo (G := G_Table___init__) (.skip .nil) [("char", 7)] [0, 1, 2, 3, 4, 5, 6] 6 6 imF (ri_str (re_var xo 4 4)) (fun X186 o188 => rg_name o188 7 1) (fun X186 l187 o188 v185 => rts_one (rt_inD o188 (re_cv cv_chr (re_var o188 7 1)) (re_var o188 5 2))) (fun X186 l187 o188 v185 => re_var o188 7 1) fun v189 =>
  rb_expr (G := G_Table___init__) (.skip .nil) (re_call xo (lks.2.2.2.2.1) 12 (ra_cons imF (re_var xo 3 3) (ra_cons im_lst (re_var xo 6 6) ra_nil)))
  (rb_expr (G := G_Table___init__) (.skip .nil) (re_call xo (lks.2.2.2.2.2.1) 13 (ra_cons im_dct (re_var xo 5 5) (ra_cons im_lst (re_frz frz_own (re_lc lks xo [("char", 7)] [0, 1, 2, 3, 4, 5, 6] imF (ri_list (re_var xo 6 6)) (fun X195 o197 => rg_name o197 7 1) (fun X195 l196 o197 v194 => rts_one (rt_niC (re_var o197 7 1) (re_var o197 3 2))) (fun X195 l196 o197 v194 => re_var o197 7 1))) ra_nil)))
  (rb_setA xo (G := G_Table___init__) (.skip .nil) 0 0 .here (lks.2.2.2.2.2.2.2.1) (lks.2.2.2.2.2.2.2.2.2.2.2.2.1) im_dctL (re_frzD (re_dc lks xo [("char", 7)] [0, 1, 2, 3, 4, 5, 6] imF (ri_str (re_var xo 4 4)) (fun X209 o211 => rg_name o211 7 1) (fun X209 l210 o211 v208 => rts_nil) (fun X209 l210 o211 v208 => re_cv cv_chr (re_var o211 7 1)) (fun X209 l210 o211 v208 => re_ixD o211 imF (re_var o211 1 2) (re_cv cv_chr (re_var o211 7 1)))))
  (rb_setA xo (G := G_Table___init__) (.skip .nil) 0 0 .here (lks.2.2.2.2.2.2.2.1) (lks.2.2.2.2.2.2.2.2.2.2.2.1) im_dctL (re_frzD (re_dc lks xo [("char", 7)] [0, 1, 2, 3, 4, 5, 6] imF (ri_list (re_var xo 6 6)) (fun X213 o215 => rg_name o215 7 1) (fun X213 l214 o215 v212 => rts_nil) (fun X213 l214 o215 v212 => re_cv cv_chr (re_var o215 7 1)) (fun X213 l214 o215 v212 => re_ixD o215 imF (re_var o215 5 2) (re_cv cv_chr (re_var o215 7 1)))))
  (rb_setA xo (G := G_Table___init__) (.skip .nil) 0 0 .here (lks.2.2.2.2.2.2.2.1) (lks.2.2.2.2.2.2.2.2.2.2.1) im_dctL (re_frzD (re_dc lks xo [("char", 7)] [0, 1, 2, 3, 4, 5, 6] imF (ri_str (re_var xo 4 4)) (fun X217 o219 => rg_name o219 7 1) (fun X217 l218 o219 v216 => rts_nil) (fun X217 l218 o219 v216 => re_cv cv_chr (re_var o219 7 1)) (fun X217 l218 o219 v216 => re_call o219 (l218.2.2.2.2.2.2.1) 2 (ra_cons imF (re_var o219 7 1) (ra_cons im_dct (re_var o219 5 3) ra_nil)))))
  (rb_setA xo (G := G_Table___init__) (.skip .nil) 0 0 .here (lks.2.2.2.2.2.2.2.1) (lks.2.2.2.2.2.2.2.2.2.1) imF (re_call xo (lks.2.1) 8 (ra_cons imF (re_var xo 3 3) ra_nil))
  (rb_setA xo (G := G_Table___init__) (.skip .nil) 0 0 .here (lks.2.2.2.2.2.2.2.1) (lks.2.2.2.2.2.2.2.2.1) im_dctL (re_frzD (re_dc lks xo [("char", 7)] [0, 1, 2, 3, 4, 5, 6] imF (ri_list (re_var xo 6 6)) (fun X226 o228 => rg_name o228 7 1) (fun X226 l227 o228 v225 => rts_one (RW.rt (rw_and (rt_eq sca_int (re_lenS o228 2 3 (ra_cons imF (re_ixD o228 imF (re_var o228 5 4) (re_cv cv_chr (re_var o228 7 1))) ra_nil)) re_int) (rw_and1 (rt_niC (re_var o228 7 1) (re_var o228 3 3)))))) (fun X226 l227 o228 v225 => re_ixD o228 imF (re_var o228 5 4) (re_cv cv_chr (re_var o228 7 1))) (fun X226 l227 o228 v225 => re_cv cv_chr (re_var o228 7 1))))
  (rb_nil (G := G_Table___init__) (Γn := fun _ : Unit => [none, none, none, none, none, none, none, none]) () (.same (.drop (.drop (.drop (.drop (.drop (.drop (.same .nil)))))))) (.keep .nil)))))))))))⟩
noncomputable def r_Table___init__ (K : PySem.W.Frag) : ((tDct tInt).A × (tDct tStr).A × tStr.A × Unit) → Option (Except Exn (AT (fs_Table.map (·.2)))) := fun x => runJ ((d_Table___init__ K).1 x ((), ()))

/-! ### _law_made -/
abbrev st__law_made : Stmt := top 48
abbrev N__law_made : List Str := ["box", "plan", "classes", "parts"]
abbrev ps__law_made : List Str := ["box", "plan"]
abbrev G__law_made (K : PySem.W.Frag) : FX := ⟨[0], [(0, (tOwn tInt))], (tTg (TG K) (tIns (He.ga K "Table") fs_Table))⟩
def L__law_made (K : PySem.W.Frag) (M : Md) : Prop := LkO M "_law_turned" ps__law_turned_i (tOwn tInt) [(tDctL tInt)] (tOwnD tInt) (r__law_turned_i K) 2 ∧ LkO M "_law_turned" ps__law_turned_s (tOwn tInt) [(tDctL tStr)] (tOwnD tStr) (r__law_turned_s K) 2 ∧ LkMk M "Table" (He.ga K "Table") ps_Table___init__ ["decompositions", "excluded"] fs_Table (tDct tInt) [(tDct tStr), tStr] (r_Table___init__ K) 33 ∧ M.K = K
set_option maxHeartbeats 4000000 in
noncomputable def d__law_made (K : PySem.W.Frag) : { m : ((tTg (TG K) (tRec [([99, 108, 97, 115, 115, 101, 115], (tDctL tInt)), ([112, 97, 114, 116, 115], (tDctL tStr)), ([98, 97, 114, 114, 101, 100], tStr)])).A × Unit) → OT [(0, (tOwn tInt))] → OutT (G__law_made K) LC.none Unit [] // ∀ (X : Cx) (lks : L__law_made K X.md) (xo : XOk X N__law_made (defScope st__law_made) Bn 34) (xs : XS X) (x : (tTg (TG K) (tRec [([99, 108, 97, 115, 115, 101, 115], (tDctL tInt)), ([112, 97, 114, 116, 115], (tDctL tStr)), ([98, 97, 114, 114, 101, 100], tStr)])).A × Unit), RB X (G__law_made K) LC.none [none, some ⟨(tTg (TG K) (tRec [([99, 108, 97, 115, 115, 101, 115], (tDctL tInt)), ([112, 97, 114, 116, 115], (tDctL tStr)), ([98, 97, 114, 114, 101, 100], tStr)])), x.1⟩, none, none] [(0, (tOwn tInt))] (defBody st__law_made) (fun _ : Unit => []) [] (m x) } := ⟨_, fun X lks xo xs x =>
  rb_par2 xo (G := (G__law_made K)) (.keep .nil) 2 3 2 3 (ts := [(tDctL tInt), (tDctL tStr)]) (.imm 2 im_dctL (.imm 3 im_dctL .nil)) (ram_cons (re_frzD (re_callO xo (lks.1) 4 .here 0 (ra_cons im_dctL (re_fld xo (n := [99, 108, 97, 115, 115, 101, 115]) im_dctL .here (re_untag (re_var xo 1 1))) ra_nil) (hib := by rfl))) (ram_cons (re_frzD (re_callO xo (lks.2.1) 4 .here 0 (ra_cons im_dctL (re_fld xo (n := [112, 97, 114, 116, 115]) im_dctL (.there .here) (re_untag (re_var xo 1 1))) ra_nil) (hib := by rfl))) ram_nil)) fun v91 =>
  rb_one (rs_ret (G := (G__law_made K)) (.keep .nil) (re_tag 1 (re_frz frz_ins (re_mk1 xo (lks.2.2.1) 5 im_dct (re_cv cv_dctL (re_var xo 2 2)) (rk_cons im_dct (re_cv cv_dctL (re_var xo 3 3)) (rk_cons imF (re_fld xo (n := [98, 97, 114, 114, 101, 100]) imF (.there (.there .here)) (re_untag (re_var xo 1 1))) rk_nil))))))⟩
noncomputable def r__law_made (K : PySem.W.Frag) : (tOwn tInt).A → ((tTg (TG K) (tRec [([99, 108, 97, 115, 115, 101, 115], (tDctL tInt)), ([112, 97, 114, 116, 115], (tDctL tStr)), ([98, 97, 114, 114, 101, 100], tStr)])).A × Unit) → Option (Except Exn (tTg (TG K) (tIns (He.ga K "Table") fs_Table)).A × (tOwn tInt).A) := fun y x => runO ((d__law_made K).1 x (y, ()))

/-! ### _law_text -/
abbrev st__law_text : Stmt := top 51
abbrev N__law_text : List Str := ["box", "plan", "many", "known", "k"]
abbrev ps__law_text : List Str := ["box", "plan", "many"]
abbrev G__law_text : FX := ⟨[0], [(0, (tOwn tInt))], tStr⟩
def L__law_text (K : PySem.W.Frag) (M : Md) : Prop := LkO M "_law_take" ps__law_take (tOwn tInt) [tInt] tInt (r__law_take K) 1 ∧ M.K = K
set_option maxHeartbeats 4000000 in
noncomputable def d__law_text (K : PySem.W.Frag) : { m : ((tRec [([99, 108, 97, 115, 115, 101, 115], (tDctL tInt)), ([112, 97, 114, 116, 115], (tDctL tStr)), ([98, 97, 114, 114, 101, 100], tStr)]).A × tInt.A × Unit) → OT [(0, (tOwn tInt))] → OutT G__law_text LC.none Unit [] // ∀ (X : Cx) (lks : L__law_text K X.md) (xo : XOk X N__law_text (defScope st__law_text) Bn 1) (xs : XS X) (x : (tRec [([99, 108, 97, 115, 115, 101, 115], (tDctL tInt)), ([112, 97, 114, 116, 115], (tDctL tStr)), ([98, 97, 114, 114, 101, 100], tStr)]).A × tInt.A × Unit), RB X G__law_text LC.none [none, some ⟨(tRec [([99, 108, 97, 115, 115, 101, 115], (tDctL tInt)), ([112, 97, 114, 116, 115], (tDctL tStr)), ([98, 97, 114, 114, 101, 100], tStr)]), x.1⟩, some ⟨tInt, x.2.1⟩, none, none] [(0, (tOwn tInt))] (defBody st__law_text) (fun _ : Unit => []) [] (m x) } := ⟨_, fun X lks xo xs x =>
  rb_asg xo (G := G__law_text) (.keep .nil) 3 3 im_lst (re_frz frz_own (re_listD xo 4 5 (ra_cons im_dct (re_cv cv_dctL (re_fld xo (n := [99, 108, 97, 115, 115, 101, 115]) im_dctL .here (re_var xo 1 1))) ra_nil))) fun v230 =>
  rb_one (rs_ret (G := G__law_text) (.keep .nil) (re_join0L (re_frz frz_own (re_lc lks xo [("k", 4)] [0, 1, 2, 3] imF (ri_range1 xo 5 0 (ra_cons imF (re_callO xo (lks.1) 6 .here 0 (ra_cons imF (re_add (re_var xo 2 2) re_int) ra_nil) (hib := by rfl)) ra_nil)) (fun X232 o234 => rg_name o234 4 1) (fun X232 l233 o234 v231 => rts_nil) (fun X232 l233 o234 v231 => re_ixL imF (re_var o234 3 5) (re_callO o234 (l233.1) 2 .here 4 (ra_cons imF (re_lenL o234 3 3 (ra_cons im_lst (re_var o234 3 5) ra_nil)) ra_nil) (hib := by rfl)))))))⟩
noncomputable def r__law_text (K : PySem.W.Frag) : (tOwn tInt).A → ((tRec [([99, 108, 97, 115, 115, 101, 115], (tDctL tInt)), ([112, 97, 114, 116, 115], (tDctL tStr)), ([98, 97, 114, 114, 101, 100], tStr)]).A × tInt.A × Unit) → Option (Except Exn tStr.A × (tOwn tInt).A) := fun y x => runO ((d__law_text K).1 x (y, ()))

/-! ### _law_of_marks -/
abbrev st__law_of_marks : Stmt := top 52
abbrev N__law_of_marks : List Str := ["box", "plan", "many", "some", "char", "k"]
abbrev ps__law_of_marks : List Str := ["box", "plan", "many"]
abbrev G__law_of_marks : FX := ⟨[0], [(0, (tOwn tInt))], tStr⟩
def L__law_of_marks (K : PySem.W.Frag) (M : Md) : Prop := LkO M "_law_take" ps__law_take (tOwn tInt) [tInt] tInt (r__law_take K) 1 ∧ M.K = K
set_option maxHeartbeats 4000000 in
noncomputable def d__law_of_marks (K : PySem.W.Frag) : { m : ((tRec [([99, 108, 97, 115, 115, 101, 115], (tDctL tInt)), ([112, 97, 114, 116, 115], (tDctL tStr)), ([98, 97, 114, 114, 101, 100], tStr)]).A × tInt.A × Unit) → OT [(0, (tOwn tInt))] → OutT G__law_of_marks LC.none Unit [] // ∀ (X : Cx) (lks : L__law_of_marks K X.md) (xo : XOk X N__law_of_marks (defScope st__law_of_marks) Bn 1) (xs : XS X) (x : (tRec [([99, 108, 97, 115, 115, 101, 115], (tDctL tInt)), ([112, 97, 114, 116, 115], (tDctL tStr)), ([98, 97, 114, 114, 101, 100], tStr)]).A × tInt.A × Unit), RB X G__law_of_marks LC.none [none, some ⟨(tRec [([99, 108, 97, 115, 115, 101, 115], (tDctL tInt)), ([112, 97, 114, 116, 115], (tDctL tStr)), ([98, 97, 114, 114, 101, 100], tStr)]), x.1⟩, some ⟨tInt, x.2.1⟩, none, none, none] [(0, (tOwn tInt))] (defBody st__law_of_marks) (fun _ : Unit => []) [] (m x) } := ⟨_, fun X lks xo xs x =>
  rb_asg xo (G := G__law_of_marks) (.keep .nil) 3 3 (hs := sw_at xo (j := 3) (kd := .cell) (by rfl) (by decide) (by rfl)) im_lst (re_frz frz_own (re_lc lks xo [("char", 4)] [0, 1, 2, 3, 5] imF (ri_dctL (re_fld xo (n := [99, 108, 97, 115, 115, 101, 115]) im_dctL .here (re_var xo 1 1))) (fun X237 o239 => rg_name o239 4 1) (fun X237 l238 o239 v236 => rts_one (rt_gt (re_ixD o239 imF (re_cv cv_dctL (re_fld o239 (n := [99, 108, 97, 115, 115, 101, 115]) im_dctL .here (re_var o239 1 2))) (re_var o239 4 1)) re_int)) (fun X237 l238 o239 v236 => re_var o239 4 1))) fun v240 =>
  rb_one (rs_ret (G := G__law_of_marks) (.keep .nil) (re_join0L (re_frz frz_own (re_lc lks xo [("k", 5)] [0, 1, 2, 3, 4] imF (ri_range1 xo 4 0 (ra_cons imF (re_mul (re_var xo 2 2) (re_intB xo 5 4 (ra_cons imF (re_neL0 xo (re_var xo 3 3) (re_frz frz_own (re_list (t := tStr) ral_nil))) ra_nil))) ra_nil)) (fun X242 o244 => rg_name o244 5 1) (fun X242 l243 o244 v241 => rts_nil) (fun X242 l243 o244 v241 => re_ixL imF (re_var o244 3 5) (re_callO o244 (l243.1) 2 .here 4 (ra_cons imF (re_lenL o244 3 3 (ra_cons im_lst (re_var o244 3 5) ra_nil)) ra_nil) (hib := by rfl)))))))⟩
noncomputable def r__law_of_marks (K : PySem.W.Frag) : (tOwn tInt).A → ((tRec [([99, 108, 97, 115, 115, 101, 115], (tDctL tInt)), ([112, 97, 114, 116, 115], (tDctL tStr)), ([98, 97, 114, 114, 101, 100], tStr)]).A × tInt.A × Unit) → Option (Except Exn tStr.A × (tOwn tInt).A) := fun y x => runO ((d__law_of_marks K).1 x (y, ()))

/-! ### _law_sorted -/
abbrev st__law_sorted : Stmt := top 49
abbrev N__law_sorted : List Str := ["plan", "atoms", "found", "run", "atom", "number", "one"]
abbrev ps__law_sorted : List Str := ["plan", "atoms"]
abbrev G__law_sorted : FX := ⟨[], [], tStr⟩
def L__law_sorted (K : PySem.W.Frag) (M : Md) : Prop := M.K = K
set_option maxHeartbeats 4000000 in
noncomputable def d__law_sorted (K : PySem.W.Frag) : { m : ((tRec [([99, 108, 97, 115, 115, 101, 115], (tDctL tInt)), ([112, 97, 114, 116, 115], (tDctL tStr)), ([98, 97, 114, 114, 101, 100], tStr)]).A × tStr.A × Unit) → OT [] → OutT G__law_sorted LC.none Unit [] // ∀ (X : Cx) (lks : L__law_sorted K X.md) (xo : XOk X N__law_sorted (defScope st__law_sorted) Bn 0) (xs : XS X) (x : (tRec [([99, 108, 97, 115, 115, 101, 115], (tDctL tInt)), ([112, 97, 114, 116, 115], (tDctL tStr)), ([98, 97, 114, 114, 101, 100], tStr)]).A × tStr.A × Unit), RB X G__law_sorted LC.none [some ⟨(tRec [([99, 108, 97, 115, 115, 101, 115], (tDctL tInt)), ([112, 97, 114, 116, 115], (tDctL tStr)), ([98, 97, 114, 114, 101, 100], tStr)]), x.1⟩, some ⟨tStr, x.2.1⟩, none, none, none, none, none] [] (defBody st__law_sorted) (fun _ : Unit => []) [] (m x) } := ⟨_, fun X lks xo xs x =>
  rb_unp2 xo (G := G__law_sorted) .nil 2 3 2 3 (ts := [tStr, tStr]) (.imm 2 imF (.imm 3 imF .nil)) (ram_cons (re_str []) (ram_cons (re_str []) ram_nil)) fun v252 =>
  rb_cons (G := G__law_sorted) (Γm := fun b253 : tStr.A × tStr.A × Unit => [some ⟨(tRec [([99, 108, 97, 115, 115, 101, 115], (tDctL tInt)), ([112, 97, 114, 116, 115], (tDctL tStr)), ([98, 97, 114, 114, 101, 100], tStr)]), x.1⟩, some ⟨tStr, x.2.1⟩, some ⟨tStr, b253.1⟩, some ⟨tStr, b253.2.1⟩, none, none, none]) (om := []) (rs_for (G := G__law_sorted) (β := tStr.A × tStr.A × Unit) .nil xs.own xo.calm (ΓL := fun b253 : tStr.A × tStr.A × Unit => [some ⟨(tRec [([99, 108, 97, 115, 115, 101, 115], (tDctL tInt)), ([112, 97, 114, 116, 115], (tDctL tStr)), ([98, 97, 114, 114, 101, 100], tStr)]), x.1⟩, some ⟨tStr, x.2.1⟩, some ⟨tStr, b253.1⟩, some ⟨tStr, b253.2.1⟩, none, none, none]) (b0 := (v252.1, (v252.2.1, ()))) (.same (.same (.same (.same (.same (.same (.same .nil))))))) (ri_str (re_addS (re_var xo 1 1) (re_str [32]))) (fun b253 => rg_name xo 4 4) (fun v254 b253 =>
  rb_cons (G := G__law_sorted) (Γm := fun b255 : tStr.A × tStr.A × Unit => [some ⟨(tRec [([99, 108, 97, 115, 115, 101, 115], (tDctL tInt)), ([112, 97, 114, 116, 115], (tDctL tStr)), ([98, 97, 114, 114, 101, 100], tStr)]), x.1⟩, some ⟨tStr, x.2.1⟩, some ⟨tStr, b255.1⟩, some ⟨tStr, b255.2.1⟩, some ⟨tChr, v254⟩, none, none]) (om := []) (rs_if (G := G__law_sorted) .nil (rt_eq sca_int (re_get2 xo imF (re_cv cv_dctL (re_fld xo (n := [99, 108, 97, 115, 115, 101, 115]) im_dctL .here (re_var xo 0 0))) (re_cv cv_chr (re_var xo 4 4)) re_int) re_int) (rb_cons (G := G__law_sorted) (Γm := fun b256 : tStr.A × Unit => [some ⟨(tRec [([99, 108, 97, 115, 115, 101, 115], (tDctL tInt)), ([112, 97, 114, 116, 115], (tDctL tStr)), ([98, 97, 114, 114, 101, 100], tStr)]), x.1⟩, some ⟨tStr, x.2.1⟩, some ⟨tStr, b256.1⟩, some ⟨tStr, b253.2.1⟩, some ⟨tChr, v254⟩, none, none]) (om := []) (rs_for (G := G__law_sorted) (β := tStr.A × Unit) .nil xs.own xo.calm (ΓL := fun b256 : tStr.A × Unit => [some ⟨(tRec [([99, 108, 97, 115, 115, 101, 115], (tDctL tInt)), ([112, 97, 114, 116, 115], (tDctL tStr)), ([98, 97, 114, 114, 101, 100], tStr)]), x.1⟩, some ⟨tStr, x.2.1⟩, some ⟨tStr, b256.1⟩, some ⟨tStr, b253.2.1⟩, some ⟨tChr, v254⟩, none, none]) (b0 := (b253.1, ())) (.same (.same (.same (.same (.same (.same (.same .nil))))))) (ri_range2 xo 6 0 (ra_cons imF re_int (ra_cons imF re_int ra_nil))) (fun b256 => rg_name xo 5 5) (fun v257 b256 =>
  rb_asg xo (G := G__law_sorted) .nil 2 2 imF (re_addS (re_var xo 2 2) (re_join0 (re_frz frz_own (re_lc lks xo [("one", 6)] [0, 1, 2, 3, 4, 5] imF (ri_str (re_var xo 3 3)) (fun X259 o261 => rg_name o261 6 1) (fun X259 l260 o261 v258 => rts_one (rt_eq sca_int (re_ixD o261 imF (re_cv cv_dctL (re_fld o261 (n := [99, 108, 97, 115, 115, 101, 115]) im_dctL .here (re_var o261 0 3))) (re_cv cv_chr (re_var o261 6 1))) (re_var o261 5 2))) (fun X259 l260 o261 v258 => re_var o261 6 1))))) fun v262 =>
  rb_nil (G := G__law_sorted) (Γn := fun b256 : tStr.A × Unit => [some ⟨(tRec [([99, 108, 97, 115, 115, 101, 115], (tDctL tInt)), ([112, 97, 114, 116, 115], (tDctL tStr)), ([98, 97, 114, 114, 101, 100], tStr)]), x.1⟩, some ⟨tStr, x.2.1⟩, some ⟨tStr, b256.1⟩, some ⟨tStr, b253.2.1⟩, some ⟨tChr, v254⟩, none, none]) (v262, ()) (.same (.same (.same (.same (.same (.drop (.same .nil))))))) .nil)) fun b256 =>
  rb_par2 xo (G := G__law_sorted) .nil 2 3 2 3 (ts := [tStr, tStr]) (.imm 2 imF (.imm 3 imF .nil)) (ram_cons (re_addS (re_var xo 2 2) (re_cv cv_chr (re_var xo 4 4))) (ram_cons (re_str []) ram_nil)) fun v263 =>
  rb_nil (G := G__law_sorted) (Γn := fun b255 : tStr.A × tStr.A × Unit => [some ⟨(tRec [([99, 108, 97, 115, 115, 101, 115], (tDctL tInt)), ([112, 97, 114, 116, 115], (tDctL tStr)), ([98, 97, 114, 114, 101, 100], tStr)]), x.1⟩, some ⟨tStr, x.2.1⟩, some ⟨tStr, b255.1⟩, some ⟨tStr, b255.2.1⟩, some ⟨tChr, v254⟩, none, none]) (v263.1, (v263.2.1, ())) (.same (.same (.same (.same (.same (.same (.same .nil))))))) .nil) (rb_asg xo (G := G__law_sorted) .nil 3 3 imF (re_addS (re_var xo 3 3) (re_cv cv_chr (re_var xo 4 4))) fun v264 =>
  rb_nil (G := G__law_sorted) (Γn := fun b255 : tStr.A × tStr.A × Unit => [some ⟨(tRec [([99, 108, 97, 115, 115, 101, 115], (tDctL tInt)), ([112, 97, 114, 116, 115], (tDctL tStr)), ([98, 97, 114, 114, 101, 100], tStr)]), x.1⟩, some ⟨tStr, x.2.1⟩, some ⟨tStr, b255.1⟩, some ⟨tStr, b255.2.1⟩, some ⟨tChr, v254⟩, none, none]) (b253.1, (v264, ())) (.same (.same (.same (.same (.same (.same (.same .nil))))))) .nil)) fun b255 =>
  rb_nil (G := G__law_sorted) (Γn := fun b253 : tStr.A × tStr.A × Unit => [some ⟨(tRec [([99, 108, 97, 115, 115, 101, 115], (tDctL tInt)), ([112, 97, 114, 116, 115], (tDctL tStr)), ([98, 97, 114, 114, 101, 100], tStr)]), x.1⟩, some ⟨tStr, x.2.1⟩, some ⟨tStr, b253.1⟩, some ⟨tStr, b253.2.1⟩, none, none, none]) (b255.1, (b255.2.1, ())) (.same (.same (.same (.same (.drop (.same (.same .nil))))))) .nil)) fun b253 =>
  rb_one (rs_ret (G := G__law_sorted) .nil (re_slS (re_var xo 2 2) ro_none (ro_some (re_neg re_int))))⟩
noncomputable def r__law_sorted (K : PySem.W.Frag) : ((tRec [([99, 108, 97, 115, 115, 101, 115], (tDctL tInt)), ([112, 97, 114, 116, 115], (tDctL tStr)), ([98, 97, 114, 114, 101, 100], tStr)]).A × tStr.A × Unit) → Option (Except Exn tStr.A) := fun x => runZ (none) ((d__law_sorted K).1 x ())

/-! ### _law_form -/
abbrev st__law_form : Stmt := top 50
abbrev N__law_form : List Str := ["plan", "page", "char"]
abbrev ps__law_form : List Str := ["plan", "page"]
abbrev G__law_form : FX := ⟨[], [], tStr⟩
def L__law_form (K : PySem.W.Frag) (M : Md) : Prop := LkP M "_law_atoms" ps__law_atoms [(tHas [112, 97, 114, 116, 115] (tDct tStr)), tStr] tStr (r__law_atoms K) 1 ∧ LkP M "_law_sorted" ps__law_sorted [(tRec [([99, 108, 97, 115, 115, 101, 115], (tDctL tInt)), ([112, 97, 114, 116, 115], (tDctL tStr)), ([98, 97, 114, 114, 101, 100], tStr)]), tStr] tStr (r__law_sorted K) 1 ∧ M.K = K
set_option maxHeartbeats 4000000 in
noncomputable def d__law_form (K : PySem.W.Frag) : { m : ((tRec [([99, 108, 97, 115, 115, 101, 115], (tDctL tInt)), ([112, 97, 114, 116, 115], (tDctL tStr)), ([98, 97, 114, 114, 101, 100], tStr)]).A × tStr.A × Unit) → OT [] → OutT G__law_form LC.none Unit [] // ∀ (X : Cx) (lks : L__law_form K X.md) (xo : XOk X N__law_form (defScope st__law_form) Bn 1) (xs : XS X) (x : (tRec [([99, 108, 97, 115, 115, 101, 115], (tDctL tInt)), ([112, 97, 114, 116, 115], (tDctL tStr)), ([98, 97, 114, 114, 101, 100], tStr)]).A × tStr.A × Unit), RB X G__law_form LC.none [some ⟨(tRec [([99, 108, 97, 115, 115, 101, 115], (tDctL tInt)), ([112, 97, 114, 116, 115], (tDctL tStr)), ([98, 97, 114, 114, 101, 100], tStr)]), x.1⟩, some ⟨tStr, x.2.1⟩, none] [] (defBody st__law_form) (fun _ : Unit => []) [] (m x) } := ⟨_, fun X lks xo xs x =>
  rb_one (rs_ret (G := G__law_form) .nil (re_call xo (lks.2.1) 2 (ra_cons im_rec (re_var xo 0 0) (ra_cons imF (re_join0L (re_frz frz_own (re_lc lks xo [("char", 2)] [0, 1] imF (ri_str (re_var xo 1 1)) (fun X249 o251 => rg_name o251 2 1) (fun X249 l250 o251 v248 => rts_nil) (fun X249 l250 o251 v248 => re_call o251 (l250.1) 2 (ra_cons im_has (re_cv (cv_trans (cv_has (fs := [([99, 108, 97, 115, 115, 101, 115], (tDctL tInt)), ([112, 97, 114, 116, 115], (tDctL tStr)), ([98, 97, 114, 114, 101, 100], tStr)]) (n := [112, 97, 114, 116, 115]) (.there .here) (by decide)) (cv_hasC cv_dctL)) (re_var o251 0 3)) (ra_cons imF (re_cv cv_chr (re_var o251 2 1)) ra_nil)))))) ra_nil))))⟩
noncomputable def r__law_form (K : PySem.W.Frag) : ((tRec [([99, 108, 97, 115, 115, 101, 115], (tDctL tInt)), ([112, 97, 114, 116, 115], (tDctL tStr)), ([98, 97, 114, 114, 101, 100], tStr)]).A × tStr.A × Unit) → Option (Except Exn tStr.A) := fun x => runZ (none) ((d__law_form K).1 x ())

/-! ### require_table -/
abbrev st_require_table : Stmt := top 34
abbrev N_require_table : List Str := ["table"]
abbrev ps_require_table : List Str := ["table"]
abbrev G_require_table : FX := ⟨[], [], tNone⟩
def L_require_table (K : PySem.W.Frag) (M : Md) : Prop := C8.InsC M.K (He.ga K "Table") ∧ M.mg "Table" = some (.ref (He.ga K "Table")) ∧ M.K = K
set_option maxHeartbeats 4000000 in
noncomputable def d_require_table (K : PySem.W.Frag) : { m : ((tIns (He.ga K "Table") fs_Table).A × Unit) → OT [] → OutT G_require_table LC.none Unit [] // ∀ (X : Cx) (lks : L_require_table K X.md) (xo : XOk X N_require_table (defScope st_require_table) Bn 0) (xs : XS X) (x : (tIns (He.ga K "Table") fs_Table).A × Unit), RB X G_require_table LC.none [some ⟨(tIns (He.ga K "Table") fs_Table), x.1⟩] [] (defBody st_require_table) (fun _ : Unit => [none]) [] (m x) } := ⟨_, fun X lks xo xs x =>
  rb_cons (G := G_require_table) (Γm := fun b266 : Unit => [some ⟨(tIns (He.ga K "Table") fs_Table), x.1⟩]) (om := []) (rs_if (G := G_require_table) .nil (rt_not (rt_val (re_isiO xo (lks.1) 1 6 2 (lks.2.1) (re_var xo 0 0)))) (rb_one rs_fail) (rb_nil (G := G_require_table) (Γn := fun b266 : Unit => [some ⟨(tIns (He.ga K "Table") fs_Table), x.1⟩]) () (.same .nil) .nil)) fun b266 =>
  rb_nil (G := G_require_table) (Γn := fun _ : Unit => [none]) () (.drop .nil) .nil⟩
noncomputable def r_require_table (K : PySem.W.Frag) : ((tIns (He.ga K "Table") fs_Table).A × Unit) → Option (Except Exn tNone.A) := fun x => runZ (some ()) ((d_require_table K).1 x ())

/-! ### Table_characters -/
abbrev st_Table_characters : Stmt := mth 31 4
abbrev N_Table_characters : List Str := ["self"]
abbrev ps_Table_characters : List Str := ["self"]
abbrev G_Table_characters : FX := ⟨[], [], tStr⟩
def L_Table_characters (K : PySem.W.Frag) (M : Md) : Prop := Cls M.K (He.ga K "Table") ∧ NoAttr M.K (He.ga K "Table") "class_map" ∧ M.K = K
set_option maxHeartbeats 4000000 in
noncomputable def d_Table_characters (K : PySem.W.Frag) : { m : ((tIns (He.ga K "Table") fs_Table).A × Unit) → OT [] → OutT G_Table_characters LC.none Unit [] // ∀ (X : Cx) (lks : L_Table_characters K X.md) (xo : XOk X N_Table_characters (defScope st_Table_characters) Bn 0) (xs : XS X) (x : (tIns (He.ga K "Table") fs_Table).A × Unit), RB X G_Table_characters LC.none [some ⟨(tIns (He.ga K "Table") fs_Table), x.1⟩] [] (defBody st_Table_characters) (fun _ : Unit => []) [] (m x) } := ⟨_, fun X lks xo xs x =>
  rb_one (rs_ret (G := G_Table_characters) .nil (re_join0L (re_frz frz_own (re_listD xo 1 5 (ra_cons im_dct (re_cv cv_dctL (re_attr (lks.1) (lks.2.1) im_dctL .here (re_var xo 0 0))) ra_nil)))))⟩
noncomputable def r_Table_characters (K : PySem.W.Frag) : ((tIns (He.ga K "Table") fs_Table).A × Unit) → Option (Except Exn tStr.A) := fun x => runZ (none) ((d_Table_characters K).1 x ())

/-! ### require_text -/
abbrev st_require_text : Stmt := top 35
abbrev N_require_text : List Str := ["table", "text"]
abbrev ps_require_text : List Str := ["table", "text"]
abbrev G_require_text : FX := ⟨[], [], tNone⟩
def L_require_text (K : PySem.W.Frag) (M : Md) : Prop := LkR M (He.ga K "Table") "characters" fs_Table tStr (r_Table_characters K) 1 ∧ LkP M "is_text" ps_is_text [tStr, tStr] tBool (r_is_text K) 1 ∧ Cls M.K (He.ga K "Table") ∧ LkC M "MAX_TEXT" (.int 60) ∧ M.K = K
set_option maxHeartbeats 4000000 in
noncomputable def d_require_text (K : PySem.W.Frag) : { m : ((tIns (He.ga K "Table") fs_Table).A × tStr.A × Unit) → OT [] → OutT G_require_text LC.none Unit [] // ∀ (X : Cx) (lks : L_require_text K X.md) (xo : XOk X N_require_text (defScope st_require_text) Bn 2) (xs : XS X) (x : (tIns (He.ga K "Table") fs_Table).A × tStr.A × Unit), RB X G_require_text LC.none [some ⟨(tIns (He.ga K "Table") fs_Table), x.1⟩, some ⟨tStr, x.2.1⟩] [] (defBody st_require_text) (fun _ : Unit => [none, none]) [] (m x) } := ⟨_, fun X lks xo xs x =>
  rb_cons (G := G_require_text) (Γm := fun b267 : Unit => [some ⟨(tIns (He.ga K "Table") fs_Table), x.1⟩, some ⟨tStr, x.2.1⟩]) (om := []) (rs_if (G := G_require_text) .nil (RW.rt (rw_or (rt_not (rt_val (re_call xo (lks.2.1) 2 (ra_cons imF (re_var xo 1 1) (ra_cons imF (re_prop xo (lks.2.2.1) (lks.1) (re_var xo 0 0)) ra_nil))))) (rw_or1 (rt_gt (re_lenS xo 3 3 (ra_cons imF (re_var xo 1 1) ra_nil)) (re_gint xo (lks.2.2.2.1) 4))))) (rb_one rs_fail) (rb_nil (G := G_require_text) (Γn := fun b267 : Unit => [some ⟨(tIns (He.ga K "Table") fs_Table), x.1⟩, some ⟨tStr, x.2.1⟩]) () (.same (.same .nil)) .nil)) fun b267 =>
  rb_nil (G := G_require_text) (Γn := fun _ : Unit => [none, none]) () (.drop (.drop .nil)) .nil⟩
noncomputable def r_require_text (K : PySem.W.Frag) : ((tIns (He.ga K "Table") fs_Table).A × tStr.A × Unit) → Option (Except Exn tNone.A) := fun x => runZ (some ()) ((d_require_text K).1 x ())

/-! ### Table___contains__ -/
abbrev st_Table___contains__ : Stmt := mth 31 14
abbrev N_Table___contains__ : List Str := ["self", "value"]
abbrev ps_Table___contains__ : List Str := ["self", "value"]
abbrev G_Table___contains__ : FX := ⟨[], [], tBool⟩
def L_Table___contains__ (K : PySem.W.Frag) (M : Md) : Prop := LkP M "is_character" ps_is_character_c [tChr] tBool (r_is_character_c K) 1 ∧ Cls M.K (He.ga K "Table") ∧ NoAttr M.K (He.ga K "Table") "class_map" ∧ M.K = K
set_option maxHeartbeats 4000000 in
noncomputable def d_Table___contains__ (K : PySem.W.Frag) : { m : ((tIns (He.ga K "Table") fs_Table).A × tChr.A × Unit) → OT [] → OutT G_Table___contains__ LC.none Unit [] // ∀ (X : Cx) (lks : L_Table___contains__ K X.md) (xo : XOk X N_Table___contains__ (defScope st_Table___contains__) Bn 1) (xs : XS X) (x : (tIns (He.ga K "Table") fs_Table).A × tChr.A × Unit), RB X G_Table___contains__ LC.none [some ⟨(tIns (He.ga K "Table") fs_Table), x.1⟩, some ⟨tChr, x.2.1⟩] [] (defBody st_Table___contains__) (fun _ : Unit => []) [] (m x) } := ⟨_, fun X lks xo xs x =>
  rb_one (rs_ret (G := G_Table___contains__) .nil (re_and (re_call xo (lks.1) 2 (ra_cons imF (re_var xo 1 1) ra_nil)) (re_one (re_inL (re_cv cv_chr (re_var xo 1 1)) (re_frz frz_own (re_listD xo 3 5 (ra_cons im_dct (re_cv cv_dctL (re_attr (lks.2.1) (lks.2.2.1) im_dctL .here (re_var xo 0 0))) ra_nil)))))))⟩
noncomputable def r_Table___contains__ (K : PySem.W.Frag) : ((tIns (He.ga K "Table") fs_Table).A × tChr.A × Unit) → Option (Except Exn tBool.A) := fun x => runZ (none) ((d_Table___contains__ K).1 x ())

/-! ### Table_require_known -/
abbrev st_Table_require_known : Stmt := mth 31 9
abbrev N_Table_require_known : List Str := ["self", "character"]
abbrev ps_Table_require_known : List Str := ["self", "character"]
abbrev G_Table_require_known : FX := ⟨[], [], tNone⟩
def L_Table_require_known (K : PySem.W.Frag) (M : Md) : Prop := LkM M (He.ga K "Table") "__contains__" ps_Table___contains__ fs_Table [tChr] tBool (r_Table___contains__ K) 2 ∧ M.K = K
set_option maxHeartbeats 4000000 in
noncomputable def d_Table_require_known (K : PySem.W.Frag) : { m : ((tIns (He.ga K "Table") fs_Table).A × tChr.A × Unit) → OT [] → OutT G_Table_require_known LC.none Unit [] // ∀ (X : Cx) (lks : L_Table_require_known K X.md) (xo : XOk X N_Table_require_known (defScope st_Table_require_known) Bn 2) (xs : XS X) (x : (tIns (He.ga K "Table") fs_Table).A × tChr.A × Unit), RB X G_Table_require_known LC.none [some ⟨(tIns (He.ga K "Table") fs_Table), x.1⟩, some ⟨tChr, x.2.1⟩] [] (defBody st_Table_require_known) (fun _ : Unit => [none, none]) [] (m x) } := ⟨_, fun X lks xo xs x =>
  rb_cons (G := G_Table_require_known) (Γm := fun b272 : Unit => [some ⟨(tIns (He.ga K "Table") fs_Table), x.1⟩, some ⟨tChr, x.2.1⟩]) (om := []) (rs_if (G := G_Table_require_known) .nil (rt_niO xo (lks.1) imF (re_var xo 1 1) (re_var xo 0 0)) (rb_one rs_fail) (rb_nil (G := G_Table_require_known) (Γn := fun b272 : Unit => [some ⟨(tIns (He.ga K "Table") fs_Table), x.1⟩, some ⟨tChr, x.2.1⟩]) () (.same (.same .nil)) .nil)) fun b272 =>
  rb_nil (G := G_Table_require_known) (Γn := fun _ : Unit => [none, none]) () (.drop (.drop .nil)) .nil⟩
noncomputable def r_Table_require_known (K : PySem.W.Frag) : ((tIns (He.ga K "Table") fs_Table).A × tChr.A × Unit) → Option (Except Exn tNone.A) := fun x => runZ (some ()) ((d_Table_require_known K).1 x ())

/-! ### Table_atoms -/
abbrev st_Table_atoms : Stmt := mth 31 12
abbrev N_Table_atoms : List Str := ["self", "character"]
abbrev ps_Table_atoms : List Str := ["self", "character"]
abbrev G_Table_atoms : FX := ⟨[], [], tStr⟩
def L_Table_atoms (K : PySem.W.Frag) (M : Md) : Prop := LkM M (He.ga K "Table") "require_known" ps_Table_require_known fs_Table [tChr] tNone (r_Table_require_known K) 3 ∧ Cls M.K (He.ga K "Table") ∧ NoAttr M.K (He.ga K "Table") "atom_map" ∧ M.K = K
set_option maxHeartbeats 4000000 in
noncomputable def d_Table_atoms (K : PySem.W.Frag) : { m : ((tIns (He.ga K "Table") fs_Table).A × tChr.A × Unit) → OT [] → OutT G_Table_atoms LC.none Unit [] // ∀ (X : Cx) (lks : L_Table_atoms K X.md) (xo : XOk X N_Table_atoms (defScope st_Table_atoms) Bn 3) (xs : XS X) (x : (tIns (He.ga K "Table") fs_Table).A × tChr.A × Unit), RB X G_Table_atoms LC.none [some ⟨(tIns (He.ga K "Table") fs_Table), x.1⟩, some ⟨tChr, x.2.1⟩] [] (defBody st_Table_atoms) (fun _ : Unit => []) [] (m x) } := ⟨_, fun X lks xo xs x =>
  rb_expr (G := G_Table_atoms) .nil (re_meth xo (lks.2.1) (lks.1) (re_var xo 0 0) (ra_cons imF (re_var xo 1 1) ra_nil))
  (rb_one (rs_ret (G := G_Table_atoms) .nil (re_ixD xo imF (re_cv cv_dctL (re_attr (lks.2.1) (lks.2.2.1) im_dctL (.there (.there .here)) (re_var xo 0 0))) (re_cv cv_chr (re_var xo 1 1)))))⟩
noncomputable def r_Table_atoms (K : PySem.W.Frag) : ((tIns (He.ga K "Table") fs_Table).A × tChr.A × Unit) → Option (Except Exn tStr.A) := fun x => runZ (none) ((d_Table_atoms K).1 x ())

/-! ### Table_class_of -/
abbrev st_Table_class_of : Stmt := mth 31 10
abbrev N_Table_class_of : List Str := ["self", "character"]
abbrev ps_Table_class_of : List Str := ["self", "character"]
abbrev G_Table_class_of : FX := ⟨[], [], tInt⟩
def L_Table_class_of (K : PySem.W.Frag) (M : Md) : Prop := LkM M (He.ga K "Table") "require_known" ps_Table_require_known fs_Table [tChr] tNone (r_Table_require_known K) 3 ∧ Cls M.K (He.ga K "Table") ∧ NoAttr M.K (He.ga K "Table") "class_map" ∧ M.K = K
set_option maxHeartbeats 4000000 in
noncomputable def d_Table_class_of (K : PySem.W.Frag) : { m : ((tIns (He.ga K "Table") fs_Table).A × tChr.A × Unit) → OT [] → OutT G_Table_class_of LC.none Unit [] // ∀ (X : Cx) (lks : L_Table_class_of K X.md) (xo : XOk X N_Table_class_of (defScope st_Table_class_of) Bn 3) (xs : XS X) (x : (tIns (He.ga K "Table") fs_Table).A × tChr.A × Unit), RB X G_Table_class_of LC.none [some ⟨(tIns (He.ga K "Table") fs_Table), x.1⟩, some ⟨tChr, x.2.1⟩] [] (defBody st_Table_class_of) (fun _ : Unit => []) [] (m x) } := ⟨_, fun X lks xo xs x =>
  rb_expr (G := G_Table_class_of) .nil (re_meth xo (lks.2.1) (lks.1) (re_var xo 0 0) (ra_cons imF (re_var xo 1 1) ra_nil))
  (rb_one (rs_ret (G := G_Table_class_of) .nil (re_ixD xo imF (re_cv cv_dctL (re_attr (lks.2.1) (lks.2.2.1) im_dctL .here (re_var xo 0 0))) (re_cv cv_chr (re_var xo 1 1)))))⟩
noncomputable def r_Table_class_of (K : PySem.W.Frag) : ((tIns (He.ga K "Table") fs_Table).A × tChr.A × Unit) → Option (Except Exn tInt.A) := fun x => runZ (none) ((d_Table_class_of K).1 x ())

/-! ### sorted_runs -/
abbrev st_sorted_runs : Stmt := top 36
abbrev N_sorted_runs : List Str := ["table", "atoms", "found", "run", "atom"]
abbrev ps_sorted_runs : List Str := ["table", "atoms"]
abbrev G_sorted_runs : FX := ⟨[], [], tStr⟩
def L_sorted_runs (K : PySem.W.Frag) (M : Md) : Prop := LkM M (He.ga K "Table") "class_of" ps_Table_class_of fs_Table [tChr] tInt (r_Table_class_of K) 4 ∧ Cls M.K (He.ga K "Table") ∧ LamX.TabB M.base M.mg (He.cT K ("sorted_runs", none)).1 (He.cT K ("sorted_runs", none)).2 ∧ M.K = K
set_option maxHeartbeats 4000000 in
noncomputable def d_sorted_runs (K : PySem.W.Frag) : { m : ((tTg (TG K) (tIns (He.ga K "Table") fs_Table)).A × tStr.A × Unit) → OT [] → OutT G_sorted_runs LC.none Unit [] // ∀ (X : Cx) (cd : X.env.code = .ref (He.cT K ("sorted_runs", none)).1) (cq : X.env.qual ++ "<lambda>" = "sorted_runs.<locals>.<lambda>") (lks : L_sorted_runs K X.md) (xo : XOk X N_sorted_runs (defScope st_sorted_runs) Bn 8) (xs : XS X) (x : (tTg (TG K) (tIns (He.ga K "Table") fs_Table)).A × tStr.A × Unit), RB X G_sorted_runs LC.none [some ⟨(tTg (TG K) (tIns (He.ga K "Table") fs_Table)), x.1⟩, some ⟨tStr, x.2.1⟩, none, none, none] [] (defBody st_sorted_runs) (fun _ : Unit => []) [] (m x) } := ⟨_, fun X cd cq lks xo xs x =>
  rb_asgO xo (G := G_sorted_runs) .nil 2 2 (re_list (t := tChr) ral_nil)
  (rb_asgO xo (G := G_sorted_runs) (.skip .nil) 3 3 (re_list (t := tChr) ral_nil)
  (rb_cons (G := G_sorted_runs) (Γm := fun b275 : Unit => [some ⟨(tTg (TG K) (tIns (He.ga K "Table") fs_Table)), x.1⟩, some ⟨tStr, x.2.1⟩, none, none, none]) (om := [(3, (tOwn tChr)), (2, (tOwn tChr))]) (rs_for (G := G_sorted_runs) (β := Unit) (.skip (.skip .nil)) xs.own xo.calm (ΓL := fun b275 : Unit => [some ⟨(tTg (TG K) (tIns (He.ga K "Table") fs_Table)), x.1⟩, some ⟨tStr, x.2.1⟩, none, none, none]) (b0 := ()) (.same (.same (.same (.same (.same .nil))))) (ri_str (re_var xo 1 1)) (fun b275 => rg_name xo 4 4) (fun v276 b275 =>
  rb_cons (G := G_sorted_runs) (Γm := fun b277 : Unit => [some ⟨(tTg (TG K) (tIns (He.ga K "Table") fs_Table)), x.1⟩, some ⟨tStr, x.2.1⟩, none, none, some ⟨tChr, v276⟩]) (om := [(3, (tOwn tChr)), (2, (tOwn tChr))]) (rs_if (G := G_sorted_runs) (.skip (.skip .nil)) (rt_eq sca_int (re_meth xo (lks.2.1) (lks.1) (re_untag (re_var xo 0 0)) (ra_cons imF (re_var xo 4 4) ra_nil)) re_int) (rb_expr (G := G_sorted_runs) (.skip (.skip .nil)) (re_extend xo (.there .here) 2 (ra_cons im_lst (re_frz frz_own (re_catL (re_frz frz_own (re_bor .here frz_own (fl_own fl_flat) ⟨(fl_own fl_flat), trivial⟩ (fl_own fl_flat) fun v279 => re_sortK xo lks (t := tChr) (t0 := (tTg (TG K) (tIns (He.ga K "Table") fs_Table))) (x0 := x.1) (T := TG K) (by unfold TG; exact .head _) (lks.2.2.1) cd cq (ra_cons im_lst (re_var xo 3 3) ra_nil) 0 0 0 (fun Xn lksn xon xsn v280 => re_meth xon (lksn.2.1) (lksn.1) (re_untag (re_var xon 1 1)) (ra_cons imF (re_var xon 0 0) ra_nil)) 5 14 (by decide +kernel) (fun _ _ _ _ _ _ => rfl))) (re_frz frz_own (re_list (t := tChr) (ral_cons imF (re_var xo 4 4) ral_nil))))) ra_nil))
  (rb_reasgO xo (G := G_sorted_runs) (.skip (.skip .nil)) 3 3 .here (re_list (t := tChr) ral_nil)
  (rb_nil (G := G_sorted_runs) (Γn := fun b277 : Unit => [some ⟨(tTg (TG K) (tIns (He.ga K "Table") fs_Table)), x.1⟩, some ⟨tStr, x.2.1⟩, none, none, some ⟨tChr, v276⟩]) () (.same (.same (.same (.same (.same .nil))))) (.keep (.keep .nil))))) (rb_expr (G := G_sorted_runs) (.skip (.skip .nil)) (re_append xo imF .here 3 (ra_cons imF (re_var xo 4 4) ra_nil))
  (rb_nil (G := G_sorted_runs) (Γn := fun b277 : Unit => [some ⟨(tTg (TG K) (tIns (He.ga K "Table") fs_Table)), x.1⟩, some ⟨tStr, x.2.1⟩, none, none, some ⟨tChr, v276⟩]) () (.same (.same (.same (.same (.same .nil))))) (.keep (.keep .nil))))) fun b277 =>
  rb_nil (G := G_sorted_runs) (Γn := fun b275 : Unit => [some ⟨(tTg (TG K) (tIns (He.ga K "Table") fs_Table)), x.1⟩, some ⟨tStr, x.2.1⟩, none, none, none]) () (.same (.same (.same (.same (.drop .nil))))) (.keep (.keep .nil)))) fun b275 =>
  rb_one (rs_ret (G := G_sorted_runs) (.skip (.skip .nil)) (re_join0 (re_frz frz_own (re_bor (.there .here) frz_own (fl_own fl_flat) ⟨(fl_own fl_flat), trivial⟩ (fl_own fl_flat) fun v283 => re_catL (re_var xo 2 2) (re_frz frz_own (re_bor .here frz_own (fl_own fl_flat) trivial (fl_own fl_flat) fun v285 => re_sortK xo lks (t := tChr) (t0 := (tTg (TG K) (tIns (He.ga K "Table") fs_Table))) (x0 := x.1) (T := TG K) (by unfold TG; exact .head _) (lks.2.2.1) cd cq (ra_cons im_lst (re_var xo 3 3) ra_nil) 0 0 0 (fun Xn lksn xon xsn v286 => re_meth xon (lksn.2.1) (lksn.1) (re_untag (re_var xon 1 1)) (ra_cons imF (re_var xon 0 0) ra_nil)) 5 14 (by decide +kernel) (fun _ _ _ _ _ _ => rfl)))))))))⟩
noncomputable def r_sorted_runs (K : PySem.W.Frag) : ((tTg (TG K) (tIns (He.ga K "Table") fs_Table)).A × tStr.A × Unit) → Option (Except Exn tStr.A) := fun x => runZ (none) ((d_sorted_runs K).1 x ())

/-! ### plain_form -/
abbrev st_plain_form : Stmt := top 37
abbrev N_plain_form : List Str := ["table", "text", "char"]
abbrev ps_plain_form : List Str := ["table", "text"]
abbrev G_plain_form : FX := ⟨[], [], tStr⟩
def L_plain_form (K : PySem.W.Frag) (M : Md) : Prop := LkM M (He.ga K "Table") "atoms" ps_Table_atoms fs_Table [tChr] tStr (r_Table_atoms K) 4 ∧ LkP M "sorted_runs" ps_sorted_runs [(tTg (TG K) (tIns (He.ga K "Table") fs_Table)), tStr] tStr (r_sorted_runs K) 9 ∧ Cls M.K (He.ga K "Table") ∧ M.K = K
set_option maxHeartbeats 4000000 in
noncomputable def d_plain_form (K : PySem.W.Frag) : { m : ((tTg (TG K) (tIns (He.ga K "Table") fs_Table)).A × tStr.A × Unit) → OT [] → OutT G_plain_form LC.none Unit [] // ∀ (X : Cx) (lks : L_plain_form K X.md) (xo : XOk X N_plain_form (defScope st_plain_form) Bn 9) (xs : XS X) (x : (tTg (TG K) (tIns (He.ga K "Table") fs_Table)).A × tStr.A × Unit), RB X G_plain_form LC.none [some ⟨(tTg (TG K) (tIns (He.ga K "Table") fs_Table)), x.1⟩, some ⟨tStr, x.2.1⟩, none] [] (defBody st_plain_form) (fun _ : Unit => []) [] (m x) } := ⟨_, fun X lks xo xs x =>
  rb_one (rs_ret (G := G_plain_form) .nil (re_call xo (lks.2.1) 2 (ra_cons (im_tg im_ins) (re_tag 0 (re_untag (re_var xo 0 0))) (ra_cons imF (re_join0L (re_frz frz_own (re_lc lks xo [("char", 2)] [0, 1] imF (ri_str (re_var xo 1 1)) (fun X269 o271 => rg_name o271 2 1) (fun X269 l270 o271 v268 => rts_nil) (fun X269 l270 o271 v268 => re_meth o271 (l270.2.2.1) (l270.1) (re_untag (re_var o271 0 2)) (ra_cons imF (re_var o271 2 1) ra_nil))))) ra_nil))))⟩
noncomputable def r_plain_form (K : PySem.W.Frag) : ((tTg (TG K) (tIns (He.ga K "Table") fs_Table)).A × tStr.A × Unit) → Option (Except Exn tStr.A) := fun x => runZ (none) ((d_plain_form K).1 x ())

/-! ### decomposed -/
abbrev st_decomposed : Stmt := top 38
abbrev N_decomposed : List Str := ["table", "text"]
abbrev ps_decomposed : List Str := ["table", "text"]
abbrev G_decomposed : FX := ⟨[], [], tStr⟩
def L_decomposed (K : PySem.W.Frag) (M : Md) : Prop := LkP M "require_table" ps_require_table [(tIns (He.ga K "Table") fs_Table)] tNone (r_require_table K) 1 ∧ LkP M "require_text" ps_require_text [(tIns (He.ga K "Table") fs_Table), tStr] tNone (r_require_text K) 3 ∧ LkP M "plain_form" ps_plain_form [(tTg (TG K) (tIns (He.ga K "Table") fs_Table)), tStr] tStr (r_plain_form K) 10 ∧ M.K = K
set_option maxHeartbeats 4000000 in
noncomputable def d_decomposed (K : PySem.W.Frag) : { m : ((tTg (TG K) (tIns (He.ga K "Table") fs_Table)).A × tStr.A × Unit) → OT [] → OutT G_decomposed LC.none Unit [] // ∀ (X : Cx) (lks : L_decomposed K X.md) (xo : XOk X N_decomposed (defScope st_decomposed) Bn 10) (xs : XS X) (x : (tTg (TG K) (tIns (He.ga K "Table") fs_Table)).A × tStr.A × Unit), RB X G_decomposed LC.none [some ⟨(tTg (TG K) (tIns (He.ga K "Table") fs_Table)), x.1⟩, some ⟨tStr, x.2.1⟩] [] (defBody st_decomposed) (fun _ : Unit => []) [] (m x) } := ⟨_, fun X lks xo xs x =>
  rb_expr (G := G_decomposed) .nil (re_call xo (lks.1) 2 (ra_cons im_ins (re_untag (re_var xo 0 0)) ra_nil))
  (rb_expr (G := G_decomposed) .nil (re_call xo (lks.2.1) 3 (ra_cons im_ins (re_untag (re_var xo 0 0)) (ra_cons imF (re_var xo 1 1) ra_nil)))
  (rb_one (rs_ret (G := G_decomposed) .nil (re_call xo (lks.2.2.1) 4 (ra_cons (im_tg im_ins) (re_tag 0 (re_untag (re_var xo 0 0))) (ra_cons imF (re_var xo 1 1) ra_nil))))))⟩
noncomputable def r_decomposed (K : PySem.W.Frag) : ((tTg (TG K) (tIns (He.ga K "Table") fs_Table)).A × tStr.A × Unit) → Option (Except Exn tStr.A) := fun x => runZ (none) ((d_decomposed K).1 x ())

/-! ### law -/
abbrev st_law : Stmt := top 53
abbrev N_law : List Str := ["script", "k", "box", "wide", "plan", "made", "some", "page", "due"]
abbrev ps_law : List Str := ["script"]
abbrev G_law : FX := ⟨[], [], tBool⟩
def L_law (K : PySem.W.Frag) (M : Md) : Prop := LkP M "_law_cell" ps__law_cell [(tScr K), tInt] tInt (r__law_cell K) 1 ∧ LkP M "_law_box" ps__law_box [tInt] (tOwn tInt) (r__law_box K) 1 ∧ LkO M "_law_take" ps__law_take (tOwn tInt) [tInt] tInt (r__law_take K) 1 ∧ LkO M "_law_table" ps__law_table (tOwn tInt) [tInt, tInt] (tRec [([99, 108, 97, 115, 115, 101, 115], (tDctL tInt)), ([112, 97, 114, 116, 115], (tDctL tStr)), ([98, 97, 114, 114, 101, 100], tStr)]) (r__law_table K) 3 ∧ LkO M "_law_made" ps__law_made (tOwn tInt) [(tTg (TG K) (tRec [([99, 108, 97, 115, 115, 101, 115], (tDctL tInt)), ([112, 97, 114, 116, 115], (tDctL tStr)), ([98, 97, 114, 114, 101, 100], tStr)]))] (tTg (TG K) (tIns (He.ga K "Table") fs_Table)) (r__law_made K) 35 ∧ LkO M "_law_text" ps__law_text (tOwn tInt) [(tRec [([99, 108, 97, 115, 115, 101, 115], (tDctL tInt)), ([112, 97, 114, 116, 115], (tDctL tStr)), ([98, 97, 114, 114, 101, 100], tStr)]), tInt] tStr (r__law_text K) 2 ∧ LkO M "_law_of_marks" ps__law_of_marks (tOwn tInt) [(tRec [([99, 108, 97, 115, 115, 101, 115], (tDctL tInt)), ([112, 97, 114, 116, 115], (tDctL tStr)), ([98, 97, 114, 114, 101, 100], tStr)]), tInt] tStr (r__law_of_marks K) 2 ∧ LkP M "_law_form" ps__law_form [(tRec [([99, 108, 97, 115, 115, 101, 115], (tDctL tInt)), ([112, 97, 114, 116, 115], (tDctL tStr)), ([98, 97, 114, 114, 101, 100], tStr)]), tStr] tStr (r__law_form K) 2 ∧ LkP M "decomposed" ps_decomposed [(tTg (TG K) (tIns (He.ga K "Table") fs_Table)), tStr] tStr (r_decomposed K) 11 ∧ LkKR M "decomposed" ps_decomposed [(tTg (TG K) (tIns (He.ga K "Table") fs_Table)), tStr] tStr (r_decomposed K) 11 ∧ M.K = K
set_option maxHeartbeats 4000000 in
noncomputable def d_law (K : PySem.W.Frag) : { m : ((tTg (TG K) (tScr K)).A × Unit) → OT [] → OutT G_law LC.none Unit [] // ∀ (X : Cx) (lks : L_law K X.md) (xo : XOk X N_law (defScope st_law) Bn 35) (xs : XS X) (x : (tTg (TG K) (tScr K)).A × Unit), RB X G_law LC.none [some ⟨(tTg (TG K) (tScr K)), x.1⟩, none, none, none, none, none, none, none, none] [] (defBody st_law) (fun _ : Unit => []) [] (m x) } := ⟨_, fun X lks xo xs x =>
  rb_cons (G := G_law) (Γm := fun b1 : Unit => [some ⟨(tTg (TG K) (tScr K)), x.1⟩, none, none, none, none, none, none, none, none]) (om := []) (rs_for (G := G_law) (β := Unit) .nil xs.own xo.calm (ΓL := fun b1 : Unit => [some ⟨(tTg (TG K) (tScr K)), x.1⟩, none, none, none, none, none, none, none, none]) (b0 := ()) (.same (.same (.same (.same (.same (.same (.same (.same (.same .nil))))))))) (ri_range1 xo 9 0 (ra_cons imF (re_max2 xo 10 1 (ra_cons imF re_int (ra_cons imF (re_min2 xo 11 2 (ra_cons imF re_int (ra_cons imF (re_lenX xo (lks.2.2.2.2.2.2.2.2.2.2) 12 3 (ra_cons im_scr (re_untag (re_var xo 0 0)) ra_nil)) ra_nil))) ra_nil))) ra_nil)) (fun b1 => rg_name xo 1 1) (fun v2 b1 =>
  rb_asgO xo (G := G_law) .nil 2 2 (re_call xo (lks.2.1) 13 (ra_cons imF (re_call xo (lks.1) 14 (ra_cons im_scr (re_untag (re_var xo 0 0)) (ra_cons imF (re_var xo 1 1) ra_nil))) ra_nil))
  (rb_asg xo (G := G_law) (.skip .nil) 3 3 imF (re_intB xo 15 4 (ra_cons imF (re_and (re_eq sca_int (re_var xo 1 1) re_int) (re_one (re_eq sca_int (re_callO xo (lks.2.2.1) 16 .here 2 (ra_cons imF re_int ra_nil) (hib := by rfl)) re_int))) ra_nil)) fun v23 =>
  rb_asg xo (G := G_law) (.skip .nil) 4 4 im_rec (re_callO xo (lks.2.2.2.1) 17 .here 2 (ra_cons imF (re_add (re_add re_int (re_callO xo (lks.2.2.1) 16 .here 2 (ra_cons imF re_int ra_nil) (hib := by rfl))) (re_mul re_int (re_var xo 3 3))) (ra_cons imF (re_add (re_callO xo (lks.2.2.1) 16 .here 2 (ra_cons imF re_int ra_nil) (hib := by rfl)) (re_var xo 3 3)) ra_nil)) (hib := by rfl)) fun v76 =>
  rb_asg xo (G := G_law) (.skip .nil) 5 5 (im_tg im_ins) (re_callO xo (lks.2.2.2.2.1) 18 .here 2 (ra_cons (im_tg im_rec) (re_tag 0 (re_var xo 4 4)) ra_nil) (hib := by rfl)) fun v229 =>
  rb_asg xo (G := G_law) (.skip .nil) 6 6 im_lst (re_frz frz_own (re_list (t := tStr) (ral_cons imF (re_callO xo (lks.2.2.2.2.2.1) 19 .here 2 (ra_cons im_rec (re_var xo 4 4) (ra_cons imF re_int ra_nil)) (hib := by rfl)) (ral_cons imF (re_callO xo (lks.2.2.2.2.2.1) 19 .here 2 (ra_cons im_rec (re_var xo 4 4) (ra_cons imF (re_ixL imF (re_frz frz_own (re_list (t := tInt) (ral_cons imF re_int (ral_cons imF re_int ral_nil)))) (re_intB xo 15 4 (ra_cons imF (re_eq sca_int (re_callO xo (lks.2.2.1) 16 .here 2 (ra_cons imF re_int ra_nil) (hib := by rfl)) re_int) ra_nil))) ra_nil)) (hib := by rfl)) (ral_cons imF (re_str []) ral_nil))))) fun v235 =>
  rb_asg xo (G := G_law) (.skip .nil) 6 6 im_lst (re_frz frz_own (re_catL (re_var xo 6 6) (re_frz frz_own (re_list (t := tStr) (ral_cons imF (re_callO xo (lks.2.2.2.2.2.2.1) 20 .here 2 (ra_cons im_rec (re_var xo 4 4) (ra_cons imF re_int ra_nil)) (hib := by rfl)) (ral_cons imF (re_addS (re_callO xo (lks.2.2.2.2.2.1) 19 .here 2 (ra_cons im_rec (re_var xo 4 4) (ra_cons imF re_int ra_nil)) (hib := by rfl)) (re_callO xo (lks.2.2.2.2.2.2.1) 20 .here 2 (ra_cons im_rec (re_var xo 4 4) (ra_cons imF re_int ra_nil)) (hib := by rfl))) ral_nil)))))) fun v245 =>
  rb_cons (G := G_law) (Γm := fun b246 : Unit => [some ⟨(tTg (TG K) (tScr K)), x.1⟩, some ⟨tInt, v2⟩, none, some ⟨tInt, v23⟩, some ⟨(tRec [([99, 108, 97, 115, 115, 101, 115], (tDctL tInt)), ([112, 97, 114, 116, 115], (tDctL tStr)), ([98, 97, 114, 114, 101, 100], tStr)]), v76⟩, some ⟨(tTg (TG K) (tIns (He.ga K "Table") fs_Table)), v229⟩, some ⟨(tLst tStr), v245⟩, none, none]) (om := [(2, (tOwn tInt))]) (rs_for (G := G_law) (β := Unit) (.skip .nil) xs.own xo.calm (ΓL := fun b246 : Unit => [some ⟨(tTg (TG K) (tScr K)), x.1⟩, some ⟨tInt, v2⟩, none, some ⟨tInt, v23⟩, some ⟨(tRec [([99, 108, 97, 115, 115, 101, 115], (tDctL tInt)), ([112, 97, 114, 116, 115], (tDctL tStr)), ([98, 97, 114, 114, 101, 100], tStr)]), v76⟩, some ⟨(tTg (TG K) (tIns (He.ga K "Table") fs_Table)), v229⟩, some ⟨(tLst tStr), v245⟩, none, none]) (b0 := ()) (.same (.same (.same (.same (.same (.same (.same (.same (.same .nil))))))))) (ri_list (re_var xo 6 6)) (fun b246 => rg_name xo 7 7) (fun v247 b246 =>
  rb_asg xo (G := G_law) (.skip .nil) 8 8 imF (re_call xo (lks.2.2.2.2.2.2.2.1) 21 (ra_cons im_rec (re_var xo 4 4) (ra_cons imF (re_var xo 7 7) ra_nil))) fun v265 =>
  rb_cons (G := G_law) (Γm := fun b287 : Unit => [some ⟨(tTg (TG K) (tScr K)), x.1⟩, some ⟨tInt, v2⟩, none, some ⟨tInt, v23⟩, some ⟨(tRec [([99, 108, 97, 115, 115, 101, 115], (tDctL tInt)), ([112, 97, 114, 116, 115], (tDctL tStr)), ([98, 97, 114, 114, 101, 100], tStr)]), v76⟩, some ⟨(tTg (TG K) (tIns (He.ga K "Table") fs_Table)), v229⟩, some ⟨(tLst tStr), v245⟩, some ⟨tStr, v247⟩, some ⟨tStr, v265⟩]) (om := [(2, (tOwn tInt))]) (rs_if (G := G_law) (.skip .nil) (RW.rt (rw_or (rt_ne sca_str (re_reprS xo sh_str imF 22 13 (ra_cons imF (re_call xo (lks.2.2.2.2.2.2.2.2.1) 23 (ra_cons (im_tg im_ins) (re_tag 0 (re_untag (re_var xo 5 5))) (ra_cons imF (re_var xo 7 7) ra_nil))) ra_nil)) (re_reprS xo sh_str imF 22 13 (ra_cons imF (re_var xo 8 8) ra_nil))) (rw_or1 (rt_ne sca_str (re_callKR xo (ts' := [tStr, (tTg (TG K) (tIns (He.ga K "Table") fs_Table))]) swapT (fun h => swap_ok h) (lks.2.2.2.2.2.2.2.2.2.1) 23 (rk_cons imF (re_var xo 7 7) (rk_cons (im_tg im_ins) (re_tag 0 (re_untag (re_var xo 5 5))) rk_nil))) (re_var xo 8 8))))) (rb_one (rs_ret (G := G_law) (.skip .nil) re_bool)) (rb_nil (G := G_law) (Γn := fun b287 : Unit => [some ⟨(tTg (TG K) (tScr K)), x.1⟩, some ⟨tInt, v2⟩, none, some ⟨tInt, v23⟩, some ⟨(tRec [([99, 108, 97, 115, 115, 101, 115], (tDctL tInt)), ([112, 97, 114, 116, 115], (tDctL tStr)), ([98, 97, 114, 114, 101, 100], tStr)]), v76⟩, some ⟨(tTg (TG K) (tIns (He.ga K "Table") fs_Table)), v229⟩, some ⟨(tLst tStr), v245⟩, some ⟨tStr, v247⟩, some ⟨tStr, v265⟩]) () (.same (.same (.same (.same (.same (.same (.same (.same (.same .nil))))))))) (.keep .nil))) fun b287 =>
  rb_cons (G := G_law) (Γm := fun b288 : Unit => [some ⟨(tTg (TG K) (tScr K)), x.1⟩, some ⟨tInt, v2⟩, none, some ⟨tInt, v23⟩, some ⟨(tRec [([99, 108, 97, 115, 115, 101, 115], (tDctL tInt)), ([112, 97, 114, 116, 115], (tDctL tStr)), ([98, 97, 114, 114, 101, 100], tStr)]), v76⟩, some ⟨(tTg (TG K) (tIns (He.ga K "Table") fs_Table)), v229⟩, some ⟨(tLst tStr), v245⟩, some ⟨tStr, v247⟩, some ⟨tStr, v265⟩]) (om := [(2, (tOwn tInt))]) (rs_if (G := G_law) (.skip .nil) (RW.rt (rw_and (rt_le (re_lenS xo 12 3 (ra_cons imF (re_var xo 8 8) ra_nil)) re_int) (rw_and1 (rt_ne sca_str (re_call xo (lks.2.2.2.2.2.2.2.2.1) 23 (ra_cons (im_tg im_ins) (re_tag 0 (re_untag (re_var xo 5 5))) (ra_cons imF (re_var xo 8 8) ra_nil))) (re_var xo 8 8))))) (rb_one (rs_ret (G := G_law) (.skip .nil) re_bool)) (rb_nil (G := G_law) (Γn := fun b288 : Unit => [some ⟨(tTg (TG K) (tScr K)), x.1⟩, some ⟨tInt, v2⟩, none, some ⟨tInt, v23⟩, some ⟨(tRec [([99, 108, 97, 115, 115, 101, 115], (tDctL tInt)), ([112, 97, 114, 116, 115], (tDctL tStr)), ([98, 97, 114, 114, 101, 100], tStr)]), v76⟩, some ⟨(tTg (TG K) (tIns (He.ga K "Table") fs_Table)), v229⟩, some ⟨(tLst tStr), v245⟩, some ⟨tStr, v247⟩, some ⟨tStr, v265⟩]) () (.same (.same (.same (.same (.same (.same (.same (.same (.same .nil))))))))) (.keep .nil))) fun b288 =>
  rb_nil (G := G_law) (Γn := fun b246 : Unit => [some ⟨(tTg (TG K) (tScr K)), x.1⟩, some ⟨tInt, v2⟩, none, some ⟨tInt, v23⟩, some ⟨(tRec [([99, 108, 97, 115, 115, 101, 115], (tDctL tInt)), ([112, 97, 114, 116, 115], (tDctL tStr)), ([98, 97, 114, 114, 101, 100], tStr)]), v76⟩, some ⟨(tTg (TG K) (tIns (He.ga K "Table") fs_Table)), v229⟩, some ⟨(tLst tStr), v245⟩, none, none]) () (.same (.same (.same (.same (.same (.same (.same (.drop (.drop .nil))))))))) (.keep .nil))) fun b246 =>
  rb_nil (G := G_law) (Γn := fun b1 : Unit => [some ⟨(tTg (TG K) (tScr K)), x.1⟩, none, none, none, none, none, none, none, none]) () (.same (.drop (.same (.drop (.drop (.drop (.drop (.same (.same .nil))))))))) (.skip .nil)))) fun b1 =>
  rb_one (rs_ret (G := G_law) .nil re_bool)⟩
noncomputable def r_law (K : PySem.W.Frag) : ((tTg (TG K) (tScr K)).A × Unit) → Option (Except Exn tBool.A) := fun x => runZ (none) ((d_law K).1 x ())

end K

namespace K
open PySem PySem.Spec PyProof.Rows L2 Mi Pb
variable (K : PySem.W.Frag)
theorem m_is_character_c {c : Nat} : r_is_character_c K (c, ()) = some (.ok (decide (c ∈ CH))) := by
  unfold r_is_character_c d_is_character_c
  have h1 : ([c] : List Nat).length ≤ sizeLine := small_len (by simp)
  have h2 : decide (((1 : Nat) : Int) = 1) = true := rfl
  simp only [SM.bind, SM.ret, SM.lift, SM.lifx, SM.map, SM.andB, SM.orB, SM.callO, SM.borrow, SM.bor, SM.fail, SM.chain, SM.ite, PutI.ow, RFld.get, noX, bindX, Out.bind, OMem.get, OMem.set, OSub.map, OSel.get, OSel.rest, OSel.join, runO, runZ, runJ, id, if_true, if_false, Bool.false_eq_true, Bool.not_true, Bool.not_false]
  simp only [SM.bind, SM.ret, SM.lift, SM.lifx, SM.map, SM.andB, SM.orB, SM.callO, SM.borrow, SM.bor, SM.fail, SM.chain, SM.ite, PutI.ow, RFld.get, noX, bindX, Out.bind, OMem.get, OMem.set, OSub.map, OSel.get, OSel.rest, OSel.join, runO, runZ, runJ, id, if_true, if_false, Bool.false_eq_true, Bool.not_true, Bool.not_false, if_pos h1, List.length_singleton, h2]

  rfl
theorem m_is_character_s {s : List Nat} (hs : s.length ≤ 16777216) : r_is_character_s K (s, ()) = some (.ok (decide (s.length = 1) && inS s CH)) := by
  unfold r_is_character_s d_is_character_s
  have e : s.length ≤ sizeLine := small_len hs
  simp only [SM.bind, SM.ret, SM.lift, SM.lifx, SM.map, SM.andB, SM.orB, SM.callO, SM.borrow, SM.bor, SM.fail, SM.chain, SM.ite, PutI.ow, RFld.get, noX, bindX, Out.bind, OMem.get, OMem.set, OSub.map, OSel.get, OSel.rest, OSel.join, runO, runZ, runJ, id, if_true, if_false, Bool.false_eq_true, Bool.not_true, Bool.not_false]
  by_cases h1 : s.length = 1
  · have h2 : decide ((s.length : Int) = 1) = true := decide_eq_true (by omega)
    simp only [SM.bind, SM.ret, SM.lift, SM.lifx, SM.map, SM.andB, SM.orB, SM.callO, SM.borrow, SM.bor, SM.fail, SM.chain, SM.ite, PutI.ow, RFld.get, noX, bindX, Out.bind, OMem.get, OMem.set, OSub.map, OSel.get, OSel.rest, OSel.join, runO, runZ, runJ, id, if_true, if_false, Bool.false_eq_true, Bool.not_true, Bool.not_false, if_pos e, h2, decide_eq_true h1, Bool.true_and]
    rfl
  · have h2 : decide ((s.length : Int) = 1) = false := decide_eq_false (by omega)
    simp only [SM.bind, SM.ret, SM.lift, SM.lifx, SM.map, SM.andB, SM.orB, SM.callO, SM.borrow, SM.bor, SM.fail, SM.chain, SM.ite, PutI.ow, RFld.get, noX, bindX, Out.bind, OMem.get, OMem.set, OSub.map, OSel.get, OSel.rest, OSel.join, runO, runZ, runJ, id, if_true, if_false, Bool.false_eq_true, Bool.not_true, Bool.not_false, if_pos e, h2, decide_eq_false h1, Bool.false_and]
theorem m_is_class {v m : Int} : r_is_class K (v, m, ()) = some (.ok (decide (0 ≤ v) && decide (v ≤ m))) := by
  unfold r_is_class d_is_class
  simp only [SM.bind, SM.ret, SM.lift, SM.lifx, SM.map, SM.andB, SM.orB, SM.callO, SM.borrow, SM.bor, SM.fail, SM.chain, SM.ite, PutI.ow, RFld.get, noX, bindX, Out.bind, OMem.get, OMem.set, OSub.map, OSel.get, OSel.rest, OSel.join, runO, runZ, runJ, id, if_true, if_false, Bool.false_eq_true, Bool.not_true, Bool.not_false]
  by_cases h : 0 ≤ v
  · simp only [SM.bind, SM.ret, SM.lift, SM.lifx, SM.map, SM.andB, SM.orB, SM.callO, SM.borrow, SM.bor, SM.fail, SM.chain, SM.ite, PutI.ow, RFld.get, noX, bindX, Out.bind, OMem.get, OMem.set, OSub.map, OSel.get, OSel.rest, OSel.join, runO, runZ, runJ, id, if_true, if_false, Bool.false_eq_true, Bool.not_true, Bool.not_false, decide_eq_true h, Bool.true_and]
  · simp only [SM.bind, SM.ret, SM.lift, SM.lifx, SM.map, SM.andB, SM.orB, SM.callO, SM.borrow, SM.bor, SM.fail, SM.chain, SM.ite, PutI.ow, RFld.get, noX, bindX, Out.bind, OMem.get, OMem.set, OSub.map, OSel.get, OSel.rest, OSel.join, runO, runZ, runJ, id, if_true, if_false, Bool.false_eq_true, Bool.not_true, Bool.not_false, decide_eq_false h, Bool.false_and]
theorem m_is_text {s y : List Nat} (hs : s.length ≤ 16777216) : r_is_text K (s, y, ()) = some (.ok (s.all fun c => decide (c ∈ y))) := by
  unfold r_is_text d_is_text
  have hl : s.length ≤ sizeLine := small_len hs
  simp only [SM.bind, SM.ret, SM.lift, SM.lifx, SM.map, SM.andB, SM.orB, SM.callO, SM.borrow, SM.bor, SM.fail, SM.chain, SM.ite, PutI.ow, RFld.get, noX, bindX, Out.bind, OMem.get, OMem.set, OSub.map, OSel.get, OSel.rest, OSel.join, runO, runZ, runJ, id, if_true, if_false, Bool.false_eq_true, Bool.not_true, Bool.not_false]
  simp only [SM.bind, SM.ret, SM.lift, SM.lifx, SM.map, SM.andB, SM.orB, SM.callO, SM.borrow, SM.bor, SM.fail, SM.chain, SM.ite, PutI.ow, RFld.get, noX, bindX, Out.bind, OMem.get, OMem.set, OSub.map, OSel.get, OSel.rest, OSel.join, runO, runZ, runJ, id, if_true, if_false, Bool.false_eq_true, Bool.not_true, Bool.not_false, if_pos hl]
  generalize hE : mapS _ _ _ _ = E
  have hx : E = some (.ok (s.map fun c => decide (c ∈ y)), ()) := by
    rw [← hE]
    exact mapS_map s (fun _ _ => rfl) (fun _ _ => rfl)
  subst hx
  simp only [SM.bind, SM.ret, SM.lift, SM.lifx, SM.map, SM.andB, SM.orB, SM.callO, SM.borrow, SM.bor, SM.fail, SM.chain, SM.ite, PutI.ow, RFld.get, noX, bindX, Out.bind, OMem.get, OMem.set, OSub.map, OSel.get, OSel.rest, OSel.join, runO, runZ, runJ, id, if_true, if_false, Bool.false_eq_true, Bool.not_true, Bool.not_false, List.all_map]
  rfl
theorem m_in_order {s : List Nat} (hs : ∀ c ∈ s, c ∈ CH) : r_in_order K (s, ()) = some (.ok (known s)) := by
  unfold r_in_order d_in_order
  have hlen : (known s).length ≤ 16777216 := Nat.le_trans (List.length_filter_le _ _) (by decide)
  have hl : CH.length ≤ sizeLine := small_len (by decide)
  simp only [SM.bind, SM.ret, SM.lift, SM.lifx, SM.map, SM.andB, SM.orB, SM.callO, SM.borrow, SM.bor, SM.fail, SM.chain, SM.ite, PutI.ow, RFld.get, noX, bindX, Out.bind, OMem.get, OMem.set, OSub.map, OSel.get, OSel.rest, OSel.join, runO, runZ, runJ, id, if_true, if_false, Bool.false_eq_true, Bool.not_true, Bool.not_false]
  rw [forS_unit s fun c hc => by simp only [SM.bind, SM.ret, SM.lift, SM.lifx, SM.map, SM.andB, SM.orB, SM.callO, SM.borrow, SM.bor, SM.fail, SM.chain, SM.ite, PutI.ow, RFld.get, noX, bindX, Out.bind, OMem.get, OMem.set, OSub.map, OSel.get, OSel.rest, OSel.join, runO, runZ, runJ, id, if_true, if_false, Bool.false_eq_true, Bool.not_true, Bool.not_false, m_is_character_c K (c := c), decide_eq_true (hs c hc)]]
  unfold CH at hl
  simp only [SM.bind, SM.ret, SM.lift, SM.lifx, SM.map, SM.andB, SM.orB, SM.callO, SM.borrow, SM.bor, SM.fail, SM.chain, SM.ite, PutI.ow, RFld.get, noX, bindX, Out.bind, OMem.get, OMem.set, OSub.map, OSel.get, OSel.rest, OSel.join, runO, runZ, runJ, id, if_true, if_false, Bool.false_eq_true, Bool.not_true, Bool.not_false, if_pos hl]
  generalize hE : mapS _ _ _ _ = E
  have hx : E = some (.ok (known s), ()) := by
    rw [← hE]
    exact mapS_id CH (fun _ _ => rfl) (fun _ _ _ => rfl)
  subst hx
  simp only [SM.bind, SM.ret, SM.lift, SM.lifx, SM.map, SM.andB, SM.orB, SM.callO, SM.borrow, SM.bor, SM.fail, SM.chain, SM.ite, PutI.ow, RFld.get, noX, bindX, Out.bind, OMem.get, OMem.set, OSub.map, OSel.get, OSel.rest, OSel.join, runO, runZ, runJ, id, if_true, if_false, Bool.false_eq_true, Bool.not_true, Bool.not_false, if_pos hlen]
end K

namespace K
open PySem PySem.Spec PyProof.Rows L2 Mi Pb
variable (K : PySem.W.Frag)
theorem flat_sing (ks : List Nat) : (ks.map fun c => [c]).flatten = ks := by
  induction ks with
  | nil => rfl
  | cons a r ih => rw [List.map_cons, List.flatten_cons, ih]; rfl
theorem keys_len {A : Type} {x : List (List Nat × A)} {ks : List Nat} (hk : x.map (·.1) = ks.map fun c => [c]) : x.length = ks.length := by
  have := congrArg List.length hk
  rwa [List.length_map, List.length_map] at this
theorem m_require_classes {x : List (List Nat × Int)} {ks : List Nat} {C : Nat → Int} (hk : x.map (·.1) = ks.map fun c => [c]) (hv : ∀ c ∈ ks, dget [c] x = some (C c)) (hc : ∀ c ∈ ks, c ∈ CH) (h1 : 1 ≤ ks.length) (h30 : ks.length ≤ 30) (hC : ∀ c ∈ ks, 0 ≤ C c ∧ C c ≤ 9) :
    r_require_classes K (x, ()) = some (.ok ()) := by
  unfold r_require_classes d_require_classes
  have hl := keys_len hk
  have s1 : (ks.map fun c => [c]).length ≤ sizeLine := small_len (by rw [List.length_map]; omega)
  have s2 : ks.length ≤ 16777216 := by omega
  have d1 : decide ((1 : Int) ≤ (x.length : Int)) = true := decide_eq_true (by omega)
  have d2 : decide ((x.length : Int) ≤ 30) = true := decide_eq_true (by omega)
  simp only [SM.bind, SM.ret, SM.lift, SM.lifx, SM.map, SM.andB, SM.orB, SM.callO, SM.borrow, SM.bor, SM.fail, SM.chain, SM.ite, PutI.ow, RFld.get, noX, bindX, Out.bind, OMem.get, OMem.set, OSub.map, OSel.get, OSel.rest, OSel.join, runO, runZ, runJ, id, if_true, if_false, Bool.false_eq_true, Bool.not_true, Bool.not_false, hk, if_pos s1, d1, d2, flat_sing, if_pos s2, m_in_order K hc]
  generalize hE : mapS _ _ _ _ = E
  have hx : E = some (.ok ((ks.map fun c => [c]).map fun _ => true), ()) := by
    rw [← hE]
    refine mapS_map _ (fun _ _ => rfl) fun y hy => ?_
    obtain ⟨c, hcs, rfl⟩ := List.mem_map.mp hy
    simp only [SM.bind, SM.ret, SM.lift, SM.lifx, SM.map, SM.andB, SM.orB, SM.callO, SM.borrow, SM.bor, SM.fail, SM.chain, SM.ite, PutI.ow, RFld.get, noX, bindX, Out.bind, OMem.get, OMem.set, OSub.map, OSel.get, OSel.rest, OSel.join, runO, runZ, runJ, id, if_true, if_false, Bool.false_eq_true, Bool.not_true, Bool.not_false, m_is_character_s K (s := [c]) (by simp), inS_one, decide_eq_true (hc c hcs), List.length_singleton, decide_true, Bool.true_and]
  subst hx
  have d3 : (((ks.map fun c => [c]).map fun _ => true).all _root_.id) = true := by simp
  simp only [SM.bind, SM.ret, SM.lift, SM.lifx, SM.map, SM.andB, SM.orB, SM.callO, SM.borrow, SM.bor, SM.fail, SM.chain, SM.ite, PutI.ow, RFld.get, noX, bindX, Out.bind, OMem.get, OMem.set, OSub.map, OSel.get, OSel.rest, OSel.join, runO, runZ, runJ, id, if_true, if_false, Bool.false_eq_true, Bool.not_true, Bool.not_false, d3, d1, d2]
  rw [forS_unit _ fun c hcs => by
    have hcm := (mem_known hc).mp hcs
    have d4 : (decide (0 ≤ C c) && decide (C c ≤ 9)) = true := by simp [hC c hcm]
    simp only [SM.bind, SM.ret, SM.lift, SM.lifx, SM.map, SM.andB, SM.orB, SM.callO, SM.borrow, SM.bor, SM.fail, SM.chain, SM.ite, PutI.ow, RFld.get, noX, bindX, Out.bind, OMem.get, OMem.set, OSub.map, OSel.get, OSel.rest, OSel.join, runO, runZ, runJ, id, if_true, if_false, Bool.false_eq_true, Bool.not_true, Bool.not_false, hv c hcm, m_is_class K, d4]]
  rfl
theorem atI_lt {α : Type} {l : List α} {d : Int} (h0 : 0 ≤ d) (h1 : d < l.length) : ∃ (h : d.toNat < l.length), atI l d = some l[d.toNat] := by
  have h : d.toNat < l.length := by omega
  refine ⟨h, ?_⟩
  unfold atI ixN
  rw [if_pos h0, if_pos h1]
  exact List.getElem?_eq_getElem h
theorem atI_nat {α : Type} {l : List α} {n : Nat} (h : n < l.length) : atI l (n : Int) = some l[n] := by
  obtain ⟨_, e⟩ := atI_lt (l := l) (d := n) (by omega) (by omega)
  exact e
theorem atI0 {α : Type} {a : α} {r : List α} : atI (a :: r) 0 = some a := atI_nat (l := a :: r) (n := 0) (by simp)
/-- ranks of composites -/
def rkP (P : PF) (rk : Nat → Nat) (c : Nat) : Nat := match P c with
  | none => 0
  | some _ => rk c
theorem m_first_atom {x : List (List Nat × List Nat)} {P : PF} {rk : Nat → Nat} (R : Rk P rk) (hP : ∀ c, dget [c] x = P c) (h8 : ∀ c v, P c = some v → v.length ≤ 2) {c : Nat} : r_first_atom K (c, x, ()) = some (.ok (fst P c)) := by
  unfold r_first_atom d_first_atom
  simp only [SM.bind, SM.ret, SM.lift, SM.lifx, SM.map, SM.andB, SM.orB, SM.callO, SM.borrow, SM.bor, SM.fail, SM.chain, SM.ite, PutI.ow, RFld.get, noX, bindX, Out.bind, OMem.get, OMem.set, OSub.map, OSel.get, OSel.rest, OSel.join, runO, runZ, runJ, id, if_true, if_false, Bool.false_eq_true, Bool.not_true, Bool.not_false]
  generalize hE : whileS _ _ _ _ _ _ = E
  have hx : ∃ b' o', E = some (.nxt (b', o')) ∧ b'.1 = fst P c := by
    rw [← hE]
    have hrk : ∀ d, rkP P rk d < 30 := fun d => by
      unfold rkP
      cases e : P d with
      | none => exact (by decide : 0 < 30)
      | some v => exact R.le _ _ e
    refine whileS_inv (fun (b : Nat × Unit) o => fst P b.1 = fst P c) (fun b o => rkP P rk b.1) (fun b o => b.1 = fst P c) (fun b o hI => ?_) _ _ _ rfl (Nat.lt_trans (hrk c) (by decide))
    cases e : P b.1 with
    | none =>
      left
      refine ⟨o, ?_, ?_⟩
      · simp only [SM.bind, SM.ret, SM.lift, SM.lifx, SM.map, SM.andB, SM.orB, SM.callO, SM.borrow, SM.bor, SM.fail, SM.chain, SM.ite, PutI.ow, RFld.get, noX, bindX, Out.bind, OMem.get, OMem.set, OSub.map, OSel.get, OSel.rest, OSel.join, runO, runZ, runJ, id, if_true, if_false, Bool.false_eq_true, Bool.not_true, Bool.not_false, dhas, hP, e, Option.isSome]
      · rw [← hI, fst_none e]
    | some v =>
      right
      have hv := R.ne _ _ e
      have hv2 := h8 _ _ e
      cases v with
      | nil => exact absurd rfl hv
      | cons a r =>
        have s1 : (a :: r).length ≤ sizeLine := small_len (by omega)
        have hat : atI (a :: r) 0 = some a := atI0
        have hlt := R.lt _ _ e a (List.mem_cons_self ..)
        refine ⟨o, ?_, (a, ()), o, ?_, ?_, ?_⟩
        · simp only [SM.bind, SM.ret, SM.lift, SM.lifx, SM.map, SM.andB, SM.orB, SM.callO, SM.borrow, SM.bor, SM.fail, SM.chain, SM.ite, PutI.ow, RFld.get, noX, bindX, Out.bind, OMem.get, OMem.set, OSub.map, OSel.get, OSel.rest, OSel.join, runO, runZ, runJ, id, if_true, if_false, Bool.false_eq_true, Bool.not_true, Bool.not_false, dhas, hP, e, Option.isSome]
        · simp only [SM.bind, SM.ret, SM.lift, SM.lifx, SM.map, SM.andB, SM.orB, SM.callO, SM.borrow, SM.bor, SM.fail, SM.chain, SM.ite, PutI.ow, RFld.get, noX, bindX, Out.bind, OMem.get, OMem.set, OSub.map, OSel.get, OSel.rest, OSel.join, runO, runZ, runJ, id, if_true, if_false, Bool.false_eq_true, Bool.not_true, Bool.not_false, hP, e, if_pos s1, hat]
        · rw [← hI, R.fst_some e]; rfl
        · show rkP P rk a < rkP P rk b.1
          unfold rkP
          rw [e]
          cases P a with
          | none => exact R.pos e
          | some w => exact hlt
  obtain ⟨b', o', e, h⟩ := hx
  subst e
  simp only [SM.bind, SM.ret, SM.lift, SM.lifx, SM.map, SM.andB, SM.orB, SM.callO, SM.borrow, SM.bor, SM.fail, SM.chain, SM.ite, PutI.ow, RFld.get, noX, bindX, Out.bind, OMem.get, OMem.set, OSub.map, OSel.get, OSel.rest, OSel.join, runO, runZ, runJ, id, if_true, if_false, Bool.false_eq_true, Bool.not_true, Bool.not_false, h]
theorem count_le_sum {ks : List Nat} (hn : ks.Nodup) : ∀ l : List Nat, (∀ c ∈ l, c ∈ ks) → (∀ c, l.count c ≤ 2) → l.length ≤ 2 * ks.length := by
  induction ks with
  | nil =>
    intro l h _
    cases l with
    | nil => exact Nat.le_refl _
    | cons a r => exact absurd (h a (List.mem_cons_self ..)) (by simp)
  | cons a r ih =>
    intro l h h2
    have ih' := ih (List.nodup_cons.mp hn).2 (l.filter fun c => !decide (c = a)) (fun c hc => by
      rw [List.mem_filter] at hc
      rcases List.mem_cons.mp (h c hc.1) with e | e
      · simp [e] at hc
      · exact e) (fun c => Nat.le_trans (List.Sublist.count_le c List.filter_sublist) (h2 c))
    have e : l.length = l.count a + (l.filter fun c => !decide (c = a)).length := by
      rw [List.count_eq_countP, List.countP_eq_length_filter]
      have := List.length_eq_countP_add_countP (p := fun c => c == a) (l := l)
      rw [List.countP_eq_length_filter, List.countP_eq_length_filter] at this
      rw [this]
      congr 2
      apply List.filter_congr
      intro c _
      by_cases h : c = a <;> simp [h]
    have := h2 a
    rw [List.length_cons]
    omega
theorem m_reached {x : List (List Nat × List Nat)} {ks : List Nat} {C : Nat → Int} {P : PF} {rk : Nat → Nat} (V : Val ks C P rk) (hP : ∀ c, dget [c] x = P c) {c : Nat} {v : List Nat} (hv : P c = some v) :
    ∃ l, r_reached_from K (c, x, ()) = some (.ok l) ∧ ∀ d ∈ l, rk d < rk c := by
  unfold r_reached_from d_reached_from
  have s1 : v.length ≤ sizeLine := small_len (by have := V.two c v hv; omega)
  simp only [SM.bind, SM.ret, SM.lift, SM.lifx, SM.map, SM.andB, SM.orB, SM.callO, SM.borrow, SM.bor, SM.fail, SM.chain, SM.ite, PutI.ow, RFld.get, noX, bindX, Out.bind, OMem.get, OMem.set, OSub.map, OSel.get, OSel.rest, OSel.join, runO, runZ, runJ, id, if_true, if_false, Bool.false_eq_true, Bool.not_true, Bool.not_false, hP, hv, if_pos s1]
  generalize hE : whileS _ _ _ _ _ _ = E
  have hx : ∃ b' o', E = some (.nxt (b', o')) ∧ ∀ d ∈ o'.1, rk d < rk c := by
    rw [← hE]
    have hbound : ∀ l : List Nat, (∀ d ∈ l, d ∈ ks) → (∀ d, l.count d ≤ 2) → l.length ≤ 60 := fun l h1 h2 => by
      have := count_le_sum V.ndk l h1 h2
      have := V.n1
      omega
    refine whileS_inv (os := [(2, tOwn tChr)]) (fun (b : Int × Unit) (o : List Nat × Unit) => ∃ n : Nat, b.1 = n ∧ n ≤ o.1.length ∧ (∀ d ∈ o.1, d ∈ ks) ∧ (∀ d, o.1.count d ≤ 2) ∧ ∀ d ∈ o.1, rk d < rk c) (fun b o => 60 - b.1.toNat) (fun b (o : List Nat × Unit) => ∀ d ∈ o.1, rk d < rk c) (fun (b : Int × Unit) (o : List Nat × Unit) hI => ?_) _ _ _ ?_ ?_
    · obtain ⟨n, hb, hn, h1, h2, h3⟩ := hI
      have hlen := hbound o.1 h1 h2
      by_cases hlt : n < o.1.length
      · right
        have g1 : decide (b.1 < (o.1.length : Int)) = true := decide_eq_true (by omega)
        have hat : atI o.1 b.1 = some (o.1[n] : Nat) := by rw [hb]; exact atI_nat hlt
        have hmem : o.1[n] ∈ o.1 := List.getElem_mem hlt
        generalize o.1[n] = y at *
        have sw : ((P y).getD []).length ≤ 2 := by
          cases e : P y with
          | none => exact Nat.zero_le _
          | some w => exact V.two y w e
        have s2 : ((P y).getD []).length ≤ sizeLine := small_len (by omega)
        have hf : ∀ d ∈ ((P y).getD []).filter (fun d => !decide ([d] ∈ o.1.map fun c => [c])), d ∈ (P y).getD [] ∧ d ∉ o.1 := fun d hd => by
          rw [List.mem_filter] at hd
          exact ⟨hd.1, fun z => by simp [mem_sing.mpr z] at hd⟩
        have fl : (((P y).getD []).filter (fun d => !decide ([d] ∈ o.1.map fun c => [c]))).length ≤ 2 := Nat.le_trans (List.length_filter_le _ _) sw
        have s3 : o.1.length + (((P y).getD []).filter (fun d => !decide ([d] ∈ o.1.map fun c => [c]))).length ≤ sizeLine := by rw [sizeLine_eq]; omega
        have hpart : ∀ d ∈ (P y).getD [], d ∈ ks ∧ rk d < rk y := fun d hd => by
          cases e : P y with
          | none => rw [e] at hd; cases hd
          | some w => rw [e] at hd; exact ⟨V.mem y w e d hd, V.R.lt y w e d hd⟩
        refine ⟨o, ?_, (b.1 + 1, ()), (o.1 ++ ((P y).getD []).filter (fun d => !decide ([d] ∈ o.1.map fun c => [c])), o.2), ?_, ⟨n + 1, ?_, ?_, ?_, ?_, ?_⟩, ?_⟩
        · simp only [SM.bind, SM.ret, SM.lift, SM.lifx, SM.map, SM.andB, SM.orB, SM.callO, SM.borrow, SM.bor, SM.fail, SM.chain, SM.ite, PutI.ow, RFld.get, noX, bindX, Out.bind, OMem.get, OMem.set, OSub.map, OSel.get, OSel.rest, OSel.join, runO, runZ, runJ, id, if_true, if_false, Bool.false_eq_true, Bool.not_true, Bool.not_false, g1]
        · simp only [SM.bind, SM.ret, SM.lift, SM.lifx, SM.map, SM.andB, SM.orB, SM.callO, SM.borrow, SM.bor, SM.fail, SM.chain, SM.ite, PutI.ow, RFld.get, noX, bindX, Out.bind, OMem.get, OMem.set, OSub.map, OSel.get, OSel.rest, OSel.join, runO, runZ, runJ, id, if_true, if_false, Bool.false_eq_true, Bool.not_true, Bool.not_false, hat, hP, if_pos s2]
          generalize hE2 : mapS _ _ _ _ = E2
          have hx2 : E2 = some (.ok (((P y).getD []).filter (fun d => !decide ([d] ∈ o.1.map fun c => [c]))), o) := by
            rw [← hE2]
            exact mapS_id _ (fun _ _ => by simp only [SM.bind, SM.ret, SM.lift, SM.lifx, SM.map, SM.andB, SM.orB, SM.callO, SM.borrow, SM.bor, SM.fail, SM.chain, SM.ite, PutI.ow, RFld.get, noX, bindX, Out.bind, OMem.get, OMem.set, OSub.map, OSel.get, OSel.rest, OSel.join, runO, runZ, runJ, id, if_true, if_false, Bool.false_eq_true, Bool.not_true, Bool.not_false]) (fun _ _ _ => rfl)
          subst hx2
          have hx3 : extO o.1 (((P y).getD []).filter (fun d => !decide ([d] ∈ o.1.map fun c => [c]))) = some ((), o.1 ++ ((P y).getD []).filter (fun d => !decide ([d] ∈ o.1.map fun c => [c]))) := if_pos s3
          simp only [SM.bind, SM.ret, SM.lift, SM.lifx, SM.map, SM.andB, SM.orB, SM.callO, SM.borrow, SM.bor, SM.fail, SM.chain, SM.ite, PutI.ow, RFld.get, noX, bindX, Out.bind, OMem.get, OMem.set, OSub.map, OSel.get, OSel.rest, OSel.join, runO, runZ, runJ, id, if_true, if_false, Bool.false_eq_true, Bool.not_true, Bool.not_false, SM.methO]
          rw [hx3]
        · show b.1 + 1 = ((n + 1 : Nat) : Int); omega
        · show n + 1 ≤ (o.1 ++ _).length; rw [List.length_append]; omega
        · intro d hd
          rcases List.mem_append.mp hd with z | z
          · exact h1 d z
          · exact (hpart d (hf d z).1).1
        · intro d
          rw [List.count_append]
          by_cases hd : d ∈ o.1
          · have : (((P y).getD []).filter (fun d => !decide ([d] ∈ o.1.map fun c => [c]))).count d = 0 := List.count_eq_zero.mpr fun z => (hf d z).2 hd
            have := h2 d
            omega
          · have e0 : o.1.count d = 0 := List.count_eq_zero.mpr hd
            have := List.count_le_length (a := d) (l := ((P y).getD []).filter (fun d => !decide ([d] ∈ o.1.map fun c => [c])))
            omega
        · intro d hd
          rcases List.mem_append.mp hd with z | z
          · exact h3 d z
          · exact Nat.lt_trans (hpart d (hf d z).1).2 (h3 y hmem)
        · show 60 - (b.1 + 1).toNat < 60 - b.1.toNat
          omega
      · left
        have g1 : decide (b.1 < (o.1.length : Int)) = false := decide_eq_false (by omega)
        exact ⟨o, by simp only [SM.bind, SM.ret, SM.lift, SM.lifx, SM.map, SM.andB, SM.orB, SM.callO, SM.borrow, SM.bor, SM.fail, SM.chain, SM.ite, PutI.ow, RFld.get, noX, bindX, Out.bind, OMem.get, OMem.set, OSub.map, OSel.get, OSel.rest, OSel.join, runO, runZ, runJ, id, if_true, if_false, Bool.false_eq_true, Bool.not_true, Bool.not_false, g1], h3⟩
    · refine ⟨0, rfl, Nat.zero_le _, V.mem c v hv, fun d => Nat.le_trans List.count_le_length (V.two c v hv), V.R.lt c v hv⟩
    · show 60 - _ < 1000000000
      omega
  obtain ⟨b', o', e, h⟩ := hx
  subst e
  simp only [SM.bind, SM.ret, SM.lift, SM.lifx, SM.map, SM.andB, SM.orB, SM.callO, SM.borrow, SM.bor, SM.fail, SM.chain, SM.ite, PutI.ow, RFld.get, noX, bindX, Out.bind, OMem.get, OMem.set, OSub.map, OSel.get, OSel.rest, OSel.join, runO, runZ, runJ, id, if_true, if_false, Bool.false_eq_true, Bool.not_true, Bool.not_false]
  exact ⟨_, rfl, h⟩
end K

namespace K
open PySem PySem.Spec PyProof.Rows L2 Mi Pb
variable (K : PySem.W.Frag)
/-- composites in order -/
def comps (P : PF) (s : List Nat) : List Nat := s.filter fun c => (P c).isSome
theorem mem_comps {P : PF} {s : List Nat} {c : Nat} : c ∈ comps P s ↔ c ∈ s ∧ ∃ v, P c = some v := by
  unfold comps
  rw [List.mem_filter]
  exact and_congr_right fun _ => Option.isSome_iff_exists
theorem m_require_decompositions {x : List (List Nat × List Nat)} {ks ps : List Nat} {C : Nat → Int} {P : PF} {rk : Nat → Nat} (V : Val ks C P rk) (hk : x.map (·.1) = ps.map fun c => [c]) (hps : ∀ c ∈ ps, c ∈ ks) (hpl : ps.length ≤ 30) (hP : ∀ c, dget [c] x = P c) :
    r_require_decompositions K (x, known ks, ()) = some (.ok ()) := by
  unfold r_require_decompositions d_require_decompositions
  have hkl := known_len V.ch V.ndk
  have hks := V.n1
  have s1 : (ps.map fun c => [c]).length ≤ sizeLine := small_len (by rw [List.length_map]; omega)
  have s2 : (known ks).length ≤ sizeLine := small_len (by omega)
  simp only [SM.bind, SM.ret, SM.lift, SM.lifx, SM.map, SM.andB, SM.orB, SM.callO, SM.borrow, SM.bor, SM.fail, SM.chain, SM.ite, PutI.ow, RFld.get, noX, bindX, Out.bind, OMem.get, OMem.set, OSub.map, OSel.get, OSel.rest, OSel.join, runO, runZ, runJ, id, if_true, if_false, Bool.false_eq_true, Bool.not_true, Bool.not_false, hk, if_pos s1, if_pos s2]
  generalize hE : mapS _ _ _ _ = E
  have hx : E = some (.ok ((ps.map fun c => [c]).map fun _ => true), ()) := by
    rw [← hE]
    refine mapS_map _ (fun _ _ => rfl) fun y hy => ?_
    obtain ⟨c, hcs, rfl⟩ := List.mem_map.mp hy
    have hm : [c] ∈ (known ks).map fun c => [c] := mem_sing.mpr ((mem_known V.ch).mpr (hps c hcs))
    simp only [SM.bind, SM.ret, SM.lift, SM.lifx, SM.map, SM.andB, SM.orB, SM.callO, SM.borrow, SM.bor, SM.fail, SM.chain, SM.ite, PutI.ow, RFld.get, noX, bindX, Out.bind, OMem.get, OMem.set, OSub.map, OSel.get, OSel.rest, OSel.join, runO, runZ, runJ, id, if_true, if_false, Bool.false_eq_true, Bool.not_true, Bool.not_false, if_pos s2, decide_eq_true hm]
  subst hx
  have d3 : (((ps.map fun c => [c]).map fun _ => true).all _root_.id) = true := by simp
  simp only [SM.bind, SM.ret, SM.lift, SM.lifx, SM.map, SM.andB, SM.orB, SM.callO, SM.borrow, SM.bor, SM.fail, SM.chain, SM.ite, PutI.ow, RFld.get, noX, bindX, Out.bind, OMem.get, OMem.set, OSub.map, OSel.get, OSel.rest, OSel.join, runO, runZ, runJ, id, if_true, if_false, Bool.false_eq_true, Bool.not_true, Bool.not_false, d3]
  generalize hE2 : mapS _ _ _ _ = E2
  have hx2 : E2 = some (.ok (comps P (known ks)), ()) := by
    rw [← hE2]
    exact mapS_id _ (fun c _ => by simp only [SM.bind, SM.ret, SM.lift, SM.lifx, SM.map, SM.andB, SM.orB, SM.callO, SM.borrow, SM.bor, SM.fail, SM.chain, SM.ite, PutI.ow, RFld.get, noX, bindX, Out.bind, OMem.get, OMem.set, OSub.map, OSel.get, OSel.rest, OSel.join, runO, runZ, runJ, id, if_true, if_false, Bool.false_eq_true, Bool.not_true, Bool.not_false, dhas, hP]) (fun _ _ _ => rfl)
  subst hx2
  simp only [SM.bind, SM.ret, SM.lift, SM.lifx, SM.map, SM.andB, SM.orB, SM.callO, SM.borrow, SM.bor, SM.fail, SM.chain, SM.ite, PutI.ow, RFld.get, noX, bindX, Out.bind, OMem.get, OMem.set, OSub.map, OSel.get, OSel.rest, OSel.join, runO, runZ, runJ, id, if_true, if_false, Bool.false_eq_true, Bool.not_true, Bool.not_false]
  rw [forS_unit _ fun c hc => by
    obtain ⟨hck, v, hv⟩ := mem_comps.mp hc
    have h2 := V.two c v hv
    have h0 := V.ne hv
    have h1 : 1 ≤ v.length := List.length_pos_iff.mpr h0
    have s3 : v.length ≤ sizeLine := small_len (by omega)
    have t1 : (v.all fun c => decide (c ∈ known ks)) = true := List.all_eq_true.mpr fun a ha => decide_eq_true ((mem_known V.ch).mpr (V.mem c v hv a ha))
    have t2 : decide ((1 : Int) ≤ (v.length : Int)) = true := decide_eq_true (by omega)
    have t3 : decide ((v.length : Int) ≤ 2) = true := decide_eq_true (by omega)
    simp only [SM.bind, SM.ret, SM.lift, SM.lifx, SM.map, SM.andB, SM.orB, SM.callO, SM.borrow, SM.bor, SM.fail, SM.chain, SM.ite, PutI.ow, RFld.get, noX, bindX, Out.bind, OMem.get, OMem.set, OSub.map, OSel.get, OSel.rest, OSel.join, runO, runZ, runJ, id, if_true, if_false, Bool.false_eq_true, Bool.not_true, Bool.not_false, hP, hv, m_is_text K (s := v) (y := known ks) (by omega), t1]
    simp only [SM.bind, SM.ret, SM.lift, SM.lifx, SM.map, SM.andB, SM.orB, SM.callO, SM.borrow, SM.bor, SM.fail, SM.chain, SM.ite, PutI.ow, RFld.get, noX, bindX, Out.bind, OMem.get, OMem.set, OSub.map, OSel.get, OSel.rest, OSel.join, runO, runZ, runJ, id, if_true, if_false, Bool.false_eq_true, Bool.not_true, Bool.not_false, if_pos s3, t2, t3]]
  simp only [SM.bind, SM.ret, SM.lift, SM.lifx, SM.map, SM.andB, SM.orB, SM.callO, SM.borrow, SM.bor, SM.fail, SM.chain, SM.ite, PutI.ow, RFld.get, noX, bindX, Out.bind, OMem.get, OMem.set, OSub.map, OSel.get, OSel.rest, OSel.join, runO, runZ, runJ, id, if_true, if_false, Bool.false_eq_true, Bool.not_true, Bool.not_false]
  rw [forS_unit _ fun c hc => by
    obtain ⟨hck, v, hv⟩ := mem_comps.mp hc
    obtain ⟨l, e, hl⟩ := m_reached K V hP hv
    have t1 : decide ([c] ∈ l.map fun c => [c]) = false := decide_eq_false fun z => Nat.lt_irrefl _ (hl c (mem_sing.mp z))
    simp only [SM.bind, SM.ret, SM.lift, SM.lifx, SM.map, SM.andB, SM.orB, SM.callO, SM.borrow, SM.bor, SM.fail, SM.chain, SM.ite, PutI.ow, RFld.get, noX, bindX, Out.bind, OMem.get, OMem.set, OSub.map, OSel.get, OSel.rest, OSel.join, runO, runZ, runJ, id, if_true, if_false, Bool.false_eq_true, Bool.not_true, Bool.not_false, e, t1]]
  rfl
theorem m_require_exclusions {s l : List Nat} (h : ∀ c ∈ s, c ∈ l) : r_require_exclusions K (s, l, ()) = some (.ok ()) := by
  unfold r_require_exclusions d_require_exclusions
  simp only [SM.bind, SM.ret, SM.lift, SM.lifx, SM.map, SM.andB, SM.orB, SM.callO, SM.borrow, SM.bor, SM.fail, SM.chain, SM.ite, PutI.ow, RFld.get, noX, bindX, Out.bind, OMem.get, OMem.set, OSub.map, OSel.get, OSel.rest, OSel.join, runO, runZ, runJ, id, if_true, if_false, Bool.false_eq_true, Bool.not_true, Bool.not_false]
  rw [forS_unit _ fun c hc => by
    have t1 : decide ([c] ∈ l.map fun c => [c]) = true := decide_eq_true (mem_sing.mpr (h c hc))
    simp only [SM.bind, SM.ret, SM.lift, SM.lifx, SM.map, SM.andB, SM.orB, SM.callO, SM.borrow, SM.bor, SM.fail, SM.chain, SM.ite, PutI.ow, RFld.get, noX, bindX, Out.bind, OMem.get, OMem.set, OSub.map, OSel.get, OSel.rest, OSel.join, runO, runZ, runJ, id, if_true, if_false, Bool.false_eq_true, Bool.not_true, Bool.not_false, t1]]
  rfl
theorem m_require_unique {x : List (List Nat × List Nat)} {l : List Nat} {P : PF} (hP : ∀ c, dget [c] x = P c) (hl : l.length ≤ 62) (hd : ∀ c ∈ l, ∃ v, P c = some v ∧ v.length ≤ 2) (hn : l.Nodup) (hu : ∀ c ∈ l, ∀ d ∈ l, ∀ v, P c = some v → P d = some v → v.length = 2 → c = d) :
    r_require_unique K (x, l, ()) = some (.ok ()) := by
  unfold r_require_unique d_require_unique
  have s1 : l.length ≤ sizeLine := small_len (by omega)
  simp only [SM.bind, SM.ret, SM.lift, SM.lifx, SM.map, SM.andB, SM.orB, SM.callO, SM.borrow, SM.bor, SM.fail, SM.chain, SM.ite, PutI.ow, RFld.get, noX, bindX, Out.bind, OMem.get, OMem.set, OSub.map, OSel.get, OSel.rest, OSel.join, runO, runZ, runJ, id, if_true, if_false, Bool.false_eq_true, Bool.not_true, Bool.not_false, if_pos s1]
  generalize hE : mapS _ _ _ _ = E
  have hx : E = some (.ok (l.filter fun c => decide (((P c).getD []).length = 2)), ()) := by
    rw [← hE]
    refine mapS_id _ (fun c hc => ?_) (fun _ _ _ => rfl)
    obtain ⟨v, hv, hv2⟩ := hd c hc
    have s2 : v.length ≤ sizeLine := small_len (by omega)
    have e : decide ((v.length : Int) = 2) = decide (v.length = 2) := by
      by_cases h : v.length = 2
      · rw [decide_eq_true h]; exact decide_eq_true (by omega)
      · rw [decide_eq_false h]; exact decide_eq_false (by omega)
    simp only [SM.bind, SM.ret, SM.lift, SM.lifx, SM.map, SM.andB, SM.orB, SM.callO, SM.borrow, SM.bor, SM.fail, SM.chain, SM.ite, PutI.ow, RFld.get, noX, bindX, Out.bind, OMem.get, OMem.set, OSub.map, OSel.get, OSel.rest, OSel.join, runO, runZ, runJ, id, if_true, if_false, Bool.false_eq_true, Bool.not_true, Bool.not_false, hP, hv, if_pos s2, e, Option.getD]
  subst hx
  simp only [SM.bind, SM.ret, SM.lift, SM.lifx, SM.map, SM.andB, SM.orB, SM.callO, SM.borrow, SM.bor, SM.fail, SM.chain, SM.ite, PutI.ow, RFld.get, noX, bindX, Out.bind, OMem.get, OMem.set, OSub.map, OSel.get, OSel.rest, OSel.join, runO, runZ, runJ, id, if_true, if_false, Bool.false_eq_true, Bool.not_true, Bool.not_false]
  generalize hq : (l.filter fun c => decide (((P c).getD []).length = 2)) = q
  have hqm : ∀ c ∈ q, c ∈ l ∧ ∃ v, P c = some v ∧ v.length = 2 := fun c hc => by
    rw [← hq, List.mem_filter] at hc
    obtain ⟨v, hv, _⟩ := hd c hc.1
    refine ⟨hc.1, v, hv, ?_⟩
    have := of_decide_eq_true hc.2
    rw [hv] at this
    exact this
  have hqn : q.Nodup := by rw [← hq]; exact hn.filter _
  rw [forS_unit _ fun p hp => by
    have hpe : ∃ i : Nat, ∃ h : i < q.length, p = ((i : Int), (q[i], ())) := by
      unfold enumL at hp
      obtain ⟨⟨c, i⟩, hz, rfl⟩ := List.mem_map.mp hp
      obtain ⟨j, hj, e⟩ := List.mem_iff_getElem.mp hz
      rw [List.getElem_zipIdx] at e
      cases e
      simp at hj ⊢
      exact ⟨j, rfl, hj, rfl⟩
    obtain ⟨i, hi, rfl⟩ := hpe
    have hin : ∀ d ∈ cut q (some ((i : Int) + 1)) none, ∃ j, i < j ∧ ∃ h : j < q.length, d = q[j] := fun d hd => by
      have e : cut q (some ((i : Int) + 1)) none = q.drop (i + 1) := by
        unfold cut
        have e1 : (some ((i : Int) + 1) : Option Int) = some ((i + 1 : Nat) : Int) := by congr 1
        rw [e1, HT.sIx_nat, HT.sIx_none, Nat.min_eq_left (by omega)]
        exact List.take_of_length_le (by rw [List.length_drop]; omega)
      rw [e] at hd
      obtain ⟨j, hj, e2⟩ := List.mem_iff_getElem.mp hd
      rw [List.getElem_drop] at e2
      rw [List.length_drop] at hj
      exact ⟨i + 1 + j, by omega, by omega, e2.symm⟩
    simp only [SM.bind, SM.ret, SM.lift, SM.lifx, SM.map, SM.andB, SM.orB, SM.callO, SM.borrow, SM.bor, SM.fail, SM.chain, SM.ite, PutI.ow, RFld.get, noX, bindX, Out.bind, OMem.get, OMem.set, OSub.map, OSel.get, OSel.rest, OSel.join, runO, runZ, runJ, id, if_true, if_false, Bool.false_eq_true, Bool.not_true, Bool.not_false]
    rw [forS_unit _ fun d hd => by
      obtain ⟨j, hij, hj, rfl⟩ := hin d hd
      obtain ⟨c1, v, hv, hv2⟩ := hqm q[i] (List.getElem_mem hi)
      obtain ⟨d1, w, hw, hw2⟩ := hqm q[j] (List.getElem_mem hj)
      have hne : ¬ v = w := fun z => by
        subst z
        have := hu _ c1 _ d1 v hv hw hv2
        exact absurd ((List.getElem_inj hqn).mp this) (by omega)
      simp only [SM.bind, SM.ret, SM.lift, SM.lifx, SM.map, SM.andB, SM.orB, SM.callO, SM.borrow, SM.bor, SM.fail, SM.chain, SM.ite, PutI.ow, RFld.get, noX, bindX, Out.bind, OMem.get, OMem.set, OSub.map, OSel.get, OSel.rest, OSel.join, runO, runZ, runJ, id, if_true, if_false, Bool.false_eq_true, Bool.not_true, Bool.not_false, hP, hv, hw, decide_eq_false hne]]]
  rfl
theorem m_rd_expanded {x : List (List Nat × List Nat)} {ks : List Nat} {C : Nat → Int} {P : PF} {rk : Nat → Nat} (V : Val ks C P rk) (hP : ∀ c, dget [c] x = P c) : ∀ (n : Nat) (c : Nat), rkP P rk c < n → rd_expanded K n (c, x, ()) = some (.ok (ex P c))
  | 0, c, h => absurd h (Nat.not_lt_zero _)
  | n + 1, c, h => by
    show runZ none ((d_expanded K (rd_expanded K n)).1 (c, x, ()) ()) = _
    unfold d_expanded
    cases e : P c with
    | none =>
      simp only [SM.bind, SM.ret, SM.lift, SM.lifx, SM.map, SM.andB, SM.orB, SM.callO, SM.borrow, SM.bor, SM.fail, SM.chain, SM.ite, PutI.ow, RFld.get, noX, bindX, Out.bind, OMem.get, OMem.set, OSub.map, OSel.get, OSel.rest, OSel.join, runO, runZ, runJ, id, if_true, if_false, Bool.false_eq_true, Bool.not_true, Bool.not_false, dhas, hP, e, Option.isSome]
      rw [ex_none e]
    | some v =>
      have h2 := V.two c v e
      have s1 : v.length ≤ sizeLine := small_len (by omega)
      simp only [SM.bind, SM.ret, SM.lift, SM.lifx, SM.map, SM.andB, SM.orB, SM.callO, SM.borrow, SM.bor, SM.fail, SM.chain, SM.ite, PutI.ow, RFld.get, noX, bindX, Out.bind, OMem.get, OMem.set, OSub.map, OSel.get, OSel.rest, OSel.join, runO, runZ, runJ, id, if_true, if_false, Bool.false_eq_true, Bool.not_true, Bool.not_false, dhas, hP, e, Option.isSome, if_pos s1]
      generalize hE : mapS _ _ _ _ = E
      have hx : E = some (.ok (v.map (ex P)), ()) := by
        rw [← hE]
        refine mapS_map _ (fun _ _ => rfl) fun a ha => ?_
        have ih := m_rd_expanded V hP n a (by
          have hlt := V.R.lt c v e a ha
          unfold rkP at h ⊢
          rw [e] at h
          cases P a with
          | none =>
            show 0 < n
            have := V.R.pos e
            have h' : rk c < n + 1 := h
            omega
          | some w =>
            show rk a < n
            have h' : rk c < n + 1 := h
            omega)
        simp only [SM.bind, SM.ret, SM.lift, SM.lifx, SM.map, SM.andB, SM.orB, SM.callO, SM.borrow, SM.bor, SM.fail, SM.chain, SM.ite, PutI.ow, RFld.get, noX, bindX, Out.bind, OMem.get, OMem.set, OSub.map, OSel.get, OSel.rest, OSel.join, runO, runZ, runJ, id, if_true, if_false, Bool.false_eq_true, Bool.not_true, Bool.not_false, ih]
      subst hx
      have hf : (v.map (ex P)).flatten = ex P c := by rw [V.R.ex_some e, List.flatMap_def]
      have s2 : (ex P c).length ≤ 16777216 := by have := V.len c; omega
      simp only [SM.bind, SM.ret, SM.lift, SM.lifx, SM.map, SM.andB, SM.orB, SM.callO, SM.borrow, SM.bor, SM.fail, SM.chain, SM.ite, PutI.ow, RFld.get, noX, bindX, Out.bind, OMem.get, OMem.set, OSub.map, OSel.get, OSel.rest, OSel.join, runO, runZ, runJ, id, if_true, if_false, Bool.false_eq_true, Bool.not_true, Bool.not_false, hf, if_pos s2]
theorem m_expanded {x : List (List Nat × List Nat)} {ks : List Nat} {C : Nat → Int} {P : PF} {rk : Nat → Nat} (V : Val ks C P rk) (hP : ∀ c, dget [c] x = P c) (c : Nat) : r_expanded K (c, x, ()) = some (.ok (ex P c)) :=
  m_rd_expanded K V hP 32 c (by
    unfold rkP
    cases e : P c with
    | none => exact (by decide : 0 < 32)
    | some v => have := V.R.le c v e; show rk c < 32; omega)
end K

namespace K
open PySem PySem.Spec PyProof.Rows L2 Mi Pb
variable (K : PySem.W.Frag)
theorem mk1_snoc {A : Type} {qs : List Nat} {f : Nat → A} {c : Nat} (h : c ∉ qs) : dput [c] (f c) (mk1 qs f) = mk1 (qs ++ [c]) f := by
  rw [dput_new (by rw [mk1_keys]; exact fun z => h (mem_sing.mp z))]
  unfold mk1
  rw [List.map_append]
  rfl
theorem mk1_len {A : Type} {qs : List Nat} {f : Nat → A} : (mk1 qs f).length = qs.length := by unfold mk1; rw [List.length_map]
def lenE (P : PF) (c : Nat) : Int := ((ex P c).length : Int)
theorem sum_len {P : PF} (v : List Nat) : (v.map (lenE P)).sum = ((v.flatMap (ex P)).length : Int) := by
  induction v with
  | nil => rfl
  | cons a r ih =>
    rw [List.map_cons, List.sum_cons, ih, List.flatMap_cons, List.length_append]
    unfold lenE
    omega
theorem ready {ks : List Nat} {C : Nat → Int} {P : PF} {rk : Nat → Nat} (V : Val ks C P rk) {qs : List Nat} : ∀ (n : Nat) (c : Nat), rk c ≤ n → c ∈ ks → c ∉ qs → ∃ d ∈ ks, d ∉ qs ∧ ∀ v, P d = some v → ∀ a ∈ v, a ∈ qs := by
  intro n
  induction n with
  | zero =>
    intro c h h1 h2
    refine ⟨c, h1, h2, fun v e => ?_⟩
    have := V.R.pos e
    omega
  | succ n ih =>
    intro c h h1 h2
    cases e : P c with
    | none => exact ⟨c, h1, h2, fun v z => by rw [e] at z; cases z⟩
    | some v =>
      by_cases hv : ∀ a ∈ v, a ∈ qs
      · exact ⟨c, h1, h2, fun w z => by rw [e] at z; cases z; exact hv⟩
      · simp only [Classical.not_forall] at hv
        obtain ⟨a, ha, hq⟩ := hv
        exact ih a (by have := V.R.lt c v e a ha; omega) (V.mem c v e a ha) hq
theorem full {qs l : List Nat} (hn : qs.Nodup) (hq : ∀ c ∈ qs, c ∈ l) (hl : l.Nodup) (h : l.length ≤ qs.length) : ∀ c ∈ l, c ∈ qs := by
  intro c hc
  apply Classical.byContradiction
  intro hcq
  have h1 : (c :: qs).Nodup := List.nodup_cons.mpr ⟨hcq, hn⟩
  have h2 := nodup_len h1 (m := l) fun d hd => by
    rcases List.mem_cons.mp hd with e | e
    · rw [e]; exact hc
    · exact hq d e
  rw [List.length_cons] at h2
  omega
theorem m_atom_counts {x : List (List Nat × List Nat)} {ks : List Nat} {C : Nat → Int} {P : PF} {rk : Nat → Nat} (V : Val ks C P rk) (hP : ∀ c, dget [c] x = P c) :
    ∃ f, r_atom_counts K (x, known ks, ()) = some (.ok f) ∧ ∀ c ∈ ks, dget [c] f = some (lenE P c) := by
  unfold r_atom_counts d_atom_counts
  have hkl := known_len V.ch V.ndk
  have hks := V.n1
  have s2 : (known ks).length ≤ sizeLine := small_len (by omega)
  simp only [SM.bind, SM.ret, SM.lift, SM.lifx, SM.map, SM.andB, SM.orB, SM.callO, SM.borrow, SM.bor, SM.fail, SM.chain, SM.ite, PutI.ow, RFld.get, noX, bindX, Out.bind, OMem.get, OMem.set, OSub.map, OSel.get, OSel.rest, OSel.join, runO, runZ, runJ, id, if_true, if_false, Bool.false_eq_true, Bool.not_true, Bool.not_false, if_pos s2]
  generalize hE : dcS _ _ _ _ _ _ = E
  have hx : E = some (.ok (mk1 ((known ks).filter fun c => !(P c).isSome) (lenE P)), ()) := by
    rw [← hE]
    have z := dcS_sing (O := Unit) (C := Int) (mt := fun v145 => SM.bind (SM.bind (SM.ret v145) fun x => SM.ret [x]) fun x_1 => SM.bind (SM.ret x) fun y => SM.lift (some !dhas x_1 y)) (mk := fun v145 => SM.bind (SM.ret v145) fun x => SM.ret [x]) (me := fun v145 => SM.ret (1 : Int)) (p := fun c => !(P c).isSome) (f := fun _ => (1 : Int)) (o := ()) (known ks) (fun c _ => by simp only [SM.bind, SM.ret, SM.lift, SM.lifx, SM.map, SM.andB, SM.orB, SM.callO, SM.borrow, SM.bor, SM.fail, SM.chain, SM.ite, PutI.ow, RFld.get, noX, bindX, Out.bind, OMem.get, OMem.set, OSub.map, OSel.get, OSel.rest, OSel.join, runO, runZ, runJ, id, if_true, if_false, Bool.false_eq_true, Bool.not_true, Bool.not_false, dhas, hP]) (fun _ _ _ => rfl) (fun _ _ _ => rfl) known_nodup
    refine z.trans ?_
    congr 3
    unfold mk1
    refine List.map_congr_left fun c hc => ?_
    have h1 := (List.mem_filter.mp hc).2
    cases e : P c with
    | none => simp [lenE, ex_none e]
    | some v => rw [e] at h1; simp at h1
  subst hx
  simp only [SM.bind, SM.ret, SM.lift, SM.lifx, SM.map, SM.andB, SM.orB, SM.callO, SM.borrow, SM.bor, SM.fail, SM.chain, SM.ite, PutI.ow, RFld.get, noX, bindX, Out.bind, OMem.get, OMem.set, OSub.map, OSel.get, OSel.rest, OSel.join, runO, runZ, runJ, id, if_true, if_false, Bool.false_eq_true, Bool.not_true, Bool.not_false]
  generalize hE2 : whileS _ _ _ _ _ _ = E2
  have hx2 : ∃ b' o', E2 = some (.nxt (b', o')) ∧ ∀ c ∈ ks, dget [c] o'.1 = some (lenE P c) := by
    rw [← hE2]
    refine whileS_inv (os := [(3, tOwnD tInt)]) (β := Unit) (fun _ (o : List (List Nat × Int) × Unit) => ∃ qs, o.1 = mk1 qs (lenE P) ∧ qs.Nodup ∧ (∀ c ∈ qs, c ∈ known ks) ∧ ∀ c ∈ known ks, P c = none → c ∈ qs) (fun _ (o : List (List Nat × Int) × Unit) => 62 - o.1.length) (fun _ (o : List (List Nat × Int) × Unit) => ∀ c ∈ ks, dget [c] o.1 = some (lenE P c)) (fun b (o : List (List Nat × Int) × Unit) hI => ?_) _ _ _ ?_ ?_
    · obtain ⟨qs, hf, hn, hq, hat⟩ := hI
      have hql : o.1.length = qs.length := by rw [hf, mk1_len]
      by_cases hlt : qs.length < (known ks).length
      · right
        have g1 : decide ((o.1.length : Int) < ((known ks).length : Int)) = true := decide_eq_true (by omega)
        have hlack : ∃ c ∈ ks, c ∉ qs := by
          apply Classical.byContradiction
          intro h
          have h' : ∀ c ∈ ks, c ∈ qs := fun c hc => Classical.byContradiction fun z => h ⟨c, hc, z⟩
          have := nodup_len V.ndk h'
          omega
        obtain ⟨c0, hc0, hc1⟩ := hlack
        obtain ⟨d, hd, hdq, hdv⟩ := ready V (qs := qs) (rk c0) c0 (Nat.le_refl _) hc0 hc1
        refine ⟨o, by simp only [SM.bind, SM.ret, SM.lift, SM.lifx, SM.map, SM.andB, SM.orB, SM.callO, SM.borrow, SM.bor, SM.fail, SM.chain, SM.ite, PutI.ow, RFld.get, noX, bindX, Out.bind, OMem.get, OMem.set, OSub.map, OSel.get, OSel.rest, OSel.join, runO, runZ, runJ, id, if_true, if_false, Bool.false_eq_true, Bool.not_true, Bool.not_false, g1, if_pos s2], ?_⟩
        simp only [SM.bind, SM.ret, SM.lift, SM.lifx, SM.map, SM.andB, SM.orB, SM.callO, SM.borrow, SM.bor, SM.fail, SM.chain, SM.ite, PutI.ow, RFld.get, noX, bindX, Out.bind, OMem.get, OMem.set, OSub.map, OSel.get, OSel.rest, OSel.join, runO, runZ, runJ, id, if_true, if_false, Bool.false_eq_true, Bool.not_true, Bool.not_false]
        generalize hE3 : forS _ _ _ _ = E3
        have hx3 : ∃ o2 : List (List Nat × Int) × Unit, E3 = some (.nxt ((), o2)) ∧ ∃ more, o2.1 = mk1 (qs ++ more) (lenE P) ∧ (qs ++ more).Nodup ∧ (∀ c ∈ qs ++ more, c ∈ known ks) ∧ d ∈ qs ++ more := by
          rw [← hE3]
          refine (forS_preU (os := [(3, tOwnD tInt)]) (P := fun dn (o2 : List (List Nat × Int) × Unit) => ∃ more, o2.1 = mk1 (qs ++ more) (lenE P) ∧ (qs ++ more).Nodup ∧ (∀ c ∈ qs ++ more, c ∈ known ks) ∧ (d ∈ dn → d ∈ qs ++ more)) (known ks) o (fun dn c r (o2 : List (List Nat × Int) × Unit) hs hI => ?_) ⟨[], by rw [List.append_nil]; exact ⟨hf, hn, hq, fun z => by cases z⟩⟩).imp fun o2 ⟨e, more, h1, h2, h3, h4⟩ => ⟨e, more, h1, h2, h3, h4 ((mem_known V.ch).mpr hd)⟩
          · obtain ⟨more, h1, h2, h3, h4⟩ := hI
            have hcm : c ∈ known ks := by
              rw [hs]; simp
            have hdh : ∀ a : Nat, dhas [a] o2.1 = decide (a ∈ qs ++ more) := fun a => by rw [h1, mk1_has]
            have hg : ∀ a : Nat, dget [a] o2.1 = if a ∈ qs ++ more then some (lenE P a) else none := fun a => by rw [h1, mk1_get]
            by_cases hcq : c ∈ qs ++ more
            · refine ⟨(), o2, ?_, more, h1, h2, h3, fun z => ?_⟩
              · simp only [SM.bind, SM.ret, SM.lift, SM.lifx, SM.map, SM.andB, SM.orB, SM.callO, SM.borrow, SM.bor, SM.fail, SM.chain, SM.ite, PutI.ow, RFld.get, noX, bindX, Out.bind, OMem.get, OMem.set, OSub.map, OSel.get, OSel.rest, OSel.join, runO, runZ, runJ, id, if_true, if_false, Bool.false_eq_true, Bool.not_true, Bool.not_false, hdh, decide_eq_true hcq]
              · rcases List.mem_append.mp z with z | z
                · exact h4 z
                · rw [List.mem_singleton.mp z]; exact hcq
            · cases e : P c with
              | none => exact absurd (List.mem_append_left _ (hat c hcm e)) hcq
              | some v =>
                have hv2 := V.two c v e
                have s3 : v.length ≤ sizeLine := small_len (by omega)
                have hm1 : ∀ (o3 : List (List Nat × Int) × Unit), o3 = o2 → mapS (fun _ => SM.ret true) (fun v157 : Nat => SM.bor (os := [(3, tOwnD tInt)]) OSel.here _root_.id fun v162 => SM.bind (SM.bind (SM.ret v157) fun x => SM.ret [x]) fun x => SM.bind (SM.ret v162) fun y => SM.lift (some (dhas x y))) v o3 = some (.ok (v.map fun a => decide (a ∈ qs ++ more)), o2) := fun o3 ho => by
                  subst ho
                  exact mapS_map v (fun _ _ => rfl) fun a _ => by simp only [SM.bind, SM.ret, SM.lift, SM.lifx, SM.map, SM.andB, SM.orB, SM.callO, SM.borrow, SM.bor, SM.fail, SM.chain, SM.ite, PutI.ow, RFld.get, noX, bindX, Out.bind, OMem.get, OMem.set, OSub.map, OSel.get, OSel.rest, OSel.join, runO, runZ, runJ, id, if_true, if_false, Bool.false_eq_true, Bool.not_true, Bool.not_false, hdh]
                by_cases hall : ∀ a ∈ v, a ∈ qs ++ more
                · have hb : ((v.map fun a => decide (a ∈ qs ++ more)).all _root_.id) = true := List.all_eq_true.mpr fun y hy => by
                    obtain ⟨a, ha, rfl⟩ := List.mem_map.mp hy
                    exact decide_eq_true (hall a ha)
                  have hm2 : ∀ (o3 : List (List Nat × Int) × Unit), o3 = o2 → mapS (fun _ => SM.ret true) (fun v157 : Nat => SM.bor (os := [(3, tOwnD tInt)]) OSel.here _root_.id fun v169 => SM.bind (SM.ret v169) fun x => SM.bind (SM.bind (SM.ret v157) fun x => SM.ret [x]) fun y => SM.lift (dget y x)) v o3 = some (.ok (v.map (lenE P)), o2) := fun o3 ho => by
                    subst ho
                    exact mapS_map v (fun _ _ => rfl) fun a ha => by simp only [SM.bind, SM.ret, SM.lift, SM.lifx, SM.map, SM.andB, SM.orB, SM.callO, SM.borrow, SM.bor, SM.fail, SM.chain, SM.ite, PutI.ow, RFld.get, noX, bindX, Out.bind, OMem.get, OMem.set, OSub.map, OSel.get, OSel.rest, OSel.join, runO, runZ, runJ, id, if_true, if_false, Bool.false_eq_true, Bool.not_true, Bool.not_false, hg, if_pos (hall a ha)]
                  have s4 : o2.1.length < sizeLine := by
                    have := nodup_len h2 h3
                    rw [h1, mk1_len, sizeLine_eq]
                    omega
                  have hnew : dput [c] (v.map (lenE P)).sum o2.1 = mk1 (qs ++ (more ++ [c])) (lenE P) := by
                    rw [sum_len, ← V.R.ex_some e, h1, ← List.append_assoc, ← mk1_snoc hcq]
                    rfl
                  refine ⟨(), (mk1 (qs ++ (more ++ [c])) (lenE P), o2.2), ?_, more ++ [c], rfl, ?_, ?_, ?_⟩
                  · simp only [SM.bind, SM.ret, SM.lift, SM.lifx, SM.map, SM.andB, SM.orB, SM.callO, SM.borrow, SM.bor, SM.fail, SM.chain, SM.ite, PutI.ow, RFld.get, noX, bindX, Out.bind, OMem.get, OMem.set, OSub.map, OSel.get, OSel.rest, OSel.join, runO, runZ, runJ, id, if_true, if_false, Bool.false_eq_true, Bool.not_true, Bool.not_false, hdh, decide_eq_false hcq, hP, e, if_pos s3]
                    rw [hm1 _ rfl]
                    simp only [SM.bind, SM.ret, SM.lift, SM.lifx, SM.map, SM.andB, SM.orB, SM.callO, SM.borrow, SM.bor, SM.fail, SM.chain, SM.ite, PutI.ow, RFld.get, noX, bindX, Out.bind, OMem.get, OMem.set, OSub.map, OSel.get, OSel.rest, OSel.join, runO, runZ, runJ, id, if_true, if_false, Bool.false_eq_true, Bool.not_true, Bool.not_false, hb]
                    rw [hm2 _ rfl]
                    simp only [SM.bind, SM.ret, SM.lift, SM.lifx, SM.map, SM.andB, SM.orB, SM.callO, SM.borrow, SM.bor, SM.fail, SM.chain, SM.ite, PutI.ow, RFld.get, noX, bindX, Out.bind, OMem.get, OMem.set, OSub.map, OSel.get, OSel.rest, OSel.join, runO, runZ, runJ, id, if_true, if_false, Bool.false_eq_true, Bool.not_true, Bool.not_false, hnew]
                    rw [if_pos s4]
                  · rw [← List.append_assoc, List.nodup_append]
                    exact ⟨h2, by simp, fun a ha b hb => by rw [List.mem_singleton.mp hb]; exact fun z => hcq (z ▸ ha)⟩
                  · intro a ha
                    rw [← List.append_assoc] at ha
                    rcases List.mem_append.mp ha with z | z
                    · exact h3 a z
                    · rw [List.mem_singleton.mp z]; exact hcm
                  · intro z
                    rw [← List.append_assoc]
                    rcases List.mem_append.mp z with z | z
                    · exact List.mem_append_left _ (h4 z)
                    · exact List.mem_append_right _ z
                · have hb : ((v.map fun a => decide (a ∈ qs ++ more)).all _root_.id) = false := by
                    rw [← Bool.not_eq_true, List.all_eq_true]
                    intro z
                    exact hall fun a ha => of_decide_eq_true (z _ (List.mem_map.mpr ⟨a, ha, rfl⟩))
                  refine ⟨(), o2, ?_, more, h1, h2, h3, fun z => ?_⟩
                  · simp only [SM.bind, SM.ret, SM.lift, SM.lifx, SM.map, SM.andB, SM.orB, SM.callO, SM.borrow, SM.bor, SM.fail, SM.chain, SM.ite, PutI.ow, RFld.get, noX, bindX, Out.bind, OMem.get, OMem.set, OSub.map, OSel.get, OSel.rest, OSel.join, runO, runZ, runJ, id, if_true, if_false, Bool.false_eq_true, Bool.not_true, Bool.not_false, hdh, decide_eq_false hcq, hP, e, if_pos s3]
                    rw [hm1 _ rfl]
                    simp only [SM.bind, SM.ret, SM.lift, SM.lifx, SM.map, SM.andB, SM.orB, SM.callO, SM.borrow, SM.bor, SM.fail, SM.chain, SM.ite, PutI.ow, RFld.get, noX, bindX, Out.bind, OMem.get, OMem.set, OSub.map, OSel.get, OSel.rest, OSel.join, runO, runZ, runJ, id, if_true, if_false, Bool.false_eq_true, Bool.not_true, Bool.not_false, hb]
                  · rcases List.mem_append.mp z with z | z
                    · exact h4 z
                    · have : d = c := List.mem_singleton.mp z
                      subst this
                      exact absurd (fun a ha => List.mem_append_left _ (hdv v e a ha)) hall
        obtain ⟨o2, e3, more, h1, h2, h3, h4⟩ := hx3
        subst e3
        refine ⟨(), o2, rfl, ⟨_, h1, h2, h3, fun c hc e => List.mem_append_left _ (hat c hc e)⟩, ?_⟩
        have hne : more ≠ [] := fun z => by rw [z, List.append_nil] at h4; exact hdq h4
        have hpos := List.length_pos_iff.mpr hne
        have hle := nodup_len h2 h3
        rw [List.length_append] at hle
        show 62 - o2.1.length < 62 - o.1.length
        rw [h1, mk1_len, List.length_append, hql]
        omega
      · left
        have g1 : decide ((o.1.length : Int) < ((known ks).length : Int)) = false := decide_eq_false (by omega)
        refine ⟨o, by simp only [SM.bind, SM.ret, SM.lift, SM.lifx, SM.map, SM.andB, SM.orB, SM.callO, SM.borrow, SM.bor, SM.fail, SM.chain, SM.ite, PutI.ow, RFld.get, noX, bindX, Out.bind, OMem.get, OMem.set, OSub.map, OSel.get, OSel.rest, OSel.join, runO, runZ, runJ, id, if_true, if_false, Bool.false_eq_true, Bool.not_true, Bool.not_false, g1, if_pos s2], fun c hc => ?_⟩
        rw [hf, mk1_get, if_pos (full hn hq known_nodup (by omega) c ((mem_known V.ch).mpr hc))]
    · exact ⟨_, rfl, known_nodup.filter _, fun c hc => (List.mem_filter.mp hc).1, fun c hc e => List.mem_filter.mpr ⟨hc, by rw [e]; rfl⟩⟩
    · show 62 - _ < 1000000000
      omega
  obtain ⟨b', o', e, h⟩ := hx2
  subst e
  simp only [SM.bind, SM.ret, SM.lift, SM.lifx, SM.map, SM.andB, SM.orB, SM.callO, SM.borrow, SM.bor, SM.fail, SM.chain, SM.ite, PutI.ow, RFld.get, noX, bindX, Out.bind, OMem.get, OMem.set, OSub.map, OSel.get, OSel.rest, OSel.join, runO, runZ, runJ, id, if_true, if_false, Bool.false_eq_true, Bool.not_true, Bool.not_false]
  exact ⟨_, rfl, h⟩
end K

namespace K
open PySem PySem.Spec PyProof.Rows L2 Mi Pb
variable (K : PySem.W.Frag)
theorem dec_le8 {n : Nat} (h : n ≤ 8) : decide ((8 : Int) < (n : Int)) = false := decide_eq_false (by omega)
theorem m_require_fit {cl : List (List Nat × Int)} {x : List (List Nat × List Nat)} {ks : List Nat} {C : Nat → Int} {P : PF} {rk : Nat → Nat} (V : Val ks C P rk) (hv : ∀ c ∈ ks, dget [c] cl = some (C c)) (hP : ∀ c, dget [c] x = P c) :
    r_require_fit K (cl, x, known ks, ()) = some (.ok ()) := by
  unfold r_require_fit d_require_fit
  have hkl := known_len V.ch V.ndk
  have hks := V.n1
  have s2 : (known ks).length ≤ sizeLine := small_len (by omega)
  obtain ⟨f, e1, hf⟩ := m_atom_counts K V hP
  simp only [SM.bind, SM.ret, SM.lift, SM.lifx, SM.map, SM.andB, SM.orB, SM.callO, SM.borrow, SM.bor, SM.fail, SM.chain, SM.ite, PutI.ow, RFld.get, noX, bindX, Out.bind, OMem.get, OMem.set, OSub.map, OSel.get, OSel.rest, OSel.join, runO, runZ, runJ, id, if_true, if_false, Bool.false_eq_true, Bool.not_true, Bool.not_false, if_pos s2]
  generalize hE2 : mapS _ _ _ _ = E2
  have hx2 : E2 = some (.ok (comps P (known ks)), ()) := by
    rw [← hE2]
    exact mapS_id _ (fun c _ => by simp only [SM.bind, SM.ret, SM.lift, SM.lifx, SM.map, SM.andB, SM.orB, SM.callO, SM.borrow, SM.bor, SM.fail, SM.chain, SM.ite, PutI.ow, RFld.get, noX, bindX, Out.bind, OMem.get, OMem.set, OSub.map, OSel.get, OSel.rest, OSel.join, runO, runZ, runJ, id, if_true, if_false, Bool.false_eq_true, Bool.not_true, Bool.not_false, dhas, hP]) (fun _ _ _ => rfl)
  subst hx2
  simp only [SM.bind, SM.ret, SM.lift, SM.lifx, SM.map, SM.andB, SM.orB, SM.callO, SM.borrow, SM.bor, SM.fail, SM.chain, SM.ite, PutI.ow, RFld.get, noX, bindX, Out.bind, OMem.get, OMem.set, OSub.map, OSel.get, OSel.rest, OSel.join, runO, runZ, runJ, id, if_true, if_false, Bool.false_eq_true, Bool.not_true, Bool.not_false, e1]
  rw [forS_unit _ fun c hc => by
    obtain ⟨hck, v, hv⟩ := mem_comps.mp hc
    have t1 : decide ((8 : Int) < lenE P c) = false := dec_le8 (V.len c)
    simp only [SM.bind, SM.ret, SM.lift, SM.lifx, SM.map, SM.andB, SM.orB, SM.callO, SM.borrow, SM.bor, SM.fail, SM.chain, SM.ite, PutI.ow, RFld.get, noX, bindX, Out.bind, OMem.get, OMem.set, OSub.map, OSel.get, OSel.rest, OSel.join, runO, runZ, runJ, id, if_true, if_false, Bool.false_eq_true, Bool.not_true, Bool.not_false, hf c ((mem_known V.ch).mp hck), t1]]
  simp only [SM.bind, SM.ret, SM.lift, SM.lifx, SM.map, SM.andB, SM.orB, SM.callO, SM.borrow, SM.bor, SM.fail, SM.chain, SM.ite, PutI.ow, RFld.get, noX, bindX, Out.bind, OMem.get, OMem.set, OSub.map, OSel.get, OSel.rest, OSel.join, runO, runZ, runJ, id, if_true, if_false, Bool.false_eq_true, Bool.not_true, Bool.not_false]
  rw [forS_unit _ fun c hc => by
    obtain ⟨hck, v, hcv⟩ := mem_comps.mp hc
    have hck' := (mem_known V.ch).mp hck
    have hin : fst P c ∈ ks := by
      have h1 : fst P c ∈ ex P c := List.mem_of_getElem? (V.R.fst_ex c)
      exact V.R.ex_in (S := fun c => c ∈ ks) (fun c v e a ha => V.mem c v e a ha) c hck' _ h1
    have t1 : (!decide (decide (C c = 0) = decide (C (fst P c) = 0))) = false := by
      have := V.zero c v hcv
      by_cases h : C c = 0
      · have h2 := this.mp h; simp [h, h2]
      · have h2 : ¬ C (fst P c) = 0 := fun z => h (this.mpr z)
        simp [h, h2]
    simp only [SM.bind, SM.ret, SM.lift, SM.lifx, SM.map, SM.andB, SM.orB, SM.callO, SM.borrow, SM.bor, SM.fail, SM.chain, SM.ite, PutI.ow, RFld.get, noX, bindX, Out.bind, OMem.get, OMem.set, OSub.map, OSel.get, OSel.rest, OSel.join, runO, runZ, runJ, id, if_true, if_false, Bool.false_eq_true, Bool.not_true, Bool.not_false, hv c hck', m_first_atom K V.R hP V.two (c := c), hv _ hin, t1]]
  rfl
/-- what a table holds -/
def pairsOf' (P : PF) (B : List Nat) (s : List Nat) : List Nat := (comps P s).filter fun c => decide (((P c).getD []).length = 2) && !decide (c ∈ B)
def TF (ks : List Nat) (C : Nat → Int) (P : PF) (B : List Nat) : AT (fs_Table.map (·.2)) :=
  (mk1 (known ks) C, mk1 (comps P (known ks)) (fun c => (P c).getD []), mk1 (known ks) (ex P), known B, (pairsOf' P B (known ks)).map (fun c => ((P c).getD [], [c])), ())
/-- what may be excluded -/
structure Bar (P : PF) (B : List Nat) : Prop where
  comp : ∀ c ∈ B, ∃ v, P c = some v
  uniq : ∀ c d v, P c = some v → P d = some v → v.length = 2 → c ∉ B → d ∉ B → c = d
theorem m_init {cl : List (List Nat × Int)} {x : List (List Nat × List Nat)} {ks ls ps B : List Nat} {C : Nat → Int} {P : PF} {rk : Nat → Nat} (V : Val ks C P rk) (hl0 : ks ≠ []) (hls : ls.Perm ks) (hk : cl.map (·.1) = ls.map fun c => [c]) (hv : ∀ c ∈ ks, dget [c] cl = some (C c))
    (hkp : x.map (·.1) = ps.map fun c => [c]) (hps : ∀ c ∈ ps, c ∈ ks) (hpl : ps.length ≤ 30) (hP : ∀ c, dget [c] x = P c) (hB : Bar P B) :
    r_Table___init__ K (cl, x, B, ()) = some (.ok (TF ks C P B)) := by
  unfold r_Table___init__ d_Table___init__
  have hkl := known_len V.ch V.ndk
  have hks := V.n1
  have s2 : (known ks).length ≤ sizeLine := small_len (by omega)
  have hlm : ∀ c ∈ ls, c ∈ ks := fun c hc => hls.mem_iff.mp hc
  have hll := hls.length_eq
  have hkn : known ls = known ks := by
    unfold known
    exact List.filter_congr fun c _ => by simp [hls.mem_iff]
  have s3 : ls.length ≤ 16777216 := by omega
  have hpos := List.length_pos_iff.mpr hl0
  have hBch : ∀ c ∈ B, c ∈ CH := fun c hc => by
    obtain ⟨v, e⟩ := hB.comp c hc
    exact V.ch c (V.dom c v e)
  have i1 := m_in_order K (s := ls) fun c hc => V.ch c (hlm c hc)
  rw [hkn] at i1
  have q1 := m_require_classes K (x := cl) (ks := ls) (C := C) hk (fun c hc => hv c (hlm c hc)) (fun c hc => V.ch c (hlm c hc)) (by omega) (by omega) (fun c hc => V.cls c (hlm c hc))
  have q2 := m_require_decompositions K V hkp hps hpl hP
  have q3 := m_require_fit K V hv hP
  simp only [SM.bind, SM.ret, SM.lift, SM.lifx, SM.map, SM.andB, SM.orB, SM.callO, SM.borrow, SM.bor, SM.fail, SM.chain, SM.ite, PutI.ow, RFld.get, noX, bindX, Out.bind, OMem.get, OMem.set, OSub.map, OSel.get, OSel.rest, OSel.join, runO, runZ, runJ, id, if_true, if_false, Bool.false_eq_true, Bool.not_true, Bool.not_false, q1, hk, flat_sing, if_pos s3, i1, q2, q3, if_pos s2]
  generalize hE2 : mapS _ _ _ _ = E2
  have hx2 : E2 = some (.ok (comps P (known ks)), ((), ())) := by
    rw [← hE2]
    exact mapS_id _ (fun c _ => by simp only [SM.bind, SM.ret, SM.lift, SM.lifx, SM.map, SM.andB, SM.orB, SM.callO, SM.borrow, SM.bor, SM.fail, SM.chain, SM.ite, PutI.ow, RFld.get, noX, bindX, Out.bind, OMem.get, OMem.set, OSub.map, OSel.get, OSel.rest, OSel.join, runO, runZ, runJ, id, if_true, if_false, Bool.false_eq_true, Bool.not_true, Bool.not_false, dhas, hP]) (fun _ _ _ => rfl)
  subst hx2
  have q4 := m_require_exclusions K (s := B) (l := comps P (known ks)) fun c hc => by
    obtain ⟨v, e⟩ := hB.comp c hc
    exact mem_comps.mpr ⟨(mem_known V.ch).mpr (V.dom c v e), v, e⟩
  have hcl : (comps P (known ks)).length ≤ 62 := Nat.le_trans (List.length_filter_le _ _) (by omega)
  have s4 : (comps P (known ks)).length ≤ sizeLine := small_len (by omega)
  simp only [SM.bind, SM.ret, SM.lift, SM.lifx, SM.map, SM.andB, SM.orB, SM.callO, SM.borrow, SM.bor, SM.fail, SM.chain, SM.ite, PutI.ow, RFld.get, noX, bindX, Out.bind, OMem.get, OMem.set, OSub.map, OSel.get, OSel.rest, OSel.join, runO, runZ, runJ, id, if_true, if_false, Bool.false_eq_true, Bool.not_true, Bool.not_false, q4, if_pos s4]
  generalize hE3 : mapS _ _ _ _ = E3
  have hx3 : E3 = some (.ok ((comps P (known ks)).filter fun c => !decide (c ∈ B)), ((), ())) := by
    rw [← hE3]
    exact mapS_id _ (fun c _ => by simp only [SM.bind, SM.ret, SM.lift, SM.lifx, SM.map, SM.andB, SM.orB, SM.callO, SM.borrow, SM.bor, SM.fail, SM.chain, SM.ite, PutI.ow, RFld.get, noX, bindX, Out.bind, OMem.get, OMem.set, OSub.map, OSel.get, OSel.rest, OSel.join, runO, runZ, runJ, id, if_true, if_false, Bool.false_eq_true, Bool.not_true, Bool.not_false]) (fun _ _ _ => rfl)
  subst hx3
  have hcn : (comps P (known ks)).Nodup := known_nodup.filter _
  have q5 := m_require_unique K (x := x) (l := (comps P (known ks)).filter fun c => !decide (c ∈ B)) hP (Nat.le_trans (List.length_filter_le _ _) hcl) (fun c hc => by
      obtain ⟨_, v, e⟩ := mem_comps.mp (List.mem_filter.mp hc).1
      exact ⟨v, e, V.two c v e⟩) (hcn.filter _) (fun c hc d hd v e1 e2 e3 => by
      have h1 := (List.mem_filter.mp hc).2
      have h2 := (List.mem_filter.mp hd).2
      exact hB.uniq c d v e1 e2 e3 (by simpa using h1) (by simpa using h2))
  simp only [SM.bind, SM.ret, SM.lift, SM.lifx, SM.map, SM.andB, SM.orB, SM.callO, SM.borrow, SM.bor, SM.fail, SM.chain, SM.ite, PutI.ow, RFld.get, noX, bindX, Out.bind, OMem.get, OMem.set, OSub.map, OSel.get, OSel.rest, OSel.join, runO, runZ, runJ, id, if_true, if_false, Bool.false_eq_true, Bool.not_true, Bool.not_false, q5]
  rw [dcS_all (f := C) (known ks) known_nodup (fun _ _ => rfl) (fun _ _ => rfl) (fun c hc => by simp only [SM.bind, SM.ret, SM.lift, SM.lifx, SM.map, SM.andB, SM.orB, SM.callO, SM.borrow, SM.bor, SM.fail, SM.chain, SM.ite, PutI.ow, RFld.get, noX, bindX, Out.bind, OMem.get, OMem.set, OSub.map, OSel.get, OSel.rest, OSel.join, runO, runZ, runJ, id, if_true, if_false, Bool.false_eq_true, Bool.not_true, Bool.not_false, hv c ((mem_known V.ch).mp hc)])]
  simp only [SM.bind, SM.ret, SM.lift, SM.lifx, SM.map, SM.andB, SM.orB, SM.callO, SM.borrow, SM.bor, SM.fail, SM.chain, SM.ite, PutI.ow, RFld.get, noX, bindX, Out.bind, OMem.get, OMem.set, OSub.map, OSel.get, OSel.rest, OSel.join, runO, runZ, runJ, id, if_true, if_false, Bool.false_eq_true, Bool.not_true, Bool.not_false]
  rw [dcS_all (f := fun c => (P c).getD []) (comps P (known ks)) hcn (fun _ _ => rfl) (fun _ _ => rfl) (fun c hc => by
    obtain ⟨_, v, e⟩ := mem_comps.mp hc
    simp only [SM.bind, SM.ret, SM.lift, SM.lifx, SM.map, SM.andB, SM.orB, SM.callO, SM.borrow, SM.bor, SM.fail, SM.chain, SM.ite, PutI.ow, RFld.get, noX, bindX, Out.bind, OMem.get, OMem.set, OSub.map, OSel.get, OSel.rest, OSel.join, runO, runZ, runJ, id, if_true, if_false, Bool.false_eq_true, Bool.not_true, Bool.not_false, hP, e, Option.getD])]
  simp only [SM.bind, SM.ret, SM.lift, SM.lifx, SM.map, SM.andB, SM.orB, SM.callO, SM.borrow, SM.bor, SM.fail, SM.chain, SM.ite, PutI.ow, RFld.get, noX, bindX, Out.bind, OMem.get, OMem.set, OSub.map, OSel.get, OSel.rest, OSel.join, runO, runZ, runJ, id, if_true, if_false, Bool.false_eq_true, Bool.not_true, Bool.not_false]
  rw [dcS_all (f := ex P) (known ks) known_nodup (fun _ _ => rfl) (fun _ _ => rfl) (fun c hc => by simp only [SM.bind, SM.ret, SM.lift, SM.lifx, SM.map, SM.andB, SM.orB, SM.callO, SM.borrow, SM.bor, SM.fail, SM.chain, SM.ite, PutI.ow, RFld.get, noX, bindX, Out.bind, OMem.get, OMem.set, OSub.map, OSel.get, OSel.rest, OSel.join, runO, runZ, runJ, id, if_true, if_false, Bool.false_eq_true, Bool.not_true, Bool.not_false, m_expanded K V hP c])]
  simp only [SM.bind, SM.ret, SM.lift, SM.lifx, SM.map, SM.andB, SM.orB, SM.callO, SM.borrow, SM.bor, SM.fail, SM.chain, SM.ite, PutI.ow, RFld.get, noX, bindX, Out.bind, OMem.get, OMem.set, OSub.map, OSel.get, OSel.rest, OSel.join, runO, runZ, runJ, id, if_true, if_false, Bool.false_eq_true, Bool.not_true, Bool.not_false, m_in_order K hBch]
  rw [dcS_new (p := fun c => decide (((P c).getD []).length = 2) && !decide (c ∈ B)) (g := fun c => (P c).getD []) (f := fun c => [c]) (comps P (known ks)) (fun c hc => by
    obtain ⟨_, v, e⟩ := mem_comps.mp hc
    have s5 : v.length ≤ sizeLine := small_len (by have := V.two c v e; omega)
    by_cases h : v.length = 2
    · have h' : decide ((v.length : Int) = 2) = true := decide_eq_true (by omega)
      simp only [SM.bind, SM.ret, SM.lift, SM.lifx, SM.map, SM.andB, SM.orB, SM.callO, SM.borrow, SM.bor, SM.fail, SM.chain, SM.ite, PutI.ow, RFld.get, noX, bindX, Out.bind, OMem.get, OMem.set, OSub.map, OSel.get, OSel.rest, OSel.join, runO, runZ, runJ, id, if_true, if_false, Bool.false_eq_true, Bool.not_true, Bool.not_false, hP, e, if_pos s5, h', Option.getD, decide_eq_true h, Bool.true_and]
    · have h' : decide ((v.length : Int) = 2) = false := decide_eq_false (by omega)
      simp only [SM.bind, SM.ret, SM.lift, SM.lifx, SM.map, SM.andB, SM.orB, SM.callO, SM.borrow, SM.bor, SM.fail, SM.chain, SM.ite, PutI.ow, RFld.get, noX, bindX, Out.bind, OMem.get, OMem.set, OSub.map, OSel.get, OSel.rest, OSel.join, runO, runZ, runJ, id, if_true, if_false, Bool.false_eq_true, Bool.not_true, Bool.not_false, hP, e, if_pos s5, h', Option.getD, decide_eq_false h, Bool.false_and]) (fun c hc _ => by
    obtain ⟨_, v, e⟩ := mem_comps.mp hc
    simp only [SM.bind, SM.ret, SM.lift, SM.lifx, SM.map, SM.andB, SM.orB, SM.callO, SM.borrow, SM.bor, SM.fail, SM.chain, SM.ite, PutI.ow, RFld.get, noX, bindX, Out.bind, OMem.get, OMem.set, OSub.map, OSel.get, OSel.rest, OSel.join, runO, runZ, runJ, id, if_true, if_false, Bool.false_eq_true, Bool.not_true, Bool.not_false, hP, e, Option.getD]) (fun c hc _ => rfl) ?_]
  · rfl
  · refine List.pairwise_map.mpr ((hcn.filter _).imp_of_mem fun {a b} ha hb hab e => hab ?_)
    obtain ⟨ha1, ha2⟩ := List.mem_filter.mp ha
    obtain ⟨hb1, hb2⟩ := List.mem_filter.mp hb
    obtain ⟨_, v, e1⟩ := mem_comps.mp ha1
    obtain ⟨_, w, e2⟩ := mem_comps.mp hb1
    rw [Bool.and_eq_true, decide_eq_true_eq] at ha2 hb2
    rw [e1, e2] at e
    have e' : v = w := e
    subst e'
    rw [e1] at ha2
    exact hB.uniq a b v e1 e2 ha2.1 (by simpa using ha2.2) (by simpa using hb2.2)
end K

namespace K
open PySem PySem.Spec PyProof.Rows L2 Mi Pb
variable (K : PySem.W.Frag)
/-! ### draws -/
theorem m_take {b0 b1 b2 m : Int} (h0 : 0 ≤ b0) (h1 : 0 ≤ b1) (h2 : b1 < 2147483629) (h3 : 0 ≤ b2) (h4 : b2 < 2 ^ 20) (hm : 0 < m) (hm2 : m < 2 ^ 40) :
    ∃ d c0 c2 : Int, r__law_take K [b0, b1, b2] (m, ()) = some (.ok d, [c0, b1, c2]) ∧ 0 ≤ d ∧ d < m ∧ 0 ≤ c0 ∧ 0 ≤ c2 ∧ c2 ≤ b2 + 1 := by
  unfold r__law_take d__law_take
  simp only [SM.bind, SM.ret, SM.lift, SM.lifx, SM.map, SM.callO, SM.borrow, SM.bor, OSel.get, OSel.rest, OSel.join, bindX, Out.bind, OMem.get, OMem.set, OSub.map, runO, runZ, id, at0, at1, at2, ix0, ix2, set0, set2]
  by_cases hb : 0 < b0
  · simp only [decide_eq_true hb, if_true, if_pos hm, if_pos (div_ok hm hm2), at0, ix0, set0]
    exact ⟨_, _, _, rfl, Int.emod_nonneg _ (by omega), Int.emod_lt_of_pos _ hm, Int.ediv_nonneg h0 (by omega), h3, by omega⟩
  · have e1 : (0 : Int) < 2147483647 := by decide
    have e2 : (0 : Int) < 2147483587 := by decide
    have g1 : CMul 8633 (b2 + 1) := mul_ok (by decide)
    have g2 : CMul 104729 (b2 + 1) := mul_ok (by decide)
    have g3 : CPow (b1 + 8633 * (b2 + 1) + 109) 5 := pow_ok (by omega) (by omega) (by decide) (by decide)
    have l1 : 0 ≤ (b1 + 8633 * (b2 + 1) + 109) ^ Int.toNat 5 % 2147483647 := Int.emod_nonneg _ (by decide)
    have l2 : (b1 + 8633 * (b2 + 1) + 109) ^ Int.toNat 5 % 2147483647 < 2147483647 := Int.emod_lt_of_pos _ (by decide)
    have g4 : CPow ((b1 + 8633 * (b2 + 1) + 109) ^ Int.toNat 5 % 2147483647 + 104729 * (b2 + 1)) 3 := pow_ok (by omega) (by omega) (by decide) (by decide)
    have g5 : ∀ x : Int, CDivW x 16 := fun x => div_ok (by decide) (by decide)
    simp only [decide_eq_false hb, Bool.false_eq_true, if_false, at0, at1, at2, ix0, ix2, set0, set2, if_pos g1, if_pos g2, if_pos g3, if_pos g4, if_pos e1, if_pos e2, if_pos hm, if_pos (g5 _)]
    exact ⟨_, _, _, rfl, Int.emod_nonneg _ (by omega), Int.emod_lt_of_pos _ hm, h0, by omega, by omega⟩
/-- a box of which at most n draws were made beyond its own -/
def Bx (n : Nat) (x : List Int) : Prop := ∃ b0 b1 b2, x = [b0, b1, b2] ∧ 0 ≤ b0 ∧ 0 ≤ b1 ∧ b1 < 2147483629 ∧ 0 ≤ b2 ∧ b2 ≤ n
theorem Bx.mono {n m : Nat} {x : List Int} (h : Bx n x) (hm : n ≤ m) : Bx m x := by
  obtain ⟨b0, b1, b2, e, h0, h1, h2, h3, h4⟩ := h
  exact ⟨b0, b1, b2, e, h0, h1, h2, h3, by omega⟩
theorem Bx.take {K : PySem.W.Frag} {n : Nat} {x : List Int} (h : Bx n x) (hn : n < 2 ^ 20) {m : Int} (hm : 0 < m) (hm2 : m < 2 ^ 40) : ∃ (d : Int) (y : List Int), r__law_take K x (m, ()) = some (.ok d, y) ∧ 0 ≤ d ∧ d < m ∧ Bx (n + 1) y := by
  obtain ⟨b0, b1, b2, rfl, h0, h1, h2, h3, h4⟩ := h
  obtain ⟨d, c0, c2, e, d0, d1, e0, e1, e2⟩ := m_take K h0 h1 h2 h3 (by omega) hm hm2
  exact ⟨d, _, e, d0, d1, c0, b1, c2, rfl, e0, h1, h2, e1, by omega⟩
def SIG : List Nat := [97, 98, 99, 100, 101, 102, 103, 104, 105, 106, 107, 108, 109, 110, 111, 112, 113, 114, 115, 116, 117, 118, 119, 120, 121, 122, 65, 66, 67, 68, 69, 70, 71, 72, 73, 74, 75, 76, 77, 78, 79, 80, 81, 82, 83, 84, 85, 86, 87, 88, 89, 90, 48, 49, 50, 51, 52, 53, 54, 55, 56, 57]
theorem sig_ch : ∀ c ∈ SIG, c ∈ CH := by decide
theorem sig_nodup : SIG.Nodup := by decide
theorem inj62 (b : Int) : ∀ s ∈ [(1 : Int), 3, 5, 7, 9, 11, 13, 15], ∀ i j : Int, 0 ≤ i → i < j → j < 62 → (b + s * i) % 62 ≠ (b + s * j) % 62 := by
  intro s hs i j h0 h1 h2 e
  simp only [List.mem_cons, List.not_mem_nil, or_false] at hs
  rcases hs with rfl | rfl | rfl | rfl | rfl | rfl | rfl | rfl <;> omega
theorem m_chars {n : Nat} {x : List Int} (h : Bx n x) (hn : n + 2 < 2 ^ 19) {m : Int} (hm : 0 ≤ m) (hm2 : m ≤ 62) : ∃ (l : List Nat) (y : List Int), r__law_chars K x (m, ()) = some (.ok l, y) ∧ l.Nodup ∧ (∀ c ∈ l, c ∈ CH) ∧ l.length = m.toNat ∧ Bx (n + 2) y := by
  obtain ⟨b, x1, e1, b0, b1, h1⟩ := h.take (K := K) (by omega) (m := 62) (by decide) (by decide)
  obtain ⟨g, x2, e2, g0, g1, h2⟩ := h1.take (K := K) (by omega) (m := 8) (by decide) (by decide)
  obtain ⟨hg, eg⟩ := atI_lt (l := [(1 : Int), 3, 5, 7, 9, 11, 13, 15]) g0 g1
  have hs := List.getElem_mem hg
  generalize [(1 : Int), 3, 5, 7, 9, 11, 13, 15][g.toNat] = s at *
  have hsb : 0 < s ∧ s ≤ 15 := by
    simp only [List.mem_cons, List.not_mem_nil, or_false] at hs
    omega
  have q1 : small62 m := ⟨by omega, by omega⟩
  have hr : (rng 0 m).length = m.toNat := by simp [rng]
  have q2 : (rng 0 m).length ≤ sizeLine := small_len (by omega)
  have q3 : SIG.length ≤ sizeLine := small_len (by decide)
  have q4 : (0 : Int) < 62 := by decide
  have hrm : ∀ k ∈ rng 0 m, 0 ≤ k ∧ k < 62 := fun k hk => by
    obtain ⟨j, hj, e⟩ := List.mem_map.mp hk
    rw [List.mem_range] at hj
    omega
  have hix : ∀ k : Int, ∃ (hlt : ((b + s * k) % 62).toNat < SIG.length), atI SIG ((b + s * k) % 62) = some SIG[((b + s * k) % 62).toNat] := fun k => by
    have p1 := Int.emod_nonneg (b + s * k) (show (62 : Int) ≠ 0 by decide)
    have p2 := Int.emod_lt_of_pos (b + s * k) q4
    exact atI_lt (l := SIG) p1 (by rw [show SIG.length = 62 from rfl]; exact p2)
  let f : Int → Nat := fun k => SIG.getD ((b + s * k) % 62).toNat 0
  have hf : ∀ k : Int, atI SIG ((b + s * k) % 62) = some (f k) ∧ f k ∈ SIG := fun k => by
    obtain ⟨hlt, e⟩ := hix k
    have ef : f k = SIG[((b + s * k) % 62).toNat] := by
      show SIG.getD _ 0 = _
      rw [List.getD_eq_getElem?_getD, List.getElem?_eq_getElem hlt]
      rfl
    rw [e, ef]
    exact ⟨rfl, List.getElem_mem hlt⟩
  have hmul : ∀ k ∈ rng 0 m, CMul s k := fun k hk => mul_ok (by omega)
  unfold r__law_chars d__law_chars
  simp only [SM.bind, SM.ret, SM.lift, SM.lifx, SM.map, SM.andB, SM.orB, SM.callO, SM.borrow, SM.bor, SM.fail, SM.chain, SM.ite, PutI.ow, RFld.get, noX, bindX, Out.bind, OMem.get, OMem.set, OSub.map, OSel.get, OSel.rest, OSel.join, runO, runZ, runJ, id, if_true, if_false, Bool.false_eq_true, Bool.not_true, Bool.not_false, e1, e2, eg, if_pos q1, if_pos q2, PutI.ow]
  generalize hE : mapS _ _ _ _ = E
  have hx : E = some (.ok ((rng 0 m).map f), (x2, ())) := by
    rw [← hE]
    unfold SIG at q3 hf
    exact mapS_map _ (fun _ _ => rfl) fun k hk => by simp only [SM.bind, SM.ret, SM.lift, SM.lifx, SM.map, SM.andB, SM.orB, SM.callO, SM.borrow, SM.bor, SM.fail, SM.chain, SM.ite, PutI.ow, RFld.get, noX, bindX, Out.bind, OMem.get, OMem.set, OSub.map, OSel.get, OSel.rest, OSel.join, runO, runZ, runJ, id, if_true, if_false, Bool.false_eq_true, Bool.not_true, Bool.not_false, if_pos (hmul k hk), if_pos q4, if_pos q3, (hf k).1]
  subst hx
  simp only [SM.bind, SM.ret, SM.lift, SM.lifx, SM.map, SM.andB, SM.orB, SM.callO, SM.borrow, SM.bor, SM.fail, SM.chain, SM.ite, PutI.ow, RFld.get, noX, bindX, Out.bind, OMem.get, OMem.set, OSub.map, OSel.get, OSel.rest, OSel.join, runO, runZ, runJ, id, if_true, if_false, Bool.false_eq_true, Bool.not_true, Bool.not_false]
  refine ⟨_, _, rfl, ?_, fun c hc => ?_, by rw [List.length_map, hr], h2⟩
  · refine List.pairwise_map.mpr ?_
    have hp : (rng 0 m).Pairwise (· < ·) := by
      unfold rng
      refine List.pairwise_map.mpr ((List.pairwise_lt_range).imp fun h => ?_)
      omega
    refine hp.imp_of_mem fun {i j} hi hj hij e => ?_
    obtain ⟨l1, a1⟩ := hix i
    obtain ⟨l2, a2⟩ := hix j
    have z1 := (hf i).1
    have z2 := (hf j).1
    rw [a1] at z1
    rw [a2] at z2
    have e3 : SIG[((b + s * i) % 62).toNat] = SIG[((b + s * j) % 62).toNat] := by
      rw [Option.some.inj z1, Option.some.inj z2]
      exact e
    have e4 := (List.getElem_inj sig_nodup).mp e3
    have p1 := Int.emod_nonneg (b + s * i) (show (62 : Int) ≠ 0 by decide)
    have p2 := Int.emod_nonneg (b + s * j) (show (62 : Int) ≠ 0 by decide)
    exact inj62 b s hs i j (hrm i hi).1 hij (hrm j hj).2 (by omega)
  · obtain ⟨k, _, e⟩ := List.mem_map.mp hc
    rw [← e]
    exact sig_ch _ (hf k).2
end K

namespace K
open PySem PySem.Spec PyProof.Rows L2 Mi Pb
variable (K : PySem.W.Frag)
theorem first_of {p : Nat → Bool} : ∀ l : List Nat, l.filter p ≠ [] → ∃ s a t, l = s ++ a :: t ∧ (∀ b ∈ s, p b = false) ∧ p a = true ∧ l.filter p = a :: t.filter p
  | [], h => absurd rfl h
  | b :: r, h => by
    cases hb : p b with
    | true => exact ⟨[], b, r, rfl, (fun _ z => nomatch z), hb, List.filter_cons_of_pos hb⟩
    | false =>
      rw [List.filter_cons_of_neg (by rw [hb]; simp)] at h
      obtain ⟨s, a, t, e, h1, h2, h3⟩ := first_of r h
      refine ⟨b :: s, a, t, by rw [e]; rfl, fun c hc => ?_, h2, by rw [List.filter_cons_of_neg (by rw [hb]; simp)]; exact h3⟩
      rcases List.mem_cons.mp hc with z | z
      · rw [z]; exact hb
      · exact h1 c z
theorem idxC_first {s t : List Nat} {a : Nat} (h : a ∉ s) : idxC (s ++ a :: t) a = some s.length := by
  have at_ : ∀ i, PySem.StrLaws.At (sOf (s ++ a :: t)) (sOf [a]) (sOf (s ++ a :: t)).length i ↔ (s ++ a :: t)[i]? = some a := fun i => by
    have := PySem.StrLaws.subAt_one (sOf (s ++ a :: t)) a i
    exact this
  have hat : (s ++ a :: t)[s.length]? = some a := by simp
  unfold idxC
  rcases PySem.StrLaws.occ_head (sOf (s ++ a :: t)) (sOf [a]) 1 (Nat.le_refl _) with ⟨_, hn⟩ | ⟨i, r, e, ha, hk⟩
  · exact absurd ((at_ _).mpr hat) (hn _)
  · rw [e]
    show some i = some s.length
    congr 1
    have h1 := (at_ i).mp ha
    rcases Nat.lt_trichotomy i s.length with z | z | z
    · rw [List.getElem?_append_left z] at h1
      exact absurd (List.mem_of_getElem? h1) h
    · exact z
    · exact absurd ((at_ _).mpr hat) (hk _ z)
theorem cut_to {s t : List Nat} : cut (s ++ t) none (some (s.length : Int)) = s := by
  unfold cut
  rw [HT.sIx_nat, HT.sIx_none, List.length_append, Nat.min_eq_left (by omega), Nat.sub_zero, List.drop_zero]
  simp
theorem cut_from {α : Type} {s : List α} {k : Nat} (h : k ≤ s.length) : cut s (some (k : Int)) none = s.drop k := by
  unfold cut
  rw [HT.sIx_nat, HT.sIx_none, Nat.min_eq_left h]
  exact List.take_of_length_le (by rw [List.length_drop]; omega)
theorem cut_upto {α : Type} {s : List α} {k : Nat} (h : k ≤ s.length) : cut s none (some (k : Int)) = s.take k := by
  unfold cut
  rw [HT.sIx_nat, HT.sIx_none, Nat.min_eq_left h, Nat.sub_zero, List.drop_zero]
theorem m_atoms {x : List (List Nat × List Nat)} {P : PF} {rk : Nat → Nat} (R : Rk P rk) (hP : ∀ c, dget [c] x = P c) (hs : ∀ c v, P c = some v → v.length ≤ 2 ∧ ∀ a ∈ v, a < 1114112) {c : Nat} (hc : c < 1114112) (h : (ex P c).length ≤ 1000) :
    r__law_atoms K (x, [c], ()) = some (.ok (ex P c)) := by
  unfold r__law_atoms d__law_atoms
  have s1 : [c].length ≤ sizeLine := small_len (by simp)
  have hm : ∀ (l : List Nat) (o : Unit), mapS (O := Unit) (fun v39 => SM.bind (SM.bind (SM.ret v39) fun x => SM.ret [x]) fun x_1 => SM.bind (SM.ret x) fun y => SM.lift (some (dhas x_1 y))) (fun v39 : Nat => SM.ret v39) l o = some (.ok (l.filter fun c => (P c).isSome), o) := fun l o =>
    mapS_id _ (fun c _ => by simp only [SM.bind, SM.ret, SM.lift, SM.lifx, SM.map, SM.andB, SM.orB, SM.callO, SM.borrow, SM.bor, SM.fail, SM.chain, SM.ite, PutI.ow, RFld.get, noX, bindX, Out.bind, OMem.get, OMem.set, OSub.map, OSel.get, OSel.rest, OSel.join, runO, runZ, runJ, id, if_true, if_false, Bool.false_eq_true, Bool.not_true, Bool.not_false, dhas, hP]) (fun _ _ _ => rfl)
  simp only [SM.bind, SM.ret, SM.lift, SM.lifx, SM.map, SM.andB, SM.orB, SM.callO, SM.borrow, SM.bor, SM.fail, SM.chain, SM.ite, PutI.ow, RFld.get, noX, bindX, Out.bind, OMem.get, OMem.set, OSub.map, OSel.get, OSel.rest, OSel.join, runO, runZ, runJ, id, if_true, if_false, Bool.false_eq_true, Bool.not_true, Bool.not_false, if_pos s1, hm]
  generalize hE : whileS _ _ _ _ _ _ = E
  have hx : ∃ b' o', E = some (.nxt (b', o')) ∧ b'.1 = ex P c := by
    rw [← hE]
    refine whileS_inv (os := []) (fun (b : List Nat × List Nat × Unit) o => b.1.flatMap (ex P) = ex P c ∧ b.2.1 = b.1.filter (fun c => (P c).isSome) ∧ ∀ a ∈ b.1, a < 1114112) (fun (b : List Nat × List Nat × Unit) o => (b.1.map (nd P)).sum) (fun (b : List Nat × List Nat × Unit) o => b.1 = ex P c) (fun (b : List Nat × List Nat × Unit) o hI => ?_) _ _ _ ⟨by simp, rfl, fun a ha => by rw [List.mem_singleton.mp ha]; exact hc⟩ ?_
    · obtain ⟨f, l, u⟩ := b
      obtain ⟨h1, h2, h3⟩ := hI
      have h1 : f.flatMap (ex P) = ex P c := h1
      have h2 : l = f.filter (fun c => (P c).isSome) := h2
      have h3 : ∀ a ∈ f, a < 1114112 := h3
      have hlen : f.length ≤ 1000 := by have := R.len_le f; rw [h1] at this; omega
      have hok : okC l = true := by
        rw [h2]
        exact List.all_eq_true.mpr fun a ha => decide_eq_true (h3 a (List.mem_filter.mp ha).1)
      by_cases hl : l = []
      · left
        refine ⟨o, ?_, ?_⟩
        · simp only [SM.bind, SM.ret, SM.lift, SM.lifx, SM.map, SM.andB, SM.orB, SM.callO, SM.borrow, SM.bor, SM.fail, SM.chain, SM.ite, PutI.ow, RFld.get, noX, bindX, Out.bind, OMem.get, OMem.set, OSub.map, OSel.get, OSel.rest, OSel.join, runO, runZ, runJ, id, if_true, if_false, Bool.false_eq_true, Bool.not_true, Bool.not_false, hok, hl, and_self, decide_true]
          subst hl
          rfl
        · show f = ex P c
          rw [← h1, flat_atoms]
          intro a ha
          have z := List.filter_eq_nil_iff.mp (h2.symm.trans hl) a ha
          simpa using z
      · right
        obtain ⟨s, a, t, e, p1, p2, p3⟩ := first_of f (h2 ▸ hl)
        refine ⟨o, ?_, ?_⟩
        · simp only [SM.bind, SM.ret, SM.lift, SM.lifx, SM.map, SM.andB, SM.orB, SM.callO, SM.borrow, SM.bor, SM.fail, SM.chain, SM.ite, PutI.ow, RFld.get, noX, bindX, Out.bind, OMem.get, OMem.set, OSub.map, OSel.get, OSel.rest, OSel.join, runO, runZ, runJ, id, if_true, if_false, Bool.false_eq_true, Bool.not_true, Bool.not_false, hok, and_self, decide_eq_false hl]
        · obtain ⟨v, hv⟩ := Option.isSome_iff_exists.mp p2
          have hvs := hs a v hv
          have hnot : a ∉ s := fun z => by have := p1 a z; rw [hv] at this; cases this
          have hl0 : atI l 0 = some a := by rw [h2, p3]; exact atI0
          have hix : idxC f a = some s.length := by rw [e]; exact idxC_first hnot
          have hfl : f.length = s.length + (t.length + 1) := by rw [e, List.length_append, List.length_cons]
          have hc1 : cut f none (some (s.length : Int)) = s := by rw [e]; exact cut_to
          have hc2 : cut f (some ((s.length : Int) + 1)) none = t := by
            have e1 : (some ((s.length : Int) + 1) : Option Int) = some ((s.length + 1 : Nat) : Int) := by congr 1
            rw [e1, cut_from (by omega), e]
            simp
          have z1 : f.length ≤ sizeLine := small_len (by omega)
          have z2 : s.length + v.length ≤ sizeLine := by rw [sizeLine_eq]; omega
          have z3 : (s ++ v).length + t.length ≤ sizeLine := by rw [sizeLine_eq, List.length_append]; omega
          have z4 : (s ++ v ++ t).length ≤ sizeLine := by rw [List.length_append]; exact z3
          obtain ⟨w1, w2⟩ := R.step (s := s) (t := t) hv
          refine ⟨(s ++ v ++ t, (s ++ v ++ t).filter (fun c => (P c).isSome), ()), o, ?_, ⟨?_, rfl, ?_⟩, ?_⟩
          · simp only [SM.bind, SM.ret, SM.lift, SM.lifx, SM.map, SM.andB, SM.orB, SM.callO, SM.borrow, SM.bor, SM.fail, SM.chain, SM.ite, PutI.ow, RFld.get, noX, bindX, Out.bind, OMem.get, OMem.set, OSub.map, OSel.get, OSel.rest, OSel.join, runO, runZ, runJ, id, if_true, if_false, Bool.false_eq_true, Bool.not_true, Bool.not_false, hl0, hix, Option.map, if_pos z1, hc1, hP, hv, if_pos z2, hc2, if_pos z3, if_pos z4, hm]
          · show (s ++ v ++ t).flatMap (ex P) = ex P c
            rw [w1, ← e, h1]
          · intro b hb
            have hb : b ∈ s ++ v ++ t := hb
            rcases List.mem_append.mp hb with hb | hb
            · rcases List.mem_append.mp hb with hb | hb
              · exact h3 b (by rw [e]; exact List.mem_append_left _ hb)
              · exact hvs.2 b hb
            · exact h3 b (by rw [e]; exact List.mem_append_right _ (List.mem_cons_of_mem _ hb))
          · show ((s ++ v ++ t).map (nd P)).sum < (f.map (nd P)).sum
            rw [e, ← w2]
            omega
    · show ([c].map (nd P)).sum < 1000000000
      have h1 := R.nd_le c
      have h2 : nd P c ≤ 30 * 1000 := by
        cases e : P c with
        | none => rw [nd_none e]; exact Nat.zero_le _
        | some v => exact Nat.le_trans h1 (Nat.mul_le_mul (Nat.le_of_lt (R.le c v e)) h)
      simp
      omega
  obtain ⟨b', o', e, h⟩ := hx
  subst e
  simp only [SM.bind, SM.ret, SM.lift, SM.lifx, SM.map, SM.andB, SM.orB, SM.callO, SM.borrow, SM.bor, SM.fail, SM.chain, SM.ite, PutI.ow, RFld.get, noX, bindX, Out.bind, OMem.get, OMem.set, OSub.map, OSel.get, OSel.rest, OSel.join, runO, runZ, runJ, id, if_true, if_false, Bool.false_eq_true, Bool.not_true, Bool.not_false, h]
end K

namespace K
open PySem PySem.Spec PyProof.Rows L2 Mi Pb
variable (K : PySem.W.Frag)
theorem dec_len {n : Nat} : decide ((n : Int) = 2) = decide (n = 2) := by
  by_cases h : n = 2
  · rw [decide_eq_true h]; exact decide_eq_true (by omega)
  · rw [decide_eq_false h]; exact decide_eq_false (by omega)
theorem map_split {ps : List Nat} {d : List (List Nat)} {y : List Nat} {r : List (List Nat)} (h : ps.map (fun c => [c]) = d ++ y :: r) : ∃ dn c rn, d = dn.map (fun c => [c]) ∧ y = [c] ∧ ps = dn ++ c :: rn := by
  obtain ⟨l1, l2, e, e1, e2⟩ := List.map_eq_append_iff.mp h
  obtain ⟨c, l3, e3, e4, e5⟩ := List.map_eq_cons_iff.mp e2
  exact ⟨l1, c, l3, e1.symm, e4.symm, by rw [e, e3]⟩
theorem m_barred {n : Nat} {b : List Int} (h : Bx n b) (hn : n < 2 ^ 19) {x : List (List Nat × List Nat)} {ps : List Nat} {P : PF} (hk : x.map (·.1) = ps.map fun c => [c]) (hnd : ps.Nodup) (hpl : ps.length ≤ 30) (hP : ∀ c, dget [c] x = P c) (hps : ∀ c v, P c = some v → v.length ≤ 2) :
    ∃ (B : List Nat) (y : List Int), r__law_barred K b (x, ()) = some (.ok B, y) ∧ Bar P B ∧ B.length ≤ 30 ∧ Bx (n + ps.length) y := by
  have hsome : ∀ c ∈ ps, ∃ v, P c = some v := fun c hc => by
    rw [← hP]
    exact dget_some (by rw [hk]; exact mem_sing.mpr hc)
  have hnone : ∀ c, c ∉ ps → P c = none := fun c hc => by
    rw [← hP, dget_none, hk]
    exact fun z => hc (mem_sing.mp z)
  have s1 : (ps.map fun c => [c]).length ≤ sizeLine := small_len (by rw [List.length_map]; omega)
  unfold r__law_barred d__law_barred
  simp only [SM.bind, SM.ret, SM.lift, SM.lifx, SM.map, SM.andB, SM.orB, SM.callO, SM.borrow, SM.bor, SM.fail, SM.chain, SM.ite, PutI.ow, RFld.get, noX, bindX, Out.bind, OMem.get, OMem.set, OSub.map, OSel.get, OSel.rest, OSel.join, runO, runZ, runJ, id, if_true, if_false, Bool.false_eq_true, Bool.not_true, Bool.not_false, hk, if_pos s1]
  generalize hE : forS _ _ _ _ = E
  have hx : ∃ (b' : List Nat × Unit) (o' : List Int × Unit), E = some (.nxt (b', o')) ∧ Bx (n + ps.length) o'.1 ∧ (∀ c ∈ b'.1, c ∈ ps) ∧ b'.1.length ≤ ps.length ∧ ∀ c ∈ ps, c ∉ b'.1 → ∀ one ∈ ps, one ≠ c → one ∉ b'.1 → ∀ v, P c = some v → P one = some v → v.length = 2 → False := by
    rw [← hE]
    refine (forS_pre (os := [(0, tOwn tInt)]) (P := fun d (b : List Nat × Unit) (o : List Int × Unit) => ∃ dn : List Nat, d = dn.map (fun c : Nat => [c]) ∧ Bx (n + dn.length) o.1 ∧ (∀ c ∈ b.1, c ∈ dn) ∧ b.1.length ≤ dn.length ∧ ∀ c ∈ dn, c ∉ b.1 → ∀ one ∈ ps, one ≠ c → one ∉ b.1 → ∀ v, P c = some v → P one = some v → v.length = 2 → False) (ps.map fun c => [c]) [] ([], ()) (b, ()) (fun d y r (b : List Nat × Unit) (o : List Int × Unit) hs hI => ?_) ⟨[], rfl, h, (fun _ z => nomatch z), Nat.le_refl _, (fun _ z => nomatch z)⟩).imp fun b' h => h.imp fun o' h => ⟨h.1, ?_⟩
    rotate_left
    · obtain ⟨_, dn, e1, e2, e3, e4, e5⟩ := h
      have edn : dn = ps := by
        have : ps.map (fun c => [c]) = dn.map fun c => [c] := by simpa using e1
        have z := congrArg List.flatten this
        rw [flat_sing, flat_sing] at z
        exact z.symm
      subst edn
      exact ⟨e2, e3, e4, e5⟩
    · obtain ⟨f, u⟩ := b
      obtain ⟨dn, e1, e2, e3, e4, e5⟩ := hI
      obtain ⟨dn', c, rn, e6, rfl, e7⟩ := map_split (by simpa using hs)
      have edn : dn' = dn := by
        have z := congrArg List.flatten (e6.symm.trans e1)
        rwa [flat_sing, flat_sing] at z
      subst edn
      have hc : c ∈ ps := by rw [e7]; simp
      have hcd : c ∉ dn' := fun z => by
        rw [e7, List.nodup_append] at hnd
        exact hnd.2.2 c z c (by simp) rfl
      have hlen : dn'.length + 1 ≤ ps.length := by rw [e7, List.length_append, List.length_cons]; omega
      obtain ⟨v, hv⟩ := hsome c hc
      have s2 : v.length ≤ sizeLine := small_len (by have := hps c v hv; omega)
      have hl0 : f.length ≤ dn'.length := e4
      obtain ⟨g, x2, eg, g0, g1, h2⟩ := e2.take (K := K) (by omega) (m := 5) (by decide) (by decide)
      let val : List Nat → List Nat := fun y => (dget y x).getD []
      have hval : ∀ a v, P a = some v → val [a] = v := fun a v e => by show (dget [a] x).getD [] = v; rw [hP, e]; rfl
      let pq : List Nat → Bool := fun y => !decide (y = [c]) && (!inS y f && decide ((val y).length = 2))
      simp only [SM.bind, SM.ret, SM.lift, SM.lifx, SM.map, SM.andB, SM.orB, SM.callO, SM.borrow, SM.bor, SM.fail, SM.chain, SM.ite, PutI.ow, RFld.get, noX, bindX, Out.bind, OMem.get, OMem.set, OSub.map, OSel.get, OSel.rest, OSel.join, runO, runZ, runJ, id, if_true, if_false, Bool.false_eq_true, Bool.not_true, Bool.not_false]
      generalize hE2 : mapS _ _ _ _ = E2
      have hx2 : E2 = some (.ok (((ps.map fun c => [c]).filter pq).map val), o) := by
        rw [← hE2]
        refine mapS_pure _ (fun y hy => ?_) fun y hy _ => ?_
        · obtain ⟨a, ha, rfl⟩ := List.mem_map.mp hy
          obtain ⟨w, hw⟩ := hsome a ha
          have s3 : w.length ≤ sizeLine := small_len (by have := hps a w hw; omega)
          show _ = some (Except.ok (!decide ([a] = [c]) && (!inS [a] f && decide ((val [a]).length = 2))), o)
          rw [hval a w hw]
          by_cases q1 : [a] = [c]
          · simp only [SM.bind, SM.ret, SM.lift, SM.lifx, SM.map, SM.andB, SM.orB, SM.callO, SM.borrow, SM.bor, SM.fail, SM.chain, SM.ite, PutI.ow, RFld.get, noX, bindX, Out.bind, OMem.get, OMem.set, OSub.map, OSel.get, OSel.rest, OSel.join, runO, runZ, runJ, id, if_true, if_false, Bool.false_eq_true, Bool.not_true, Bool.not_false, decide_eq_true q1, Bool.false_and]
          · cases q2 : inS [a] f with
            | true => simp only [SM.bind, SM.ret, SM.lift, SM.lifx, SM.map, SM.andB, SM.orB, SM.callO, SM.borrow, SM.bor, SM.fail, SM.chain, SM.ite, PutI.ow, RFld.get, noX, bindX, Out.bind, OMem.get, OMem.set, OSub.map, OSel.get, OSel.rest, OSel.join, runO, runZ, runJ, id, if_true, if_false, Bool.false_eq_true, Bool.not_true, Bool.not_false, decide_eq_false q1, q2, Bool.true_and, Bool.false_and]
            | false => simp only [SM.bind, SM.ret, SM.lift, SM.lifx, SM.map, SM.andB, SM.orB, SM.callO, SM.borrow, SM.bor, SM.fail, SM.chain, SM.ite, PutI.ow, RFld.get, noX, bindX, Out.bind, OMem.get, OMem.set, OSub.map, OSel.get, OSel.rest, OSel.join, runO, runZ, runJ, id, if_true, if_false, Bool.false_eq_true, Bool.not_true, Bool.not_false, decide_eq_false q1, q2, Bool.true_and, hP, hw, if_pos s3, dec_len]
        · obtain ⟨a, ha, rfl⟩ := List.mem_map.mp hy
          obtain ⟨w, hw⟩ := hsome a ha
          rw [hval a w hw]
          simp only [SM.bind, SM.ret, SM.lift, SM.lifx, SM.map, SM.andB, SM.orB, SM.callO, SM.borrow, SM.bor, SM.fail, SM.chain, SM.ite, PutI.ow, RFld.get, noX, bindX, Out.bind, OMem.get, OMem.set, OSub.map, OSel.get, OSel.rest, OSel.join, runO, runZ, runJ, id, if_true, if_false, Bool.false_eq_true, Bool.not_true, Bool.not_false, hP, hw]
      subst hx2
      generalize hah : ((ps.map fun c => [c]).filter pq).map val = ah
      have s4 : f.length + [c].length ≤ sizeLine := by rw [sizeLine_eq]; simp; omega
      have hm1 : ∀ a, a ∈ dn' ++ [c] ↔ a ∈ dn' ∨ a = c := fun a => by simp
      simp only [SM.bind, SM.ret, SM.lift, SM.lifx, SM.map, SM.andB, SM.orB, SM.callO, SM.borrow, SM.bor, SM.fail, SM.chain, SM.ite, PutI.ow, RFld.get, noX, bindX, Out.bind, OMem.get, OMem.set, OSub.map, OSel.get, OSel.rest, OSel.join, runO, runZ, runJ, id, if_true, if_false, Bool.false_eq_true, Bool.not_true, Bool.not_false, eg]
      have add : ∃ dn : List Nat, d ++ [[c]] = dn.map (fun c : Nat => [c]) ∧ Bx (n + dn.length) x2 ∧ (∀ a ∈ f ++ [c], a ∈ dn) ∧ (f ++ [c]).length ≤ dn.length ∧ ∀ a ∈ dn, a ∉ f ++ [c] → ∀ one ∈ ps, one ≠ a → one ∉ f ++ [c] → ∀ v, P a = some v → P one = some v → v.length = 2 → False := by
        refine ⟨dn' ++ [c], by rw [List.map_append, e6]; rfl, by rw [List.length_append]; exact h2, fun a ha => ?_, ?_, fun a ha hab one ho hne hob w h1 h2 h3 => ?_⟩
        · have ha : a ∈ f ++ [c] := ha
          rcases List.mem_append.mp ha with z | z
          · exact (hm1 a).mpr (.inl (e3 a z))
          · exact (hm1 a).mpr (.inr (List.mem_singleton.mp z))
        · show (f ++ [c]).length ≤ (dn' ++ [c]).length
          rw [List.length_append, List.length_append]; omega
        · have hab : a ∉ f ++ [c] := hab
          have hob : one ∉ f ++ [c] := hob
          rcases (hm1 a).mp ha with z | z
          · exact e5 a z (fun q => hab (List.mem_append_left _ q)) one ho hne (fun q => hob (List.mem_append_left _ q)) w h1 h2 h3
          · exact hab (List.mem_append_right _ (by rw [z]; simp))
      by_cases q0 : g = 0
      · simp only [SM.bind, SM.ret, SM.lift, SM.lifx, SM.map, SM.andB, SM.orB, SM.callO, SM.borrow, SM.bor, SM.fail, SM.chain, SM.ite, PutI.ow, RFld.get, noX, bindX, Out.bind, OMem.get, OMem.set, OSub.map, OSel.get, OSel.rest, OSel.join, runO, runZ, runJ, id, if_true, if_false, Bool.false_eq_true, Bool.not_true, Bool.not_false, decide_eq_true q0, if_pos s4]
        exact ⟨_, _, rfl, add⟩
      · by_cases q2 : v.length = 2
        · by_cases q3 : v ∈ ah
          · simp only [SM.bind, SM.ret, SM.lift, SM.lifx, SM.map, SM.andB, SM.orB, SM.callO, SM.borrow, SM.bor, SM.fail, SM.chain, SM.ite, PutI.ow, RFld.get, noX, bindX, Out.bind, OMem.get, OMem.set, OSub.map, OSel.get, OSel.rest, OSel.join, runO, runZ, runJ, id, if_true, if_false, Bool.false_eq_true, Bool.not_true, Bool.not_false, decide_eq_false q0, hP, hv, if_pos s2, dec_len, decide_eq_true q2, decide_eq_true q3, if_pos s4]
            exact ⟨_, _, rfl, add⟩
          · simp only [SM.bind, SM.ret, SM.lift, SM.lifx, SM.map, SM.andB, SM.orB, SM.callO, SM.borrow, SM.bor, SM.fail, SM.chain, SM.ite, PutI.ow, RFld.get, noX, bindX, Out.bind, OMem.get, OMem.set, OSub.map, OSel.get, OSel.rest, OSel.join, runO, runZ, runJ, id, if_true, if_false, Bool.false_eq_true, Bool.not_true, Bool.not_false, decide_eq_false q0, hP, hv, if_pos s2, dec_len, decide_eq_true q2, decide_eq_false q3]
            refine ⟨_, _, rfl, dn' ++ [c], by rw [List.map_append, e6]; rfl, by rw [List.length_append]; exact h2, fun a ha => (hm1 a).mpr (.inl (e3 a ha)), ?_, fun a ha hab one ho hne hob w h1 h2' h3 => ?_⟩
            · show f.length ≤ (dn' ++ [c]).length
              rw [List.length_append]; omega
            · rcases (hm1 a).mp ha with z | z
              · exact e5 a z hab one ho hne hob w h1 h2' h3
              · subst z
                rw [hv] at h1
                cases h1
                apply q3
                rw [← hah]
                refine List.mem_map.mpr ⟨[one], List.mem_filter.mpr ⟨mem_sing.mpr ho, ?_⟩, hval one v h2'⟩
                have hob : one ∉ f := hob
                show (!decide ([one] = [a]) && (!inS [one] f && decide ((val [one]).length = 2))) = true
                rw [hval one v h2', inS_one, decide_eq_false hob, decide_eq_true h3, decide_eq_false (fun z => hne (by simpa using z))]
                rfl
        · simp only [SM.bind, SM.ret, SM.lift, SM.lifx, SM.map, SM.andB, SM.orB, SM.callO, SM.borrow, SM.bor, SM.fail, SM.chain, SM.ite, PutI.ow, RFld.get, noX, bindX, Out.bind, OMem.get, OMem.set, OSub.map, OSel.get, OSel.rest, OSel.join, runO, runZ, runJ, id, if_true, if_false, Bool.false_eq_true, Bool.not_true, Bool.not_false, decide_eq_false q0, hP, hv, if_pos s2, dec_len, decide_eq_false q2]
          refine ⟨_, _, rfl, dn' ++ [c], by rw [List.map_append, e6]; rfl, by rw [List.length_append]; exact h2, fun a ha => (hm1 a).mpr (.inl (e3 a ha)), ?_, fun a ha hab one ho hne hob w h1 h2' h3 => ?_⟩
          · show f.length ≤ (dn' ++ [c]).length
            rw [List.length_append]; omega
          · rcases (hm1 a).mp ha with z | z
            · exact e5 a z hab one ho hne hob w h1 h2' h3
            · subst z
              rw [hv] at h1
              cases h1
              exact q2 h3
  obtain ⟨b', o', e, e2, e3, e4, e5⟩ := hx
  subst e
  simp only [SM.bind, SM.ret, SM.lift, SM.lifx, SM.map, SM.andB, SM.orB, SM.callO, SM.borrow, SM.bor, SM.fail, SM.chain, SM.ite, PutI.ow, RFld.get, noX, bindX, Out.bind, OMem.get, OMem.set, OSub.map, OSel.get, OSel.rest, OSel.join, runO, runZ, runJ, id, if_true, if_false, Bool.false_eq_true, Bool.not_true, Bool.not_false]
  refine ⟨_, _, rfl, ⟨fun c hc => hsome c (e3 c hc), fun c d v h1 h2 h3 h4 h5 => ?_⟩, by omega, e2⟩
  apply Classical.byContradiction
  intro hcd
  have hcp : c ∈ ps := Classical.byContradiction fun z => by rw [hnone c z] at h1; cases h1
  have hdp : d ∈ ps := Classical.byContradiction fun z => by rw [hnone d z] at h2; cases h2
  exact e5 c hcp h4 d hdp (fun z => hcd z.symm) h5 v h1 h2 h3
end K

namespace K
open PySem PySem.Spec PyProof.Rows L2 Mi Pb
theorem eraseIdx_map' {α β : Type} (f : α → β) : ∀ (l : List α) (k : Nat), (l.map f).eraseIdx k = (l.eraseIdx k).map f
  | [], k => by simp
  | a :: l, 0 => rfl
  | a :: l, k + 1 => by
    show f a :: (l.map f).eraseIdx k = f a :: (l.eraseIdx k).map f
    rw [eraseIdx_map' f l k]
theorem cons_eraseIdx_perm {α : Type} : ∀ {l : List α} {k : Nat} (h : k < l.length), (l[k] :: l.eraseIdx k).Perm l
  | a :: l, 0, _ => .refl _
  | a :: l, k + 1, h => by
    show (l[k]'(by simpa using h) :: a :: l.eraseIdx k).Perm (a :: l)
    exact (List.Perm.swap _ _ _).trans ((cons_eraseIdx_perm (l := l) (k := k) (by simpa using h)).cons a)
variable (K : PySem.W.Frag)

theorem m_turned_i {n : Nat} {b : List Int} (h : Bx n b) (hn : n < 2 ^ 19) {x : List (List Nat × Int)} {ks : List Nat} {f : Nat → Int} (hk : x.map (·.1) = ks.map fun c => [c]) (hnd : ks.Nodup) (hkl : ks.length ≤ 30) (hks : ∀ c ∈ ks, c < 1114112) (hf : ∀ c ∈ ks, dget [c] x = some (f c)) :
    ∃ (ls : List Nat) (y : List Int), r__law_turned_i K b (x, ()) = some (.ok (mk1 ls f), y) ∧ ls.Perm ks ∧ Bx (n + ks.length) y := by
  unfold r__law_turned_i d__law_turned_i
  simp only [SM.bind, SM.ret, SM.lift, SM.lifx, SM.map, SM.andB, SM.orB, SM.callO, SM.borrow, SM.bor, SM.fail, SM.chain, SM.ite, PutI.ow, RFld.get, noX, bindX, Out.bind, OMem.get, OMem.set, OSub.map, OSel.get, OSel.rest, OSel.join, runO, runZ, runJ, id, if_true, if_false, Bool.false_eq_true, Bool.not_true, Bool.not_false, hk, PutI.ow]
  generalize hE : whileS _ _ _ _ _ _ = E
  have hx : ∃ (b' : Unit) (o' : List (List Nat × Int) × List (List Nat) × List Int × Unit), E = some (.nxt (b', o')) ∧ ∃ ls, o'.1 = mk1 ls f ∧ ls.Perm ks ∧ Bx (n + ks.length) o'.2.2.1 := by
    rw [← hE]
    refine whileS_inv (os := [(3, tOwnD tInt), (2, tOwn tStr), (0, tOwn tInt)]) (fun (_ : Unit) (o : List (List Nat × Int) × List (List Nat) × List Int × Unit) => ∃ lf dn : List Nat, o.2.1 = lf.map (fun c : Nat => [c]) ∧ o.1 = mk1 dn f ∧ (dn ++ lf).Perm ks ∧ Bx (n + dn.length) o.2.2.1) (fun (_ : Unit) (o : List (List Nat × Int) × List (List Nat) × List Int × Unit) => o.2.1.length) (fun (_ : Unit) (o : List (List Nat × Int) × List (List Nat) × List Int × Unit) => ∃ ls, o.1 = mk1 ls f ∧ ls.Perm ks ∧ Bx (n + ks.length) o.2.2.1) (fun (_ : Unit) (o : List (List Nat × Int) × List (List Nat) × List Int × Unit) hI => ?_) _ _ _ ⟨ks, [], rfl, rfl, .refl _, h⟩ ?_
    · obtain ⟨fd, left, bx, u⟩ := o
      obtain ⟨lf, dn, h1, h2, h3, h4⟩ := hI
      have h1 : left = lf.map (fun c : Nat => [c]) := h1
      have h2 : fd = mk1 dn f := h2
      have h4 : Bx (n + dn.length) bx := h4
      have hlen := h3.length_eq
      rw [List.length_append] at hlen
      have hlm : ∀ c ∈ lf, c ∈ ks := fun c hc => h3.mem_iff.mp (List.mem_append_right _ hc)
      have hok : okL left = true := by
        rw [h1]
        refine List.all_eq_true.mpr fun y hy => ?_
        obtain ⟨c, hc, rfl⟩ := List.mem_map.mp hy
        exact List.all_eq_true.mpr fun a ha => by rw [List.mem_singleton.mp ha]; exact decide_eq_true (hks c (hlm c hc))
      by_cases hl : lf = []
      · left
        have hl' : left = [] := by rw [h1, hl]; rfl
        refine ⟨(fd, left, bx, u), ?_, dn, h2, ?_, ?_⟩
        · simp only [SM.bind, SM.ret, SM.lift, SM.lifx, SM.map, SM.andB, SM.orB, SM.callO, SM.borrow, SM.bor, SM.fail, SM.chain, SM.ite, PutI.ow, RFld.get, noX, bindX, Out.bind, OMem.get, OMem.set, OSub.map, OSel.get, OSel.rest, OSel.join, runO, runZ, runJ, id, if_true, if_false, Bool.false_eq_true, Bool.not_true, Bool.not_false, hok, hl', and_self, decide_true]
          subst hl'
          rfl
        · rw [hl, List.append_nil] at h3; exact h3
        · have : dn.length = ks.length := by rw [hl] at hlen; simpa using hlen
          rw [← this]; exact h4
      · right
        have hl' : ¬ left = [] := fun z => hl (List.map_eq_nil_iff.mp (h1.symm.trans z))
        have hpos := List.length_pos_iff.mpr hl
        have hll : left.length = lf.length := by rw [h1, List.length_map]
        obtain ⟨d, y, e, d0, d1, h5⟩ := h4.take (K := K) (by omega) (m := (left.length : Int)) (by omega) (by omega)
        have hdl : d.toNat < lf.length := by omega
        have hpop : popO left d = some ([lf[d.toNat]], (lf.eraseIdx d.toNat).map fun c : Nat => [c]) := by
          unfold popO
          rw [if_pos ⟨d0, by omega⟩, h1, List.getElem?_map, List.getElem?_eq_getElem hdl, eraseIdx_map']
          rfl
        have hcm : lf[d.toNat] ∈ lf := List.getElem_mem hdl
        have hperm : (lf[d.toNat] :: lf.eraseIdx d.toNat).Perm lf := cons_eraseIdx_perm hdl
        have hel : (lf.eraseIdx d.toNat).length + 1 = lf.length := by rw [List.length_eraseIdx_of_lt hdl]; omega
        generalize lf[d.toNat] = c at *
        have hcd : c ∉ dn := fun z => by
          have := (h3.nodup_iff.mpr hnd)
          rw [List.nodup_append] at this
          exact this.2.2 c z c hcm rfl
        have hsz : fd.length < sizeLine := by rw [h2, mk1_len, sizeLine_eq]; omega
        have hput : dput [c] (f c) fd = mk1 (dn ++ [c]) f := by rw [h2]; exact mk1_snoc hcd
        refine ⟨(fd, left, bx, u), ?_, (), (mk1 (dn ++ [c]) f, (lf.eraseIdx d.toNat).map (fun c : Nat => [c]), y, u), ?_, ⟨lf.eraseIdx d.toNat, dn ++ [c], rfl, rfl, ?_, ?_⟩, ?_⟩
        · simp only [SM.bind, SM.ret, SM.lift, SM.lifx, SM.map, SM.andB, SM.orB, SM.callO, SM.borrow, SM.bor, SM.fail, SM.chain, SM.ite, PutI.ow, RFld.get, noX, bindX, Out.bind, OMem.get, OMem.set, OSub.map, OSel.get, OSel.rest, OSel.join, runO, runZ, runJ, id, if_true, if_false, Bool.false_eq_true, Bool.not_true, Bool.not_false, hok, and_self, decide_eq_false hl']
        · simp only [SM.bind, SM.ret, SM.lift, SM.lifx, SM.map, SM.andB, SM.orB, SM.callO, SM.borrow, SM.bor, SM.fail, SM.chain, SM.ite, PutI.ow, RFld.get, noX, bindX, Out.bind, OMem.get, OMem.set, OSub.map, OSel.get, OSel.rest, OSel.join, runO, runZ, runJ, id, if_true, if_false, Bool.false_eq_true, Bool.not_true, Bool.not_false, e, SM.methO]
          rw [hpop]
          simp only [SM.bind, SM.ret, SM.lift, SM.lifx, SM.map, SM.andB, SM.orB, SM.callO, SM.borrow, SM.bor, SM.fail, SM.chain, SM.ite, PutI.ow, RFld.get, noX, bindX, Out.bind, OMem.get, OMem.set, OSub.map, OSel.get, OSel.rest, OSel.join, runO, runZ, runJ, id, if_true, if_false, Bool.false_eq_true, Bool.not_true, Bool.not_false, hf c (hlm c hcm), if_pos hsz, hput]
        · rw [List.append_assoc]
          exact (hperm.append_left dn).trans h3
        · show Bx (n + (dn ++ [c]).length) y
          rw [List.length_append]
          exact h5
        · show ((lf.eraseIdx d.toNat).map (fun c : Nat => [c])).length < left.length
          rw [List.length_map, hll]
          omega
    · show (ks.map (fun c : Nat => [c])).length < 1000000000
      rw [List.length_map]
      omega
  obtain ⟨b', o', e, ls, h1, h2, h3⟩ := hx
  subst e
  simp only [SM.bind, SM.ret, SM.lift, SM.lifx, SM.map, SM.andB, SM.orB, SM.callO, SM.borrow, SM.bor, SM.fail, SM.chain, SM.ite, PutI.ow, RFld.get, noX, bindX, Out.bind, OMem.get, OMem.set, OSub.map, OSel.get, OSel.rest, OSel.join, runO, runZ, runJ, id, if_true, if_false, Bool.false_eq_true, Bool.not_true, Bool.not_false, h1]
  exact ⟨ls, _, rfl, h2, h3⟩

theorem m_turned_s {n : Nat} {b : List Int} (h : Bx n b) (hn : n < 2 ^ 19) {x : List (List Nat × (List Nat))} {ks : List Nat} {f : Nat → (List Nat)} (hk : x.map (·.1) = ks.map fun c => [c]) (hnd : ks.Nodup) (hkl : ks.length ≤ 30) (hks : ∀ c ∈ ks, c < 1114112) (hf : ∀ c ∈ ks, dget [c] x = some (f c)) :
    ∃ (ls : List Nat) (y : List Int), r__law_turned_s K b (x, ()) = some (.ok (mk1 ls f), y) ∧ ls.Perm ks ∧ Bx (n + ks.length) y := by
  unfold r__law_turned_s d__law_turned_s
  simp only [SM.bind, SM.ret, SM.lift, SM.lifx, SM.map, SM.andB, SM.orB, SM.callO, SM.borrow, SM.bor, SM.fail, SM.chain, SM.ite, PutI.ow, RFld.get, noX, bindX, Out.bind, OMem.get, OMem.set, OSub.map, OSel.get, OSel.rest, OSel.join, runO, runZ, runJ, id, if_true, if_false, Bool.false_eq_true, Bool.not_true, Bool.not_false, hk, PutI.ow]
  generalize hE : whileS _ _ _ _ _ _ = E
  have hx : ∃ (b' : Unit) (o' : List (List Nat × (List Nat)) × List (List Nat) × List Int × Unit), E = some (.nxt (b', o')) ∧ ∃ ls, o'.1 = mk1 ls f ∧ ls.Perm ks ∧ Bx (n + ks.length) o'.2.2.1 := by
    rw [← hE]
    refine whileS_inv (os := [(3, tOwnD tStr), (2, tOwn tStr), (0, tOwn tInt)]) (fun (_ : Unit) (o : List (List Nat × (List Nat)) × List (List Nat) × List Int × Unit) => ∃ lf dn : List Nat, o.2.1 = lf.map (fun c : Nat => [c]) ∧ o.1 = mk1 dn f ∧ (dn ++ lf).Perm ks ∧ Bx (n + dn.length) o.2.2.1) (fun (_ : Unit) (o : List (List Nat × (List Nat)) × List (List Nat) × List Int × Unit) => o.2.1.length) (fun (_ : Unit) (o : List (List Nat × (List Nat)) × List (List Nat) × List Int × Unit) => ∃ ls, o.1 = mk1 ls f ∧ ls.Perm ks ∧ Bx (n + ks.length) o.2.2.1) (fun (_ : Unit) (o : List (List Nat × (List Nat)) × List (List Nat) × List Int × Unit) hI => ?_) _ _ _ ⟨ks, [], rfl, rfl, .refl _, h⟩ ?_
    · obtain ⟨fd, left, bx, u⟩ := o
      obtain ⟨lf, dn, h1, h2, h3, h4⟩ := hI
      have h1 : left = lf.map (fun c : Nat => [c]) := h1
      have h2 : fd = mk1 dn f := h2
      have h4 : Bx (n + dn.length) bx := h4
      have hlen := h3.length_eq
      rw [List.length_append] at hlen
      have hlm : ∀ c ∈ lf, c ∈ ks := fun c hc => h3.mem_iff.mp (List.mem_append_right _ hc)
      have hok : okL left = true := by
        rw [h1]
        refine List.all_eq_true.mpr fun y hy => ?_
        obtain ⟨c, hc, rfl⟩ := List.mem_map.mp hy
        exact List.all_eq_true.mpr fun a ha => by rw [List.mem_singleton.mp ha]; exact decide_eq_true (hks c (hlm c hc))
      by_cases hl : lf = []
      · left
        have hl' : left = [] := by rw [h1, hl]; rfl
        refine ⟨(fd, left, bx, u), ?_, dn, h2, ?_, ?_⟩
        · simp only [SM.bind, SM.ret, SM.lift, SM.lifx, SM.map, SM.andB, SM.orB, SM.callO, SM.borrow, SM.bor, SM.fail, SM.chain, SM.ite, PutI.ow, RFld.get, noX, bindX, Out.bind, OMem.get, OMem.set, OSub.map, OSel.get, OSel.rest, OSel.join, runO, runZ, runJ, id, if_true, if_false, Bool.false_eq_true, Bool.not_true, Bool.not_false, hok, hl', and_self, decide_true]
          subst hl'
          rfl
        · rw [hl, List.append_nil] at h3; exact h3
        · have : dn.length = ks.length := by rw [hl] at hlen; simpa using hlen
          rw [← this]; exact h4
      · right
        have hl' : ¬ left = [] := fun z => hl (List.map_eq_nil_iff.mp (h1.symm.trans z))
        have hpos := List.length_pos_iff.mpr hl
        have hll : left.length = lf.length := by rw [h1, List.length_map]
        obtain ⟨d, y, e, d0, d1, h5⟩ := h4.take (K := K) (by omega) (m := (left.length : Int)) (by omega) (by omega)
        have hdl : d.toNat < lf.length := by omega
        have hpop : popO left d = some ([lf[d.toNat]], (lf.eraseIdx d.toNat).map fun c : Nat => [c]) := by
          unfold popO
          rw [if_pos ⟨d0, by omega⟩, h1, List.getElem?_map, List.getElem?_eq_getElem hdl, eraseIdx_map']
          rfl
        have hcm : lf[d.toNat] ∈ lf := List.getElem_mem hdl
        have hperm : (lf[d.toNat] :: lf.eraseIdx d.toNat).Perm lf := cons_eraseIdx_perm hdl
        have hel : (lf.eraseIdx d.toNat).length + 1 = lf.length := by rw [List.length_eraseIdx_of_lt hdl]; omega
        generalize lf[d.toNat] = c at *
        have hcd : c ∉ dn := fun z => by
          have := (h3.nodup_iff.mpr hnd)
          rw [List.nodup_append] at this
          exact this.2.2 c z c hcm rfl
        have hsz : fd.length < sizeLine := by rw [h2, mk1_len, sizeLine_eq]; omega
        have hput : dput [c] (f c) fd = mk1 (dn ++ [c]) f := by rw [h2]; exact mk1_snoc hcd
        refine ⟨(fd, left, bx, u), ?_, (), (mk1 (dn ++ [c]) f, (lf.eraseIdx d.toNat).map (fun c : Nat => [c]), y, u), ?_, ⟨lf.eraseIdx d.toNat, dn ++ [c], rfl, rfl, ?_, ?_⟩, ?_⟩
        · simp only [SM.bind, SM.ret, SM.lift, SM.lifx, SM.map, SM.andB, SM.orB, SM.callO, SM.borrow, SM.bor, SM.fail, SM.chain, SM.ite, PutI.ow, RFld.get, noX, bindX, Out.bind, OMem.get, OMem.set, OSub.map, OSel.get, OSel.rest, OSel.join, runO, runZ, runJ, id, if_true, if_false, Bool.false_eq_true, Bool.not_true, Bool.not_false, hok, and_self, decide_eq_false hl']
        · simp only [SM.bind, SM.ret, SM.lift, SM.lifx, SM.map, SM.andB, SM.orB, SM.callO, SM.borrow, SM.bor, SM.fail, SM.chain, SM.ite, PutI.ow, RFld.get, noX, bindX, Out.bind, OMem.get, OMem.set, OSub.map, OSel.get, OSel.rest, OSel.join, runO, runZ, runJ, id, if_true, if_false, Bool.false_eq_true, Bool.not_true, Bool.not_false, e, SM.methO]
          rw [hpop]
          simp only [SM.bind, SM.ret, SM.lift, SM.lifx, SM.map, SM.andB, SM.orB, SM.callO, SM.borrow, SM.bor, SM.fail, SM.chain, SM.ite, PutI.ow, RFld.get, noX, bindX, Out.bind, OMem.get, OMem.set, OSub.map, OSel.get, OSel.rest, OSel.join, runO, runZ, runJ, id, if_true, if_false, Bool.false_eq_true, Bool.not_true, Bool.not_false, hf c (hlm c hcm), if_pos hsz, hput]
        · rw [List.append_assoc]
          exact (hperm.append_left dn).trans h3
        · show Bx (n + (dn ++ [c]).length) y
          rw [List.length_append]
          exact h5
        · show ((lf.eraseIdx d.toNat).map (fun c : Nat => [c])).length < left.length
          rw [List.length_map, hll]
          omega
    · show (ks.map (fun c : Nat => [c])).length < 1000000000
      rw [List.length_map]
      omega
  obtain ⟨b', o', e, ls, h1, h2, h3⟩ := hx
  subst e
  simp only [SM.bind, SM.ret, SM.lift, SM.lifx, SM.map, SM.andB, SM.orB, SM.callO, SM.borrow, SM.bor, SM.fail, SM.chain, SM.ite, PutI.ow, RFld.get, noX, bindX, Out.bind, OMem.get, OMem.set, OSub.map, OSel.get, OSel.rest, OSel.join, runO, runZ, runJ, id, if_true, if_false, Bool.false_eq_true, Bool.not_true, Bool.not_false, h1]
  exact ⟨ls, _, rfl, h2, h3⟩
end K

namespace K
open PySem PySem.Spec PyProof.Rows L2 Mi Pb
variable (K : PySem.W.Frag)
theorem mk1_up {A : Type} {ds : List Nat} {f : Nat → A} {c : Nat} {x : A} (h : c ∉ ds) : dput [c] x (mk1 ds f) = mk1 (ds ++ [c]) (up f c x) := by
  have e : mk1 ds f = mk1 ds (up f c x) := List.map_congr_left fun d hd => by
    have : d ≠ c := fun z => h (z ▸ hd)
    rw [up_ne this]
  rw [e]
  have z := mk1_snoc (f := up f c x) h
  rw [up_same] at z
  exact z
theorem mk1_reput {A : Type} {ds : List Nat} {f : Nat → A} {c : Nat} {x : A} (h : c ∈ ds) : dput [c] x (mk1 ds f) = mk1 ds (up f c x) := by
  unfold dput
  rw [mk1_has, decide_eq_true h]
  simp only [if_true]
  unfold mk1
  rw [List.map_map]
  refine List.map_congr_left fun d _ => ?_
  show (if [d] = [c] then ([d], x) else ([d], f d)) = ([d], up f c x d)
  unfold up
  by_cases e : d = c
  · subst e; simp
  · simp [e]
/-- a dict of parts -/
def pv (P : PF) (c : Nat) : List Nat := (P c).getD []
theorem pt_get {ps : List Nat} {P : PF} (h : ∀ c, c ∈ ps ↔ ∃ v, P c = some v) (c : Nat) : dget [c] (mk1 ps (pv P)) = P c := by
  rw [mk1_get]
  by_cases hc : c ∈ ps
  · obtain ⟨v, e⟩ := (h c).mp hc
    rw [if_pos hc, pv, e]; rfl
  · rw [if_neg hc]
    cases e : P c with
    | none => rfl
    | some v => exact absurd ((h c).mpr ⟨v, e⟩) hc
theorem pv_up {P : PF} {c : Nat} {v : List Nat} : up (pv P) c v = pv (up P c (some v)) := by
  funext d
  unfold up pv
  by_cases h : d = c <;> simp [h]
theorem ch_small : ∀ c ∈ CH, c < 1114112 := by decide
theorem span_ok : ∀ s ∈ [(1 : Int), 2, 3, 9], 1 ≤ s ∧ s ≤ 9 := by decide
theorem zo_ok : ∀ s ∈ [(0 : Int), 0, 1, 1, 1], s = 0 ∨ s = 1 := by decide
/-- the drawn plan -/
structure Pln (ks ps : List Nat) (C : Nat → Int) (P : PF) (rk : Nat → Nat) : Prop where
  V : Val ks C P rk
  pn : ps.Nodup
  pp : ∀ c, c ∈ ps ↔ ∃ v, P c = some v
theorem m_table {n : Nat} {b : List Int} (h : Bx n b) (hn : n + 300 < 2 ^ 18) {at_ cp : Int} (h1 : 1 ≤ at_) (h2 : 0 ≤ cp) (h30 : at_ + cp ≤ 30) :
    ∃ (ks ps : List Nat) (C : Nat → Int) (P : PF) (rk : Nat → Nat) (B : List Nat) (y : List Int), r__law_table K b (at_, cp, ()) = some (.ok (mk1 ks C, mk1 ps (pv P), B, ()), y) ∧ Pln ks ps C P rk ∧ (ks.length : Int) = at_ + cp ∧ (ps.length : Int) = cp ∧ Bar P B ∧ B.length ≤ 30 ∧ Bx (n + 300) y := by
  obtain ⟨chars, x1, e1, hnd, hch, hlen, b1⟩ := m_chars K h (by omega) (m := at_ + cp) (by omega) (by omega)
  obtain ⟨g, x2, e2, g0, g1, b2⟩ := b1.take (K := K) (by omega) (m := 4) (by decide) (by decide)
  obtain ⟨hg, eg⟩ := atI_lt (l := [(1 : Int), 2, 3, 9]) g0 g1
  obtain ⟨sp0, sp1⟩ := span_ok _ (List.getElem_mem hg)
  generalize [(1 : Int), 2, 3, 9][g.toNat] = sp at *
  obtain ⟨A, hA⟩ : ∃ A : Nat, at_ = A := ⟨at_.toNat, by omega⟩
  subst hA
  have hAl : A ≤ chars.length := by omega
  have c1 : cut chars none (some (A : Int)) = chars.take A := cut_upto hAl
  have c2 : cut chars (some (A : Int)) none = chars.drop A := cut_from hAl
  have hnd' : (chars.take A ++ chars.drop A).Nodup := by rw [List.take_append_drop]; exact hnd
  have l1 : (chars.take A).length = A := by rw [List.length_take]; omega
  have l2 : ((chars.drop A).length : Int) = cp := by rw [List.length_drop]; omega
  have m1 : ∀ c ∈ chars.take A, c ∈ CH := fun c hc => hch c (List.mem_of_mem_take hc)
  have m2 : ∀ c ∈ chars.drop A, c ∈ CH := fun c hc => hch c (List.mem_of_mem_drop hc)
  unfold r__law_table d__law_table
  simp only [SM.bind, SM.ret, SM.lift, SM.lifx, SM.map, SM.andB, SM.orB, SM.callO, SM.borrow, SM.bor, SM.fail, SM.chain, SM.ite, PutI.ow, RFld.get, noX, bindX, Out.bind, OMem.get, OMem.set, OSub.map, OSel.get, OSel.rest, OSel.join, runO, runZ, runJ, id, if_true, if_false, Bool.false_eq_true, Bool.not_true, Bool.not_false, e1, e2, eg, c1, c2]
  generalize chars.take A = k1 at *
  generalize chars.drop A = k2 at *
  have hx1 : ∃ (o' : List (List Nat × List Nat) × List (List Nat × Int) × List Int × Unit), True := ⟨([], [], [], ()), trivial⟩
  generalize hE : forS _ k1 _ _ = E
  have hx : ∃ (o' : List (List Nat × List Nat) × List (List Nat × Int) × List Int × Unit), E = some (.nxt ((), o')) ∧ ∃ C, o'.1 = [] ∧ o'.2.1 = mk1 k1 C ∧ (∀ c ∈ k1, 0 ≤ C c ∧ C c ≤ 9) ∧ Bx (n + 3 + 2 * k1.length) o'.2.2.1 := by
    rw [← hE]
    refine forS_preU (os := [(6, tOwnD tStr), (5, tOwnD tInt), (0, tOwn tInt)]) (P := fun d (o : List (List Nat × List Nat) × List (List Nat × Int) × List Int × Unit) => ∃ C, o.1 = [] ∧ o.2.1 = mk1 d C ∧ (∀ c ∈ d, 0 ≤ C c ∧ C c ≤ 9) ∧ Bx (n + 3 + 2 * d.length) o.2.2.1) k1 _ (fun d c r (o : List (List Nat × List Nat) × List (List Nat × Int) × List Int × Unit) hs hI => ?_) ⟨fun _ => 0, rfl, rfl, (fun _ z => nomatch z), b2⟩
    obtain ⟨pt, cl, bx, u⟩ := o
    obtain ⟨C, i1, i2, i3, i4⟩ := hI
    have i1 : pt = [] := i1
    have i2 : cl = mk1 d C := i2
    have i4 : Bx (n + 3 + 2 * d.length) bx := i4
    have hdl : d.length + 1 ≤ k1.length := by rw [hs, List.length_append, List.length_cons]; omega
    have hcd : c ∉ d := fun z => by
      rw [hs, List.append_assoc, List.nodup_append] at hnd'
      exact hnd'.2.2 c z c (by simp) rfl
    obtain ⟨z, y1, f1, z0, z1, j1⟩ := i4.take (K := K) (by omega) (m := 5) (by decide) (by decide)
    obtain ⟨hz, ez⟩ := atI_lt (l := [(0 : Int), 0, 1, 1, 1]) z0 z1
    have hzo := zo_ok _ (List.getElem_mem hz)
    generalize [(0 : Int), 0, 1, 1, 1][z.toNat] = s at *
    obtain ⟨w, y2, f2, w0, w1, j2⟩ := j1.take (K := K) (by omega) (m := sp) (by omega) (by omega)
    have q1 : CMul s (1 + w) := mul_ok (by omega)
    have q2 : cl.length < sizeLine := by rw [i2, mk1_len, sizeLine_eq]; omega
    refine ⟨(), (pt, dput [c] (s * (1 + w)) cl, y2, u), ?_, up C c (s * (1 + w)), i1, ?_, fun a ha => ?_, ?_⟩
    · simp only [SM.bind, SM.ret, SM.lift, SM.lifx, SM.map, SM.andB, SM.orB, SM.callO, SM.borrow, SM.bor, SM.fail, SM.chain, SM.ite, PutI.ow, RFld.get, noX, bindX, Out.bind, OMem.get, OMem.set, OSub.map, OSel.get, OSel.rest, OSel.join, runO, runZ, runJ, id, if_true, if_false, Bool.false_eq_true, Bool.not_true, Bool.not_false, f1, ez, f2, if_pos q1]
      exact if_pos q2
    · show dput [c] (s * (1 + w)) cl = _
      rw [i2]
      exact mk1_up hcd
    · by_cases hac : a = c
      · subst hac
        rw [up_same]
        rcases hzo with rfl | rfl <;> omega
      · rw [up_ne hac]
        rcases List.mem_append.mp ha with q | q
        · exact i3 a q
        · exact absurd (List.mem_singleton.mp q) hac
    · show Bx (n + 3 + 2 * (d ++ [c]).length) y2
      rw [List.length_append]
      exact j2
  obtain ⟨⟨pt0, cl0, bx0, u0⟩, e3, C0, i1, i2, i3, i4⟩ := hx
  have i1 : pt0 = [] := i1
  have i2 : cl0 = mk1 k1 C0 := i2
  have i4 : Bx (n + 3 + 2 * k1.length) bx0 := i4
  subst i1
  subst e3
  simp only [SM.bind, SM.ret, SM.lift, SM.lifx, SM.map, SM.andB, SM.orB, SM.callO, SM.borrow, SM.bor, SM.fail, SM.chain, SM.ite, PutI.ow, RFld.get, noX, bindX, Out.bind, OMem.get, OMem.set, OSub.map, OSel.get, OSel.rest, OSel.join, runO, runZ, runJ, id, if_true, if_false, Bool.false_eq_true, Bool.not_true, Bool.not_false]
  have hk1 : k1 ≠ [] := fun z => by rw [z] at l1; simp at l1; omega
  generalize hE2 : forS _ k2 _ _ = E2
  have hx2 : ∃ (o' : List (List Nat × List Nat) × List (List Nat × Int) × List Int × Unit), E2 = some (.nxt ((), o')) ∧ ∃ C P rk, o'.1 = mk1 k2 (pv P) ∧ o'.2.1 = mk1 (k1 ++ k2) C ∧ Pln (k1 ++ k2) k2 C P rk ∧ Bx (n + 3 + 2 * k1.length + 5 * k2.length) o'.2.2.1 := by
    rw [← hE2]
    refine forS_preU (os := [(6, tOwnD tStr), (5, tOwnD tInt), (0, tOwn tInt)]) (P := fun d (o : List (List Nat × List Nat) × List (List Nat × Int) × List Int × Unit) => ∃ C P rk, o.1 = mk1 d (pv P) ∧ o.2.1 = mk1 (k1 ++ d) C ∧ Pln (k1 ++ d) d C P rk ∧ Bx (n + 3 + 2 * k1.length + 5 * d.length) o.2.2.1) k2 _ (fun d c r (o : List (List Nat × List Nat) × List (List Nat × Int) × List Int × Unit) hs hI => ?_) ⟨C0, fun _ => none, fun _ => 0, rfl, ?_, ⟨?_, List.nodup_nil, fun c => ⟨(fun z => nomatch z), fun ⟨v, z⟩ => nomatch z⟩⟩, i4⟩
    rotate_left
    · show cl0 = mk1 (k1 ++ []) C0
      rw [List.append_nil]; exact i2
    · rw [List.append_nil]
      exact val_atoms (List.nodup_append.mp hnd').1 m1 (by omega) hk1 i3
    obtain ⟨pt, cl, bx, u⟩ := o
    obtain ⟨C, P, rk, i1, i2, PL, i4⟩ := hI
    have i1 : pt = mk1 d (pv P) := i1
    have i2 : cl = mk1 (k1 ++ d) C := i2
    have i4 : Bx (n + 3 + 2 * k1.length + 5 * d.length) bx := i4
    have V := PL.V
    have hdl : d.length + 1 ≤ k2.length := by rw [hs, List.length_append, List.length_cons]; omega
    have hcd : c ∉ k1 ++ d := fun z => by
      rw [hs, ← List.append_assoc, List.nodup_append] at hnd'
      exact hnd'.2.2 c z c (by simp) rfl
    have hcd' : c ∉ d := fun z => hcd (List.mem_append_right _ z)
    have hcch : c ∈ CH := m2 c (by rw [hs]; simp)
    generalize hks : k1 ++ d = ks at *
    have hkl : ks.length = k1.length + d.length := by rw [← hks, List.length_append]
    have hkey : cl.map (·.1) = ks.map fun c : Nat => [c] := by rw [i2, mk1_keys]
    have hkl2 : (cl.map (·.1)).length = ks.length := by rw [hkey, List.length_map]
    have hkpos : 0 < ks.length := by have := List.length_pos_iff.mpr hk1; omega
    have hat : ∀ z : Int, 0 ≤ z → z < (ks.length : Int) → ∃ a ∈ ks, atI (cl.map (·.1)) z = some [a] := fun z z0 z1 => by
      obtain ⟨hz, ez⟩ := atI_lt (l := cl.map (·.1)) z0 (by rw [hkl2]; exact z1)
      have hm := List.getElem_mem hz
      generalize (cl.map (·.1))[z.toNat] = w at hm ez
      rw [hkey] at hm
      obtain ⟨a, ha, e⟩ := List.mem_map.mp hm
      exact ⟨a, ha, by rw [ez, ← e]⟩
    obtain ⟨z1, y1, f1, z10, z11, j1⟩ := i4.take (K := K) (by omega) (m := ((cl.map (·.1)).length : Int)) (by omega) (by omega)
    obtain ⟨a, ha, ea⟩ := hat z1 z10 (by rw [hkl2] at z11; exact z11)
    obtain ⟨z2, y2, f2, z20, z21, j2⟩ := j1.take (K := K) (by omega) (m := ((cl.map (·.1)).length : Int)) (by omega) (by omega)
    obtain ⟨a', ha', ea'⟩ := hat z2 z20 (by rw [hkl2] at z21; exact z21)
    obtain ⟨z3, y3, f3, z30, z31, j3⟩ := j2.take (K := K) (by omega) (m := 6) (by decide) (by decide)
    obtain ⟨v, hsel, hvm, hv0, hv2, hvh⟩ : ∃ v : List Nat, (∀ o : List (List Nat × List Nat) × List (List Nat × Int) × List Int × Unit, (if decide (z3 = 0) = true then SM.ret [a] else SM.bind (SM.ret [a]) fun x => SM.bind (SM.ret [a']) fun y => SM.lift (if x.length + y.length ≤ sizeLine then some (x ++ y) else none)) o = some (.ok v, o)) ∧ (∀ e ∈ v, e ∈ ks) ∧ v ≠ [] ∧ v.length ≤ 2 ∧ v.headD 0 = a := by
      by_cases q : z3 = 0
      · exact ⟨[a], fun o => by simp only [SM.bind, SM.ret, SM.lift, SM.lifx, SM.map, SM.andB, SM.orB, SM.callO, SM.borrow, SM.bor, SM.fail, SM.chain, SM.ite, PutI.ow, RFld.get, noX, bindX, Out.bind, OMem.get, OMem.set, OSub.map, OSel.get, OSel.rest, OSel.join, runO, runZ, runJ, id, if_true, if_false, Bool.false_eq_true, Bool.not_true, Bool.not_false, decide_eq_true q], fun e he => by rw [List.mem_singleton.mp he]; exact ha, by simp, by simp, rfl⟩
      · have q1 : [a].length + [a'].length ≤ sizeLine := by rw [sizeLine_eq]; simp
        refine ⟨[a, a'], fun o => by simp only [SM.bind, SM.ret, SM.lift, SM.lifx, SM.map, SM.andB, SM.orB, SM.callO, SM.borrow, SM.bor, SM.fail, SM.chain, SM.ite, PutI.ow, RFld.get, noX, bindX, Out.bind, OMem.get, OMem.set, OSub.map, OSel.get, OSel.rest, OSel.join, runO, runZ, runJ, id, if_true, if_false, Bool.false_eq_true, Bool.not_true, Bool.not_false, decide_eq_false q, if_pos q1, List.cons_append, List.nil_append], fun e he => ?_, by simp, by simp, rfl⟩
        simp only [List.mem_cons, List.not_mem_nil, or_false] at he
        rcases he with rfl | rfl
        · exact ha
        · exact ha'
    have s1 : pt.length < sizeLine := by rw [i1, mk1_len, sizeLine_eq]; omega
    have p1 : dput [c] v pt = mk1 (d ++ [c]) (pv (up P c (some v))) := by rw [i1, mk1_up hcd', pv_up]
    have hpp : ∀ w : List Nat, ∀ e, e ∈ d ++ [c] ↔ ∃ u, up P c (some w) e = some u := fun w e => by
      by_cases q : e = c
      · subst q; rw [up_same]; simp
      · rw [up_ne q, ← PL.pp e]; simp [q]
    have hsm : ∀ w : List Nat, (∀ e ∈ w, e ∈ ks) → w.length ≤ 2 → ∀ e u, up P c (some w) e = some u → u.length ≤ 2 ∧ ∀ a ∈ u, a < 1114112 := fun w hw hw2 e u he => by
      by_cases q : e = c
      · subst q; rw [up_same] at he; cases he
        exact ⟨hw2, fun a ha => ch_small a (V.ch a (hw a ha))⟩
      · rw [up_ne q] at he
        exact ⟨V.two e u he, fun a ha => ch_small a (V.ch a (V.mem e u he a ha))⟩
    have hlt : ks.length < 30 := by omega
    have R1 := rk_ext V hcd hv0 hvm hlt
    obtain ⟨ex1, ex2⟩ := ex_ext V hcd hv0 hvm hlt
    have hsum : ∀ w : List Nat, w.length ≤ 2 → (w.flatMap (ex P)).length ≤ 16 := fun w hw => by
      rw [flatMap_len]
      have : (w.map fun a => (ex P a).length).sum ≤ 8 * w.length := by
        clear hw
        induction w with
        | nil => exact Nat.le_refl _
        | cons a r ih =>
          rw [List.map_cons, List.sum_cons, List.length_cons]
          have := V.len a
          omega
      omega
    have at1 := m_atoms K (x := mk1 (d ++ [c]) (pv (up P c (some v)))) R1 (pt_get (hpp v)) (hsm v hvm hv2) (c := c) (ch_small c hcch) (by rw [ex2]; have := hsum v hv2; omega)
    have s2 : (ex (up P c (some v)) c).length ≤ sizeLine := small_len (by rw [ex2]; have := hsum v hv2; omega)
    simp only [SM.bind, SM.ret, SM.lift, SM.lifx, SM.map, SM.andB, SM.orB, SM.callO, SM.borrow, SM.bor, SM.fail, SM.chain, SM.ite, PutI.ow, RFld.get, noX, bindX, Out.bind, OMem.get, OMem.set, OSub.map, OSel.get, OSel.rest, OSel.join, runO, runZ, runJ, id, if_true, if_false, Bool.false_eq_true, Bool.not_true, Bool.not_false, f1, ea, f2, ea', f3, hsel]
    rw [if_pos (show List.length (α := List Nat × List Nat) pt < sizeLine from s1)]
    simp only [SM.bind, SM.ret, SM.lift, SM.lifx, SM.map, SM.andB, SM.orB, SM.callO, SM.borrow, SM.bor, SM.fail, SM.chain, SM.ite, PutI.ow, RFld.get, noX, bindX, Out.bind, OMem.get, OMem.set, OSub.map, OSel.get, OSel.rest, OSel.join, runO, runZ, runJ, id, if_true, if_false, Bool.false_eq_true, Bool.not_true, Bool.not_false, p1, at1, if_pos s2]
    generalize hmid : (if decide (8 < ((ex (up P c (some v)) c).length : Int)) = true then _ else _ : Option (Out _ _ _ _)) = mid
    obtain ⟨v2, hm, hwm, hw0, hw2, hw8⟩ : ∃ v2 : List Nat, mid = some (Out.nxt ((), (mk1 (d ++ [c]) (pv (up P c (some v2))), cl, y3, u))) ∧ (∀ e ∈ v2, e ∈ ks) ∧ v2 ≠ [] ∧ v2.length ≤ 2 ∧ (v2.flatMap (ex P)).length ≤ 8 := by
      rw [← hmid]
      by_cases q8 : 8 < ((ex (up P c (some v)) c).length : Int)
      · have s3 : (mk1 (d ++ [c]) (pv (up P c (some v)))).length < sizeLine := by rw [mk1_len, sizeLine_eq, List.length_append]; simp; omega
        have p2 : dput [c] [a] (mk1 (d ++ [c]) (pv (up P c (some v)))) = mk1 (d ++ [c]) (pv (up P c (some [a]))) := by
          rw [mk1_reput (by simp), pv_up]
          congr 2
          funext e
          unfold up
          by_cases q : e = c <;> simp [q]
        refine ⟨[a], ?_, fun e he => by rw [List.mem_singleton.mp he]; exact ha, by simp, by simp, by simp; exact V.len a⟩
        rw [decide_eq_true q8, p2]
        simp only [if_true]
        exact if_pos s3
      · refine ⟨v, ?_, hvm, hv0, hv2, by rw [← ex2]; omega⟩
        rw [decide_eq_false q8]
        rfl
    rw [hm]
    have R2 := rk_ext V hcd hw0 hwm hlt
    obtain ⟨ey1, ey2⟩ := ex_ext V hcd hw0 hwm hlt
    have at2 := m_atoms K (x := mk1 (d ++ [c]) (pv (up P c (some v2)))) R2 (pt_get (hpp v2)) (hsm v2 hwm hw2) (c := c) (ch_small c hcch) (by rw [ey2]; omega)
    have s4 : (ex (up P c (some v2)) c).length ≤ sizeLine := small_len (by rw [ey2]; omega)
    have fa : atI (ex (up P c (some v2)) c) 0 = some (fst (up P c (some v2)) c) := by
      have z := R2.fst_ex c
      cases hx : ex (up P c (some v2)) c with
      | nil => exact absurd hx (R2.ex_ne c)
      | cons e t => rw [hx] at z; rw [atI0]; simpa using z
    have fm : fst (up P c (some v2)) c ∈ ks := by
      have z : fst (up P c (some v2)) c ∈ ex (up P c (some v2)) c := List.mem_of_getElem? (R2.fst_ex c)
      rw [ey2] at z
      obtain ⟨e, he, hz⟩ := List.mem_flatMap.mp z
      exact V.R.ex_in (S := fun c => c ∈ ks) (fun c v e a ha => V.mem c v e a ha) e (hwm e he) _ hz
    have fg : dget [fst (up P c (some v2)) c] cl = some (C (fst (up P c (some v2)) c)) := by rw [i2, mk1_get, if_pos fm]
    have fc := V.cls _ fm
    generalize hlead : C (fst (up P c (some v2)) c) = lead at *
    simp only [SM.bind, SM.ret, SM.lift, SM.lifx, SM.map, SM.andB, SM.orB, SM.callO, SM.borrow, SM.bor, SM.fail, SM.chain, SM.ite, PutI.ow, RFld.get, noX, bindX, Out.bind, OMem.get, OMem.set, OSub.map, OSel.get, OSel.rest, OSel.join, runO, runZ, runJ, id, if_true, if_false, Bool.false_eq_true, Bool.not_true, Bool.not_false, at2, if_pos s4, fa, fg]
    have s5 : cl.length < sizeLine := by rw [i2, mk1_len, sizeLine_eq]; omega
    have fin : ∀ (x : Int) (y : List Int), 0 ≤ x ∧ x ≤ 9 → (x = 0 ↔ lead = 0) → Bx (n + 3 + 2 * k1.length + 5 * d.length + 5) y → ∃ C' P' rk', mk1 (d ++ [c]) (pv (up P c (some v2))) = mk1 (d ++ [c]) (pv P') ∧ dput [c] x cl = mk1 (k1 ++ (d ++ [c])) C' ∧ Pln (k1 ++ (d ++ [c])) (d ++ [c]) C' P' rk' ∧ Bx (n + 3 + 2 * k1.length + 5 * (d ++ [c]).length) y := fun x y hx0 hxz hy => by
      refine ⟨up C c x, up P c (some v2), up rk c ks.length, rfl, ?_, ⟨?_, ?_, hpp v2⟩, ?_⟩
      · rw [i2, mk1_up hcd, ← List.append_assoc, hks]
      · rw [← List.append_assoc, hks]
        exact V.ext hcd hcch hw0 hwm hlt hw2 hw8 hx0 (by rw [hlead]; exact hxz)
      · rw [List.nodup_append]
        exact ⟨PL.pn, by simp, fun e he f hf => by rw [List.mem_singleton.mp hf]; exact fun z => hcd' (z ▸ he)⟩
      · rw [List.length_append]; exact hy
    by_cases ql : lead = 0
    · simp only [SM.bind, SM.ret, SM.lift, SM.lifx, SM.map, SM.andB, SM.orB, SM.callO, SM.borrow, SM.bor, SM.fail, SM.chain, SM.ite, PutI.ow, RFld.get, noX, bindX, Out.bind, OMem.get, OMem.set, OSub.map, OSel.get, OSel.rest, OSel.join, runO, runZ, runJ, id, if_true, if_false, Bool.false_eq_true, Bool.not_true, Bool.not_false, decide_eq_true ql]
      exact ⟨_, _, if_pos s5, fin lead y3 fc Iff.rfl (j3.mono (by omega))⟩
    · obtain ⟨z4, y4, f4, z40, z41, j4⟩ := j3.take (K := K) (by omega) (m := 4) (by decide) (by decide)
      by_cases q4 : 0 < z4
      · simp only [SM.bind, SM.ret, SM.lift, SM.lifx, SM.map, SM.andB, SM.orB, SM.callO, SM.borrow, SM.bor, SM.fail, SM.chain, SM.ite, PutI.ow, RFld.get, noX, bindX, Out.bind, OMem.get, OMem.set, OSub.map, OSel.get, OSel.rest, OSel.join, runO, runZ, runJ, id, if_true, if_false, Bool.false_eq_true, Bool.not_true, Bool.not_false, decide_eq_false ql, f4, decide_eq_true q4]
        exact ⟨_, _, if_pos s5, fin lead y4 fc Iff.rfl (j4.mono (by omega))⟩
      · obtain ⟨z5, y5, f5, z50, z51, j5⟩ := j4.take (K := K) (by omega) (m := sp) (by omega) (by omega)
        simp only [SM.bind, SM.ret, SM.lift, SM.lifx, SM.map, SM.andB, SM.orB, SM.callO, SM.borrow, SM.bor, SM.fail, SM.chain, SM.ite, PutI.ow, RFld.get, noX, bindX, Out.bind, OMem.get, OMem.set, OSub.map, OSel.get, OSel.rest, OSel.join, runO, runZ, runJ, id, if_true, if_false, Bool.false_eq_true, Bool.not_true, Bool.not_false, decide_eq_false ql, f4, decide_eq_false q4, f5]
        exact ⟨_, _, if_pos s5, fin (1 + z5) y5 ⟨by omega, by omega⟩ ⟨fun q => by omega, fun q => absurd q ql⟩ j5⟩
  obtain ⟨⟨pt, cl, bx, u⟩, e4, C, P, rk, i1', i2', PL, i4'⟩ := hx2
  have i1' : pt = mk1 k2 (pv P) := i1'
  have i2' : cl = mk1 (k1 ++ k2) C := i2'
  have i4' : Bx (n + 3 + 2 * k1.length + 5 * k2.length) bx := i4'
  subst e4
  obtain ⟨B, y, e5, hB, hBl, j⟩ := m_barred K i4' (by omega) (x := pt) (ps := k2) (P := P) (by rw [i1', mk1_keys]) PL.pn (by omega) (by rw [i1']; exact pt_get PL.pp) (fun c v e => PL.V.two c v e)
  simp only [SM.bind, SM.ret, SM.lift, SM.lifx, SM.map, SM.andB, SM.orB, SM.callO, SM.borrow, SM.bor, SM.fail, SM.chain, SM.ite, PutI.ow, RFld.get, noX, bindX, Out.bind, OMem.get, OMem.set, OSub.map, OSel.get, OSel.rest, OSel.join, runO, runZ, runJ, id, if_true, if_false, Bool.false_eq_true, Bool.not_true, Bool.not_false, e5]
  refine ⟨k1 ++ k2, k2, C, P, rk, B, y, ?_, PL, by rw [List.length_append]; omega, l2, hB, hBl, j.mono (by omega)⟩
  rw [i1', i2']
end K

namespace K
open PySem PySem.Spec PyProof.Rows L2 Mi Pb
variable (K : PySem.W.Frag)
theorem Pln.ps_ks {ks ps : List Nat} {C : Nat → Int} {P : PF} {rk : Nat → Nat} (PL : Pln ks ps C P rk) : ∀ c ∈ ps, c ∈ ks := fun c hc => by
  obtain ⟨v, e⟩ := (PL.pp c).mp hc
  exact PL.V.dom c v e
theorem Pln.ps_len {ks ps : List Nat} {C : Nat → Int} {P : PF} {rk : Nat → Nat} (PL : Pln ks ps C P rk) : ps.length ≤ 30 := by
  have := nodup_len PL.pn PL.ps_ks
  have := PL.V.n1
  omega
/-- a table of a valid plan, whatever the order of its dicts' keys -/
theorem m_table_of {ks ps ls qs B : List Nat} {C : Nat → Int} {P : PF} {rk : Nat → Nat} (PL : Pln ks ps C P rk) (hl0 : ks ≠ []) (hls : ls.Perm ks) (hqs : qs.Perm ps) (hB : Bar P B) :
    r_Table___init__ K (mk1 ls C, mk1 qs (pv P), B, ()) = some (.ok (TF ks C P B)) := by
  have hq : ∀ c, c ∈ qs ↔ ∃ v, P c = some v := fun c => (hqs.mem_iff).trans (PL.pp c)
  exact m_init K PL.V hl0 hls (mk1_keys) (fun c hc => by rw [mk1_get, if_pos (hls.mem_iff.mpr hc)]) mk1_keys (fun c hc => PL.ps_ks c (hqs.mem_iff.mp hc)) (by rw [hqs.length_eq]; exact PL.ps_len) (pt_get hq) hB
theorem m_made {n : Nat} {b : List Int} (h : Bx n b) (hn : n + 100 < 2 ^ 18) {ks ps B : List Nat} {C : Nat → Int} {P : PF} {rk : Nat → Nat} (PL : Pln ks ps C P rk) (hl0 : ks ≠ []) (hB : Bar P B) :
    ∃ y, r__law_made K b ((mk1 ks C, mk1 ps (pv P), B, ()), ()) = some (.ok (TF ks C P B), y) ∧ Bx (n + 60) y := by
  have n1 := PL.V.n1
  have n2 := PL.ps_len
  obtain ⟨ls, y1, e1, p1, b1⟩ := m_turned_i K h (by omega) (x := mk1 ks C) (ks := ks) (f := C) mk1_keys PL.V.ndk n1 (fun c hc => ch_small c (PL.V.ch c hc)) (fun c hc => by rw [mk1_get, if_pos hc])
  obtain ⟨qs, y2, e2, p2, b2⟩ := m_turned_s K b1 (by omega) (x := mk1 ps (pv P)) (ks := ps) (f := pv P) mk1_keys PL.pn n2 (fun c hc => ch_small c (PL.V.ch c (PL.ps_ks c hc))) (fun c hc => by rw [mk1_get, if_pos hc])
  refine ⟨y2, ?_, b2.mono (by omega)⟩
  have e3 := m_table_of K PL hl0 p1 p2 hB
  unfold r__law_made d__law_made
  simp only [SM.bind, SM.ret, SM.lift, SM.lifx, SM.map, SM.andB, SM.orB, SM.callO, SM.borrow, SM.bor, SM.fail, SM.chain, SM.ite, PutI.ow, RFld.get, noX, bindX, Out.bind, OMem.get, OMem.set, OSub.map, OSel.get, OSel.rest, OSel.join, runO, runZ, runJ, id, if_true, if_false, Bool.false_eq_true, Bool.not_true, Bool.not_false, e1, e2, e3, SM.lifo]
theorem m_box (c : Int) : ∃ x : List Int, r__law_box K (c, ()) = some (.ok x) ∧ Bx 0 x := by
  unfold r__law_box d__law_box
  have h1 : CPow 10 18 := ⟨by decide, by decide, by decide⟩
  have h2 : (0 : Int) < 2147483629 := by decide
  simp only [SM.bind, SM.ret, SM.lift, SM.lifx, SM.map, SM.andB, SM.orB, SM.callO, SM.borrow, SM.bor, SM.fail, SM.chain, SM.ite, PutI.ow, RFld.get, noX, bindX, Out.bind, OMem.get, OMem.set, OSub.map, OSel.get, OSel.rest, OSel.join, runO, runZ, runJ, id, if_true, if_false, Bool.false_eq_true, Bool.not_true, Bool.not_false, if_pos h1, if_pos h2]
  refine ⟨_, rfl, _, _, _, rfl, ?_, Int.emod_nonneg _ (by decide), Int.emod_lt_of_pos _ (by decide), by decide, by decide⟩
  split <;> omega
theorem m_cell (ns : List Int) (k : Int) (h0 : 0 ≤ k) : ∃ c : Int, r__law_cell K (ns, k, ()) = some (.ok c) := by
  unfold r__law_cell d__law_cell
  have h1 : CMul 8633 k := mul_ok (by decide)
  simp only [SM.bind, SM.ret, SM.lift, SM.lifx, SM.map, SM.andB, SM.orB, SM.callO, SM.borrow, SM.bor, SM.fail, SM.chain, SM.ite, PutI.ow, RFld.get, noX, bindX, Out.bind, OMem.get, OMem.set, OSub.map, OSel.get, OSel.rest, OSel.join, runO, runZ, runJ, id, if_true, if_false, Bool.false_eq_true, Bool.not_true, Bool.not_false]
  by_cases h : k < (ns.length : Int)
  · have e : ∃ c, atI ns k = some c := by
      obtain ⟨_, e⟩ := atI_lt (l := ns) h0 h
      exact ⟨_, e⟩
    obtain ⟨c, e⟩ := e
    simp only [SM.bind, SM.ret, SM.lift, SM.lifx, SM.map, SM.andB, SM.orB, SM.callO, SM.borrow, SM.bor, SM.fail, SM.chain, SM.ite, PutI.ow, RFld.get, noX, bindX, Out.bind, OMem.get, OMem.set, OSub.map, OSel.get, OSel.rest, OSel.join, runO, runZ, runJ, id, if_true, if_false, Bool.false_eq_true, Bool.not_true, Bool.not_false, decide_eq_true h, e]
    exact ⟨c, rfl⟩
  · simp only [SM.bind, SM.ret, SM.lift, SM.lifx, SM.map, SM.andB, SM.orB, SM.callO, SM.borrow, SM.bor, SM.fail, SM.chain, SM.ite, PutI.ow, RFld.get, noX, bindX, Out.bind, OMem.get, OMem.set, OSub.map, OSel.get, OSel.rest, OSel.join, runO, runZ, runJ, id, if_true, if_false, Bool.false_eq_true, Bool.not_true, Bool.not_false, decide_eq_false h, if_pos h1]
    exact ⟨_, rfl⟩
end K

namespace K
open PySem PySem.Spec PyProof.Rows L2 Mi Pb
variable (K : PySem.W.Frag)
variable {ks ps B : List Nat} {C : Nat → Int} {P : PF} {rk : Nat → Nat}
theorem Pln.kl (PL : Pln ks ps C P rk) : (known ks).length ≤ 30 := by
  have := known_len PL.V.ch PL.V.ndk
  have := PL.V.n1
  omega
theorem Pln.cl (PL : Pln ks ps C P rk) : (comps P (known ks)).length ≤ 30 := Nat.le_trans (List.length_filter_le _ _) PL.kl
theorem mk1_flat {A : Type} {l : List Nat} {f : Nat → A} : (List.map (fun x => x.fst) (mk1 l f)).flatten = l := by
  have := mk1_keys (ks := l) (f := f)
  rw [show List.map (fun x => x.fst) (mk1 l f) = _ from this, flat_sing]
theorem mk1_fst {A : Type} {l : List Nat} {f : Nat → A} : List.map (fun x => x.fst) (mk1 l f) = l.map fun c => [c] := mk1_keys
theorem le_join {l : List Nat} (h : l.length ≤ 30) : l.length ≤ 16777216 := by omega
theorem m_characters (PL : Pln ks ps C P rk) : r_Table_characters K (TF ks C P B, ()) = some (.ok (known ks)) := by
  unfold r_Table_characters d_Table_characters TF
  simp only [SM.bind, SM.ret, SM.lift, SM.lifx, SM.map, SM.andB, SM.orB, SM.callO, SM.borrow, SM.bor, SM.fail, SM.chain, SM.ite, PutI.ow, RFld.get, noX, bindX, Out.bind, OMem.get, OMem.set, OSub.map, OSel.get, OSel.rest, OSel.join, runO, runZ, runJ, id, if_true, if_false, Bool.false_eq_true, Bool.not_true, Bool.not_false, IFld.get, mk1_flat, if_pos (le_join PL.kl)]
theorem mapS_sing {O : Type} {mt : List Nat → SM O Bool} {me : List Nat → SM O (List Nat)} {p : Nat → Bool} {o : O} (xs : List Nat) (ht : ∀ x ∈ xs, mt [x] o = some (.ok (p x), o)) (he : ∀ x ∈ xs, me [x] o = some (.ok [x], o)) : mapS mt me (xs.map fun c => [c]) o = some (.ok ((xs.filter p).map fun c => [c]), o) := by
  rw [mapS_id (p := fun s => p (s.headD 0)) _ (fun s hs => ?_) (fun s hs _ => ?_)]
  · rw [List.filter_map]; rfl
  · obtain ⟨x, hx, rfl⟩ := List.mem_map.mp hs
    exact ht x hx
  · obtain ⟨x, hx, rfl⟩ := List.mem_map.mp hs
    exact he x hx
theorem m_contains (PL : Pln ks ps C P rk) (c : Nat) : r_Table___contains__ K (TF ks C P B, c, ()) = some (.ok (decide (c ∈ ks))) := by
  unfold r_Table___contains__ d_Table___contains__ TF
  simp only [SM.bind, SM.ret, SM.lift, SM.lifx, SM.map, SM.andB, SM.orB, SM.callO, SM.borrow, SM.bor, SM.fail, SM.chain, SM.ite, PutI.ow, RFld.get, noX, bindX, Out.bind, OMem.get, OMem.set, OSub.map, OSel.get, OSel.rest, OSel.join, runO, runZ, runJ, id, if_true, if_false, Bool.false_eq_true, Bool.not_true, Bool.not_false, IFld.get, mk1_fst, m_is_character_c K (c := c)]
  by_cases h : c ∈ CH
  · simp only [SM.bind, SM.ret, SM.lift, SM.lifx, SM.map, SM.andB, SM.orB, SM.callO, SM.borrow, SM.bor, SM.fail, SM.chain, SM.ite, PutI.ow, RFld.get, noX, bindX, Out.bind, OMem.get, OMem.set, OSub.map, OSel.get, OSel.rest, OSel.join, runO, runZ, runJ, id, if_true, if_false, Bool.false_eq_true, Bool.not_true, Bool.not_false, decide_eq_true h]
    have : ([c] ∈ List.map (fun x => x.fst) (mk1 (known ks) C)) ↔ c ∈ ks := by rw [mk1_fst]; exact mem_sing.trans (mem_known PL.V.ch)
    by_cases q : c ∈ ks
    · simp only [SM.bind, SM.ret, SM.lift, SM.lifx, SM.map, SM.andB, SM.orB, SM.callO, SM.borrow, SM.bor, SM.fail, SM.chain, SM.ite, PutI.ow, RFld.get, noX, bindX, Out.bind, OMem.get, OMem.set, OSub.map, OSel.get, OSel.rest, OSel.join, runO, runZ, runJ, id, if_true, if_false, Bool.false_eq_true, Bool.not_true, Bool.not_false, decide_eq_true q, decide_eq_true (this.mpr q)]
    · simp only [SM.bind, SM.ret, SM.lift, SM.lifx, SM.map, SM.andB, SM.orB, SM.callO, SM.borrow, SM.bor, SM.fail, SM.chain, SM.ite, PutI.ow, RFld.get, noX, bindX, Out.bind, OMem.get, OMem.set, OSub.map, OSel.get, OSel.rest, OSel.join, runO, runZ, runJ, id, if_true, if_false, Bool.false_eq_true, Bool.not_true, Bool.not_false, decide_eq_false q, decide_eq_false (fun z => q (this.mp z))]
  · have : c ∉ ks := fun z => h (PL.V.ch c z)
    simp only [SM.bind, SM.ret, SM.lift, SM.lifx, SM.map, SM.andB, SM.orB, SM.callO, SM.borrow, SM.bor, SM.fail, SM.chain, SM.ite, PutI.ow, RFld.get, noX, bindX, Out.bind, OMem.get, OMem.set, OSub.map, OSel.get, OSel.rest, OSel.join, runO, runZ, runJ, id, if_true, if_false, Bool.false_eq_true, Bool.not_true, Bool.not_false, decide_eq_false h, decide_eq_false this]
theorem m_rk (PL : Pln ks ps C P rk) {c : Nat} (h : c ∈ ks) : r_Table_require_known K (TF ks C P B, c, ()) = some (.ok ()) := by
  unfold r_Table_require_known d_Table_require_known 
  simp only [SM.bind, SM.ret, SM.lift, SM.lifx, SM.map, SM.andB, SM.orB, SM.callO, SM.borrow, SM.bor, SM.fail, SM.chain, SM.ite, PutI.ow, RFld.get, noX, bindX, Out.bind, OMem.get, OMem.set, OSub.map, OSel.get, OSel.rest, OSel.join, runO, runZ, runJ, id, if_true, if_false, Bool.false_eq_true, Bool.not_true, Bool.not_false, m_contains K PL c, SM.lifo, decide_eq_true h]
  rfl
theorem m_class_of (PL : Pln ks ps C P rk) {c : Nat} (h : c ∈ ks) : r_Table_class_of K (TF ks C P B, c, ()) = some (.ok (C c)) := by
  unfold r_Table_class_of d_Table_class_of 
  simp only [SM.bind, SM.ret, SM.lift, SM.lifx, SM.map, SM.andB, SM.orB, SM.callO, SM.borrow, SM.bor, SM.fail, SM.chain, SM.ite, PutI.ow, RFld.get, noX, bindX, Out.bind, OMem.get, OMem.set, OSub.map, OSel.get, OSel.rest, OSel.join, runO, runZ, runJ, id, if_true, if_false, Bool.false_eq_true, Bool.not_true, Bool.not_false, m_rk K PL h, SM.lifo]
  simp only [SM.bind, SM.ret, SM.lift, SM.lifx, SM.map, SM.andB, SM.orB, SM.callO, SM.borrow, SM.bor, SM.fail, SM.chain, SM.ite, PutI.ow, RFld.get, noX, bindX, Out.bind, OMem.get, OMem.set, OSub.map, OSel.get, OSel.rest, OSel.join, runO, runZ, runJ, id, if_true, if_false, Bool.false_eq_true, Bool.not_true, Bool.not_false, TF, IFld.get, mk1_get, if_pos ((mem_known PL.V.ch).mpr h)]
theorem m_table_atoms (PL : Pln ks ps C P rk) {c : Nat} (h : c ∈ ks) : r_Table_atoms K (TF ks C P B, c, ()) = some (.ok (ex P c)) := by
  unfold r_Table_atoms d_Table_atoms
  simp only [SM.bind, SM.ret, SM.lift, SM.lifx, SM.map, SM.andB, SM.orB, SM.callO, SM.borrow, SM.bor, SM.fail, SM.chain, SM.ite, PutI.ow, RFld.get, noX, bindX, Out.bind, OMem.get, OMem.set, OSub.map, OSel.get, OSel.rest, OSel.join, runO, runZ, runJ, id, if_true, if_false, Bool.false_eq_true, Bool.not_true, Bool.not_false, m_rk K PL h, SM.lifo]
  simp only [SM.bind, SM.ret, SM.lift, SM.lifx, SM.map, SM.andB, SM.orB, SM.callO, SM.borrow, SM.bor, SM.fail, SM.chain, SM.ite, PutI.ow, RFld.get, noX, bindX, Out.bind, OMem.get, OMem.set, OSub.map, OSel.get, OSel.rest, OSel.join, runO, runZ, runJ, id, if_true, if_false, Bool.false_eq_true, Bool.not_true, Bool.not_false, TF, IFld.get, mk1_get, if_pos ((mem_known PL.V.ch).mpr h)]
end K

namespace K
open PySem PySem.Spec PyProof.Rows L2 Mi Pb
variable (K : PySem.W.Frag)
variable {ks ps B : List Nat} {C : Nat → Int} {P : PF} {rk : Nat → Nat}
theorem keysO_all {mk : Nat → SM (OT []) Int} : ∀ (run : List Nat), (∀ c ∈ run, mk c () = some (.ok (C c), ())) → keysO mk run = some (run.map C)
  | [], _ => rfl
  | a :: r, h => by
    unfold keysO
    rw [h a (List.mem_cons_self ..)]
    show (keysO mk r).map (C a :: ·) = _
    rw [keysO_all r fun c hc => h c (List.mem_cons_of_mem _ hc)]
    rfl
theorem stp_facts : ∀ (s f run : List Nat), (∀ c ∈ s, 0 ≤ C c ∧ C c ≤ 9) → (∀ c ∈ run, 1 ≤ C c ∧ C c ≤ 9) →
    (s.foldl (stp C) (f, run)).1.length + (s.foldl (stp C) (f, run)).2.length = f.length + run.length + s.length ∧ ∀ c ∈ (s.foldl (stp C) (f, run)).2, (c ∈ run ∨ c ∈ s) ∧ 1 ≤ C c ∧ C c ≤ 9
  | [], f, run, _, h => ⟨rfl, fun c hc => ⟨.inl hc, h c hc⟩⟩
  | a :: s, f, run, hs, h => by
    rw [List.foldl_cons]
    have ha := hs a (List.mem_cons_self ..)
    have hs' := fun c hc => hs c (List.mem_cons_of_mem _ hc)
    by_cases h0 : C a = 0
    · have e : stp C (f, run) a = (f ++ cl C run ++ [a], []) := if_pos h0
      rw [e]
      obtain ⟨h1, h2⟩ := stp_facts s (f ++ cl C run ++ [a]) [] hs' (fun c hc => by cases hc)
      have := (cl_perm (C := C) h).length_eq
      refine ⟨?_, fun c hc => ?_⟩
      · rw [h1, List.length_append, List.length_append, List.length_cons, List.length_cons, List.length_nil]; omega
      · obtain ⟨z, y⟩ := h2 c hc
        exact ⟨.inr (List.mem_cons_of_mem _ (z.resolve_left (by simp))), y⟩
    · have e : stp C (f, run) a = (f, run ++ [a]) := if_neg h0
      rw [e]
      obtain ⟨h1, h2⟩ := stp_facts s f (run ++ [a]) hs' fun c hc => by
        rcases List.mem_append.mp hc with z | z
        · exact h c z
        · rw [List.mem_singleton.mp z]; omega
      refine ⟨?_, fun c hc => ?_⟩
      · rw [h1, List.length_append, List.length_cons, List.length_cons, List.length_nil]; omega
      · obtain ⟨z, y⟩ := h2 c hc
        refine ⟨?_, y⟩
        rcases z with z | z
        · rcases List.mem_append.mp z with z | z
          · exact .inl z
          · rw [List.mem_singleton.mp z]; exact .inr (List.mem_cons_self ..)
        · exact .inr (List.mem_cons_of_mem _ z)
theorem m_sorted_runs (PL : Pln ks ps C P rk) {s : List Nat} (hs : ∀ c ∈ s, c ∈ ks) (hl : s.length ≤ 100000) : r_sorted_runs K (TF ks C P B, s, ()) = some (.ok (nf C s)) := by
  unfold r_sorted_runs d_sorted_runs
  have hc : ∀ c ∈ s, 0 ≤ C c ∧ C c ≤ 9 := fun c h => PL.V.cls c (hs c h)
  have srt : ∀ d : List Nat, (∀ c ∈ d, c ∈ s) → sortO (fun v280 => SM.bind (SM.ret (TF ks C P B)) fun x => SM.bind (SM.bind (SM.ret v280) fun x => SM.bind (SM.ret ()) fun y => SM.ret (x, y)) fun y => SM.lifo (r_Table_class_of K (x, y))) (d.foldl (stp C) ([], [])).2 = some (cl C (d.foldl (stp C) ([], [])).2) := fun d hd => by
    obtain ⟨_, h2⟩ := stp_facts (C := C) d [] [] (fun c h => hc c (hd c h)) (fun c h => by cases h)
    unfold sortO
    rw [keysO_all (C := C) _ fun c hcr => by
      have : c ∈ ks := hs c (hd c ((h2 c hcr).1.resolve_left (by simp)))
      simp only [SM.bind, SM.ret, SM.lift, SM.lifx, SM.map, SM.andB, SM.orB, SM.callO, SM.borrow, SM.bor, SM.fail, SM.chain, SM.ite, PutI.ow, RFld.get, noX, bindX, Out.bind, OMem.get, OMem.set, OSub.map, OSel.get, OSel.rest, OSel.join, runO, runZ, runJ, id, if_true, if_false, Bool.false_eq_true, Bool.not_true, Bool.not_false, SM.lifo, m_class_of K PL this]]
    rw [Option.map_some, sort_cl fun c h => (h2 c h).2]
  simp only [SM.bind, SM.ret, SM.lift, SM.lifx, SM.map, SM.andB, SM.orB, SM.callO, SM.borrow, SM.bor, SM.fail, SM.chain, SM.ite, PutI.ow, RFld.get, noX, bindX, Out.bind, OMem.get, OMem.set, OSub.map, OSel.get, OSel.rest, OSel.join, runO, runZ, runJ, id, if_true, if_false, Bool.false_eq_true, Bool.not_true, Bool.not_false]
  generalize hE : forS _ s () _ = E
  have hx : ∃ o : List Nat × List Nat × Unit, E = some (.nxt ((), o)) ∧ o.1 = (s.foldl (stp C) ([], [])).2 ∧ o.2.1 = (s.foldl (stp C) ([], [])).1 := by
    rw [← hE]
    refine forS_preU (os := [(3, tOwn tChr), (2, tOwn tChr)]) (P := fun d (o : List Nat × List Nat × Unit) => o.1 = (d.foldl (stp C) ([], [])).2 ∧ o.2.1 = (d.foldl (stp C) ([], [])).1) s _ (fun d a r (o : List Nat × List Nat × Unit) hd hI => ?_) ⟨rfl, rfl⟩
    obtain ⟨run, found, u⟩ := o
    obtain ⟨i1, i2⟩ := hI
    have i1 : run = (d.foldl (stp C) ([], [])).2 := i1
    have i2 : found = (d.foldl (stp C) ([], [])).1 := i2
    have hds : ∀ c ∈ d, c ∈ s := fun c h => by rw [hd]; exact List.mem_append_left _ h
    have has : a ∈ s := by rw [hd]; simp
    have hdl : d.length + 1 ≤ s.length := by rw [hd, List.length_append, List.length_cons]; omega
    have hrun := srt d hds
    obtain ⟨h1, h2⟩ := stp_facts (C := C) d [] [] (fun c h => hc c (hds c h)) (fun c h => by cases h)
    have hcl := (cl_perm (C := C) fun c h => (h2 c h).2).length_eq
    rw [List.foldl_append, List.foldl_cons, List.foldl_nil]
    rw [← i1] at hrun h1 hcl
    rw [← i2] at h1
    rw [List.length_nil] at h1
    by_cases h0 : C a = 0
    · have e : stp C (d.foldl (stp C) ([], [])) a = (found ++ cl C run ++ [a], []) := by rw [i1, i2]; exact if_pos h0
      rw [e]
      refine ⟨(), ([], found ++ (cl C run ++ [a]), u), ?_, rfl, (List.append_assoc ..).symm⟩
      have q1 : (cl C run).length + [a].length ≤ sizeLine := by rw [sizeLine_eq, List.length_singleton]; omega
      have q2 : extO found (cl C run ++ [a]) = some ((), found ++ (cl C run ++ [a])) := if_pos (by rw [sizeLine_eq, List.length_append, List.length_singleton]; omega)
      simp only [SM.bind, SM.ret, SM.lift, SM.lifx, SM.map, SM.andB, SM.orB, SM.callO, SM.borrow, SM.bor, SM.fail, SM.chain, SM.ite, PutI.ow, RFld.get, noX, bindX, Out.bind, OMem.get, OMem.set, OSub.map, OSel.get, OSel.rest, OSel.join, runO, runZ, runJ, id, if_true, if_false, Bool.false_eq_true, Bool.not_true, Bool.not_false, SM.lifo, m_class_of K PL (hs a has), decide_eq_true h0, hrun, if_pos q1, SM.methO, q2]
    · have e : stp C (d.foldl (stp C) ([], [])) a = (found, run ++ [a]) := by rw [i1, i2]; exact if_neg h0
      rw [e]
      refine ⟨(), (run ++ [a], found, u), ?_, rfl, rfl⟩
      have q2 : appO run a = some ((), run ++ [a]) := if_pos (by rw [sizeLine_eq]; omega)
      simp only [SM.bind, SM.ret, SM.lift, SM.lifx, SM.map, SM.andB, SM.orB, SM.callO, SM.borrow, SM.bor, SM.fail, SM.chain, SM.ite, PutI.ow, RFld.get, noX, bindX, Out.bind, OMem.get, OMem.set, OSub.map, OSel.get, OSel.rest, OSel.join, runO, runZ, runJ, id, if_true, if_false, Bool.false_eq_true, Bool.not_true, Bool.not_false, SM.lifo, m_class_of K PL (hs a has), decide_eq_false h0, SM.methO, q2]
  obtain ⟨⟨run, found, u⟩, e1, i1, i2⟩ := hx
  have i1 : run = (s.foldl (stp C) ([], [])).2 := i1
  have i2 : found = (s.foldl (stp C) ([], [])).1 := i2
  subst e1
  have hrun := srt s fun _ h => h
  obtain ⟨h1, h2⟩ := stp_facts (C := C) s [] [] hc (fun c h => by cases h)
  have hcl := (cl_perm (C := C) fun c h => (h2 c h).2).length_eq
  have hend := stp_end (C := C) s [] []
  rw [← i1] at hrun h1 hcl hend
  rw [← i2] at h1 hend
  rw [List.length_nil] at h1
  have q1 : found.length + (cl C run).length ≤ sizeLine := by rw [sizeLine_eq]; omega
  have q2 : (found ++ cl C run).length ≤ 16777216 := by rw [List.length_append]; omega
  simp only [SM.bind, SM.ret, SM.lift, SM.lifx, SM.map, SM.andB, SM.orB, SM.callO, SM.borrow, SM.bor, SM.fail, SM.chain, SM.ite, PutI.ow, RFld.get, noX, bindX, Out.bind, OMem.get, OMem.set, OSub.map, OSel.get, OSel.rest, OSel.join, runO, runZ, runJ, id, if_true, if_false, Bool.false_eq_true, Bool.not_true, Bool.not_false, hrun, if_pos q1, if_pos q2]
  rw [hend]
  rfl
end K

namespace K
open PySem PySem.Spec PyProof.Rows L2 Mi Pb
variable (K : PySem.W.Frag)
variable {ks ps B : List Nat} {C : Nat → Int} {P : PF} {rk : Nat → Nat}
/-- all atoms of a text -/
def fx (P : PF) (s : List Nat) : List Nat := s.flatMap (ex P)
theorem fx_in (PL : Pln ks ps C P rk) {s : List Nat} (hs : ∀ c ∈ s, c ∈ ks) : ∀ c ∈ fx P s, c ∈ ks := fun c hc => by
  obtain ⟨a, ha, h⟩ := List.mem_flatMap.mp hc
  exact PL.V.R.ex_in (S := fun c => c ∈ ks) (fun c v e a ha => PL.V.mem c v e a ha) a (hs a ha) c h
theorem fx_atoms (PL : Pln ks ps C P rk) {s : List Nat} : ∀ c ∈ fx P s, P c = none := fun c hc => by
  obtain ⟨a, ha, h⟩ := List.mem_flatMap.mp hc
  exact PL.V.R.ex_atoms a c h
theorem fx_len (PL : Pln ks ps C P rk) (s : List Nat) : (fx P s).length ≤ 8 * s.length := by
  unfold fx
  rw [flatMap_len]
  induction s with
  | nil => exact Nat.le_refl _
  | cons a r ih =>
    rw [List.map_cons, List.sum_cons, List.length_cons]
    have := PL.V.len a
    omega
theorem fx_id {s : List Nat} (h : ∀ c ∈ s, P c = none) : fx P s = s := flat_atoms h
theorem nf_facts (PL : Pln ks ps C P rk) {s : List Nat} (hs : ∀ c ∈ s, c ∈ ks) : (nf C (fx P s)).Perm (fx P s) := nf_perm fun c hc => PL.V.cls c (fx_in PL hs c hc)
theorem m_plain_form (PL : Pln ks ps C P rk) {s : List Nat} (hs : ∀ c ∈ s, c ∈ ks) (hl : s.length ≤ 1000) : r_plain_form K (TF ks C P B, s, ()) = some (.ok (nf C (fx P s))) := by
  unfold r_plain_form d_plain_form
  have s1 : s.length ≤ sizeLine := small_len (by omega)
  have fl := fx_len PL s
  have s2 : (fx P s).length ≤ 16777216 := by omega
  simp only [SM.bind, SM.ret, SM.lift, SM.lifx, SM.map, SM.andB, SM.orB, SM.callO, SM.borrow, SM.bor, SM.fail, SM.chain, SM.ite, PutI.ow, RFld.get, noX, bindX, Out.bind, OMem.get, OMem.set, OSub.map, OSel.get, OSel.rest, OSel.join, runO, runZ, runJ, id, if_true, if_false, Bool.false_eq_true, Bool.not_true, Bool.not_false, if_pos s1]
  rw [mapS_map (f := ex P) s (fun _ _ => rfl) (fun c hc => by simp only [SM.bind, SM.ret, SM.lift, SM.lifx, SM.map, SM.andB, SM.orB, SM.callO, SM.borrow, SM.bor, SM.fail, SM.chain, SM.ite, PutI.ow, RFld.get, noX, bindX, Out.bind, OMem.get, OMem.set, OSub.map, OSel.get, OSel.rest, OSel.join, runO, runZ, runJ, id, if_true, if_false, Bool.false_eq_true, Bool.not_true, Bool.not_false, SM.lifo, m_table_atoms K PL (hs c hc)])]
  simp only [SM.bind, SM.ret, SM.lift, SM.lifx, SM.map, SM.andB, SM.orB, SM.callO, SM.borrow, SM.bor, SM.fail, SM.chain, SM.ite, PutI.ow, RFld.get, noX, bindX, Out.bind, OMem.get, OMem.set, OSub.map, OSel.get, OSel.rest, OSel.join, runO, runZ, runJ, id, if_true, if_false, Bool.false_eq_true, Bool.not_true, Bool.not_false]
  rw [show (s.map (ex P)).flatten = fx P s from (List.flatMap_def ..).symm]
  simp only [SM.bind, SM.ret, SM.lift, SM.lifx, SM.map, SM.andB, SM.orB, SM.callO, SM.borrow, SM.bor, SM.fail, SM.chain, SM.ite, PutI.ow, RFld.get, noX, bindX, Out.bind, OMem.get, OMem.set, OSub.map, OSel.get, OSel.rest, OSel.join, runO, runZ, runJ, id, if_true, if_false, Bool.false_eq_true, Bool.not_true, Bool.not_false, if_pos s2, m_sorted_runs K PL (fx_in PL hs) (by omega)]
theorem m_require_table {T : AT (fs_Table.map (·.2))} : r_require_table K (T, ()) = some (.ok ()) := by
  unfold r_require_table d_require_table
  simp only [SM.bind, SM.ret, SM.lift, SM.lifx, SM.map, SM.andB, SM.orB, SM.callO, SM.borrow, SM.bor, SM.fail, SM.chain, SM.ite, PutI.ow, RFld.get, noX, bindX, Out.bind, OMem.get, OMem.set, OSub.map, OSel.get, OSel.rest, OSel.join, runO, runZ, runJ, id, if_true, if_false, Bool.false_eq_true, Bool.not_true, Bool.not_false]
  rfl
theorem m_require_text (PL : Pln ks ps C P rk) {s : List Nat} (hs : ∀ c ∈ s, c ∈ ks) (hl : s.length ≤ 60) : r_require_text K (TF ks C P B, s, ()) = some (.ok ()) := by
  unfold r_require_text d_require_text
  simp only [SM.bind, SM.ret, SM.lift, SM.lifx, SM.map, SM.andB, SM.orB, SM.callO, SM.borrow, SM.bor, SM.fail, SM.chain, SM.ite, PutI.ow, RFld.get, noX, bindX, Out.bind, OMem.get, OMem.set, OSub.map, OSel.get, OSel.rest, OSel.join, runO, runZ, runJ, id, if_true, if_false, Bool.false_eq_true, Bool.not_true, Bool.not_false, SM.lifo, m_characters K PL, m_is_text K (s := s) (y := known ks) (by omega)]
  have e : (s.all fun c => decide (c ∈ known ks)) = true := List.all_eq_true.mpr fun c hc => decide_eq_true ((mem_known PL.V.ch).mpr (hs c hc))
  have s1 : s.length ≤ sizeLine := small_len (by omega)
  have h60 : decide ((60 : Int) < (s.length : Int)) = false := decide_eq_false (by omega)
  simp only [SM.bind, SM.ret, SM.lift, SM.lifx, SM.map, SM.andB, SM.orB, SM.callO, SM.borrow, SM.bor, SM.fail, SM.chain, SM.ite, PutI.ow, RFld.get, noX, bindX, Out.bind, OMem.get, OMem.set, OSub.map, OSel.get, OSel.rest, OSel.join, runO, runZ, runJ, id, if_true, if_false, Bool.false_eq_true, Bool.not_true, Bool.not_false, e, if_pos s1, h60]
  rfl
theorem m_decomposed (PL : Pln ks ps C P rk) {s : List Nat} (hs : ∀ c ∈ s, c ∈ ks) (hl : s.length ≤ 60) : r_decomposed K (TF ks C P B, s, ()) = some (.ok (nf C (fx P s))) := by
  unfold r_decomposed d_decomposed
  simp only [SM.bind, SM.ret, SM.lift, SM.lifx, SM.map, SM.andB, SM.orB, SM.callO, SM.borrow, SM.bor, SM.fail, SM.chain, SM.ite, PutI.ow, RFld.get, noX, bindX, Out.bind, OMem.get, OMem.set, OSub.map, OSel.get, OSel.rest, OSel.join, runO, runZ, runJ, id, if_true, if_false, Bool.false_eq_true, Bool.not_true, Bool.not_false, m_require_table K, m_require_text K PL hs hl, m_plain_form K PL hs (by omega)]
theorem rng_nums : rng 1 10 = nums := by decide
theorem cut_last {l : List Nat} {a : Nat} : cut (l ++ [a]) none (some (-1)) = l := by
  unfold cut
  rw [HT.sIx_none]
  have e : HT.sIx (l ++ [a]).length (l ++ [a]).length (some (-1)) = l.length := by
    rw [List.length_append, List.length_singleton]
    show (if (-1 : Int) < 0 then ((-1 : Int) + ((l.length + 1 : Nat) : Int)).toNat else min ((-1 : Int).toNat) (l.length + 1)) = l.length
    rw [if_pos (by decide)]
    omega
  rw [e]
  simp
/-- the class, 0 for what has none -/
def Cz (ks : List Nat) (C : Nat → Int) (c : Nat) : Int := if c ∈ ks then C c else 0
theorem nfr_congr {C C' : Nat → Int} : ∀ (s run : List Nat), (∀ c, c ∈ run ∨ c ∈ s → C c = C' c) → nfr C run s = nfr C' run s := by
  have hcl : ∀ run : List Nat, (∀ c ∈ run, C c = C' c) → cl C run = cl C' run := fun run h => by
    unfold cl
    rw [List.flatMap, List.flatMap]
    congr 1
    exact List.map_congr_left fun k _ => List.filter_congr fun c hc => by rw [h c hc]
  intro s
  induction s with
  | nil => exact fun run h => hcl run fun c hc => h c (.inl hc)
  | cons a s ih =>
    intro run h
    show (if C a = 0 then cl C run ++ a :: nfr C [] s else nfr C (run ++ [a]) s) = if C' a = 0 then cl C' run ++ a :: nfr C' [] s else nfr C' (run ++ [a]) s
    rw [h a (.inr (List.mem_cons_self ..)), hcl run fun c hc => h c (.inl hc), ih [] fun c hc => h c (.inr (List.mem_cons_of_mem _ (hc.resolve_left (by simp)))), ih (run ++ [a]) fun c hc => ?_]
    rcases hc with z | z
    · rcases List.mem_append.mp z with z | z
      · exact h c (.inl z)
      · rw [List.mem_singleton.mp z]; exact h a (.inr (List.mem_cons_self ..))
    · exact h c (.inr (List.mem_cons_of_mem _ z))
theorem nf_congr {C C' : Nat → Int} {s : List Nat} (h : ∀ c ∈ s, C c = C' c) : nf C s = nf C' s := nfr_congr s [] fun c hc => h c (hc.resolve_left (by simp))
theorem m_law_sorted (PL : Pln ks ps C P rk) {s : List Nat} (hs : ∀ c ∈ s, c ∈ ks) (hl : s.length ≤ 100000) : r__law_sorted K ((mk1 ks C, mk1 ps (pv P), B, ()), s, ()) = some (.ok (nf C s)) := by
  unfold r__law_sorted d__law_sorted
  have s1 : s.length + [32].length ≤ sizeLine := by rw [sizeLine_eq, List.length_singleton]; omega
  have h32 : (32 : Nat) ∉ ks := fun z => absurd (PL.V.ch _ z) (by decide)
  have hsm : small62 1 ∧ small62 10 := by decide
  let Z := Cz ks C
  have zin : ∀ c ∈ ks, Z c = C c := fun c h => if_pos h
  have zout : ∀ c, c ∉ ks → Z c = 0 := fun c h => if_neg h
  have zget : ∀ c, (dget [c] (mk1 ks C)).getD 0 = Z c := fun c => by
    rw [mk1_get]
    by_cases h : c ∈ ks
    · rw [if_pos h, zin c h]; rfl
    · rw [if_neg h, zout c h]; rfl
  have zc : ∀ c, 0 ≤ Z c ∧ Z c ≤ 9 := fun c => by
    by_cases h : c ∈ ks
    · rw [zin c h]; exact PL.V.cls c h
    · rw [zout c h]; omega
  have zks : ∀ c, 1 ≤ Z c → c ∈ ks := fun c h => by
    by_cases q : c ∈ ks
    · exact q
    · rw [zout c q] at h; omega
  simp only [SM.bind, SM.ret, SM.lift, SM.lifx, SM.map, SM.andB, SM.orB, SM.callO, SM.borrow, SM.bor, SM.fail, SM.chain, SM.ite, PutI.ow, RFld.get, noX, bindX, Out.bind, OMem.get, OMem.set, OSub.map, OSel.get, OSel.rest, OSel.join, runO, runZ, runJ, id, if_true, if_false, Bool.false_eq_true, Bool.not_true, Bool.not_false, if_pos s1]
  generalize hE : forS _ (s ++ [32]) _ _ = E
  have hx : ∃ (b' : List Nat × List Nat × Unit) (o' : Unit), E = some (.nxt (b', o')) ∧ (b'.1, b'.2.1) = (s ++ [32]).foldl (stp Z) ([], []) := by
    rw [← hE]
    refine forS_pre (os := []) (P := fun d (b : List Nat × List Nat × Unit) (_ : Unit) => (b.1, b.2.1) = d.foldl (stp Z) ([], [])) (s ++ [32]) [] ([], [], ()) () (fun d a r (b : List Nat × List Nat × Unit) (o : Unit) hd hI => ?_) rfl
    obtain ⟨found, run, u⟩ := b
    have hI : (found, run) = d.foldl (stp Z) ([], []) := hI
    obtain ⟨f1, f2⟩ := stp_facts (C := Z) d [] [] (fun c _ => zc c) (fun c h => by cases h)
    rw [← hI] at f1 f2
    rw [List.length_nil] at f1
    have f1 : found.length + run.length = 0 + 0 + d.length := f1
    have f2 : ∀ c ∈ run, 1 ≤ Z c ∧ Z c ≤ 9 := fun c h => (f2 c h).2
    have hdl : d.length + 1 ≤ s.length + 1 := by
      have := congrArg List.length hd
      rw [List.nil_append, List.length_append, List.length_append, List.length_singleton, List.length_cons] at this
      omega
    rw [List.foldl_append, List.foldl_cons, List.foldl_nil, ← hI]
    by_cases h0 : Z a = 0
    · have e : stp Z (found, run) a = (found ++ cl Z run ++ [a], []) := if_pos h0
      rw [e]
      simp only [SM.bind, SM.ret, SM.lift, SM.lifx, SM.map, SM.andB, SM.orB, SM.callO, SM.borrow, SM.bor, SM.fail, SM.chain, SM.ite, PutI.ow, RFld.get, noX, bindX, Out.bind, OMem.get, OMem.set, OSub.map, OSel.get, OSel.rest, OSel.join, runO, runZ, runJ, id, if_true, if_false, Bool.false_eq_true, Bool.not_true, Bool.not_false, zget, decide_eq_true h0, if_pos hsm, rng_nums]
      generalize hE2 : forS _ nums _ _ = E2
      have hx2 : ∃ (b' : List Nat × Unit) (o' : Unit), E2 = some (.nxt (b', o')) ∧ b'.1 = found ++ cl Z run := by
        rw [← hE2]
        refine forS_pre (os := []) (P := fun dn (b : List Nat × Unit) (_ : Unit) => b.1 = found ++ dn.flatMap fun k => run.filter fun c => decide (Z c = k)) nums [] (found, ()) () (fun dn k r2 (b : List Nat × Unit) (o : Unit) hd2 hI2 => ?_) (by simp)
        obtain ⟨f, u2⟩ := b
        have hI2 : f = found ++ dn.flatMap fun k => run.filter fun c => decide (Z c = k) := hI2
        have hdn : dn.length ≤ 9 := by
          have := congrArg List.length hd2
          rw [List.nil_append, List.length_append, List.length_cons] at this
          have h9 : nums.length = 9 := rfl
          omega
        have fb : ∀ L : List Int, (L.flatMap fun k => run.filter fun c => decide (Z c = k)).length ≤ L.length * run.length := fun L => by
          induction L with
          | nil => simp
          | cons x L ih =>
            rw [List.flatMap_cons, List.length_append, List.length_cons, Nat.add_mul, Nat.one_mul]
            have := List.length_filter_le (fun c => decide (Z c = x)) run
            omega
        have fbd := fb dn
        have hmul : dn.length * run.length ≤ 9 * run.length := Nat.mul_le_mul_right _ hdn
        have hfl : f.length ≤ 1000010 := by rw [hI2, List.length_append]; omega
        have r1 : run.length ≤ sizeLine := small_len (by omega)
        have r2 := List.length_filter_le (fun c => decide (Z c = k)) run
        have r3 : (run.filter fun c => decide (Z c = k)).length ≤ 16777216 := by omega
        have r4 : f.length + (run.filter fun c => decide (Z c = k)).length ≤ sizeLine := by rw [sizeLine_eq]; omega
        refine ⟨(f ++ run.filter (fun c => decide (Z c = k)), ()), (), ?_, ?_⟩
        · simp only [SM.bind, SM.ret, SM.lift, SM.lifx, SM.map, SM.andB, SM.orB, SM.callO, SM.borrow, SM.bor, SM.fail, SM.chain, SM.ite, PutI.ow, RFld.get, noX, bindX, Out.bind, OMem.get, OMem.set, OSub.map, OSel.get, OSel.rest, OSel.join, runO, runZ, runJ, id, if_true, if_false, Bool.false_eq_true, Bool.not_true, Bool.not_false, if_pos r1]
          rw [mapS_id (p := fun c => decide (Z c = k)) run (fun c hc => by
            have hck := zks c (f2 c hc).1
            simp only [SM.bind, SM.ret, SM.lift, SM.lifx, SM.map, SM.andB, SM.orB, SM.callO, SM.borrow, SM.bor, SM.fail, SM.chain, SM.ite, PutI.ow, RFld.get, noX, bindX, Out.bind, OMem.get, OMem.set, OSub.map, OSel.get, OSel.rest, OSel.join, runO, runZ, runJ, id, if_true, if_false, Bool.false_eq_true, Bool.not_true, Bool.not_false, mk1_get, if_pos hck]
            rw [zin c hck]) (fun _ _ _ => rfl)]
          simp only [SM.bind, SM.ret, SM.lift, SM.lifx, SM.map, SM.andB, SM.orB, SM.callO, SM.borrow, SM.bor, SM.fail, SM.chain, SM.ite, PutI.ow, RFld.get, noX, bindX, Out.bind, OMem.get, OMem.set, OSub.map, OSel.get, OSel.rest, OSel.join, runO, runZ, runJ, id, if_true, if_false, Bool.false_eq_true, Bool.not_true, Bool.not_false, if_pos r3, if_pos r4]
        · show f ++ _ = _
          rw [hI2, List.flatMap_append, List.flatMap_cons, List.flatMap_nil, List.append_nil, List.append_assoc]
      obtain ⟨⟨f, u2⟩, o2, e2, e3⟩ := hx2
      have e3 : f = found ++ cl Z run := e3
      subst e2
      have hcl := (cl_perm (C := Z) f2).length_eq
      have r5 : f.length + [a].length ≤ sizeLine := by rw [sizeLine_eq, e3, List.length_append, List.length_singleton]; omega
      simp only [SM.bind, SM.ret, SM.lift, SM.lifx, SM.map, SM.andB, SM.orB, SM.callO, SM.borrow, SM.bor, SM.fail, SM.chain, SM.ite, PutI.ow, RFld.get, noX, bindX, Out.bind, OMem.get, OMem.set, OSub.map, OSel.get, OSel.rest, OSel.join, runO, runZ, runJ, id, if_true, if_false, Bool.false_eq_true, Bool.not_true, Bool.not_false, if_pos r5]
      exact ⟨_, _, rfl, by rw [e3]⟩
    · have e : stp Z (found, run) a = (found, run ++ [a]) := if_neg h0
      rw [e]
      have r5 : run.length + [a].length ≤ sizeLine := by rw [sizeLine_eq, List.length_singleton]; omega
      simp only [SM.bind, SM.ret, SM.lift, SM.lifx, SM.map, SM.andB, SM.orB, SM.callO, SM.borrow, SM.bor, SM.fail, SM.chain, SM.ite, PutI.ow, RFld.get, noX, bindX, Out.bind, OMem.get, OMem.set, OSub.map, OSel.get, OSel.rest, OSel.join, runO, runZ, runJ, id, if_true, if_false, Bool.false_eq_true, Bool.not_true, Bool.not_false, zget, decide_eq_false h0, if_pos r5]
      exact ⟨_, _, rfl, rfl⟩
  obtain ⟨⟨found, run, u⟩, o, e1, e2⟩ := hx
  subst e1
  rw [List.foldl_append, List.foldl_cons, List.foldl_nil] at e2
  have h0 : Z 32 = 0 := zout 32 h32
  have e3 : stp Z (s.foldl (stp Z) ([], [])) 32 = ((s.foldl (stp Z) ([], [])).1 ++ cl Z (s.foldl (stp Z) ([], [])).2 ++ [32], []) := if_pos h0
  rw [e3, stp_end, List.nil_append] at e2
  have e4 : found = nf Z s ++ [32] := congrArg Prod.fst e2
  have hp := (nf_perm (C := Z) (s := s) fun c _ => zc c).length_eq
  have r6 : found.length ≤ sizeLine := by rw [sizeLine_eq, e4, List.length_append, List.length_singleton]; omega
  simp only [SM.bind, SM.ret, SM.lift, SM.lifx, SM.map, SM.andB, SM.orB, SM.callO, SM.borrow, SM.bor, SM.fail, SM.chain, SM.ite, PutI.ow, RFld.get, noX, bindX, Out.bind, OMem.get, OMem.set, OSub.map, OSel.get, OSel.rest, OSel.join, runO, runZ, runJ, id, if_true, if_false, Bool.false_eq_true, Bool.not_true, Bool.not_false, if_pos r6]
  rw [e4, cut_last, nf_congr fun c hc => zin c (hs c hc)]
theorem m_law_form (PL : Pln ks ps C P rk) {s : List Nat} (hs : ∀ c ∈ s, c ∈ ks) (hl : s.length ≤ 1000) : r__law_form K ((mk1 ks C, mk1 ps (pv P), B, ()), s, ()) = some (.ok (nf C (fx P s))) := by
  unfold r__law_form d__law_form
  have s1 : s.length ≤ sizeLine := small_len (by omega)
  have fl := fx_len PL s
  have s2 : (fx P s).length ≤ 16777216 := by omega
  simp only [SM.bind, SM.ret, SM.lift, SM.lifx, SM.map, SM.andB, SM.orB, SM.callO, SM.borrow, SM.bor, SM.fail, SM.chain, SM.ite, PutI.ow, RFld.get, noX, bindX, Out.bind, OMem.get, OMem.set, OSub.map, OSel.get, OSel.rest, OSel.join, runO, runZ, runJ, id, if_true, if_false, Bool.false_eq_true, Bool.not_true, Bool.not_false, if_pos s1]
  rw [mapS_map (f := ex P) s (fun _ _ => rfl) (fun c hc => by
    have at1 := m_atoms K (x := mk1 ps (pv P)) PL.V.R (pt_get PL.pp) (fun c v e => ⟨PL.V.two c v e, fun a ha => ch_small a (PL.V.ch a (PL.V.mem c v e a ha))⟩) (ch_small c (PL.V.ch c (hs c hc))) (Nat.le_trans (PL.V.len c) (by decide))
    simp only [SM.bind, SM.ret, SM.lift, SM.lifx, SM.map, SM.andB, SM.orB, SM.callO, SM.borrow, SM.bor, SM.fail, SM.chain, SM.ite, PutI.ow, RFld.get, noX, bindX, Out.bind, OMem.get, OMem.set, OSub.map, OSel.get, OSel.rest, OSel.join, runO, runZ, runJ, id, if_true, if_false, Bool.false_eq_true, Bool.not_true, Bool.not_false, at1])]
  simp only [SM.bind, SM.ret, SM.lift, SM.lifx, SM.map, SM.andB, SM.orB, SM.callO, SM.borrow, SM.bor, SM.fail, SM.chain, SM.ite, PutI.ow, RFld.get, noX, bindX, Out.bind, OMem.get, OMem.set, OSub.map, OSel.get, OSel.rest, OSel.join, runO, runZ, runJ, id, if_true, if_false, Bool.false_eq_true, Bool.not_true, Bool.not_false]
  rw [show (s.map (ex P)).flatten = fx P s from (List.flatMap_def ..).symm]
  simp only [SM.bind, SM.ret, SM.lift, SM.lifx, SM.map, SM.andB, SM.orB, SM.callO, SM.borrow, SM.bor, SM.fail, SM.chain, SM.ite, PutI.ow, RFld.get, noX, bindX, Out.bind, OMem.get, OMem.set, OSub.map, OSel.get, OSel.rest, OSel.join, runO, runZ, runJ, id, if_true, if_false, Bool.false_eq_true, Bool.not_true, Bool.not_false, if_pos s2, m_law_sorted K PL (fx_in PL hs) (by omega)]
end K

namespace K
open PySem PySem.Spec PyProof.Rows L2 Mi Pb
variable (K : PySem.W.Frag)
variable {ks ps B : List Nat} {C : Nat → Int} {P : PF} {rk : Nat → Nat}
theorem flat_one : ∀ {ys : List (List Nat)} {l : List Nat}, (∀ y ∈ ys, y ∈ l.map fun c => [c]) → ys.flatten.length = ys.length ∧ ∀ c ∈ ys.flatten, c ∈ l
  | [], _, _ => ⟨rfl, fun c h => by cases h⟩
  | y :: ys, l, h => by
    obtain ⟨h1, h2⟩ := flat_one (ys := ys) (l := l) fun z hz => h z (List.mem_cons_of_mem _ hz)
    obtain ⟨a, ha, e⟩ := List.mem_map.mp (h y (List.mem_cons_self ..))
    subst e
    refine ⟨by rw [List.flatten_cons, List.length_append, List.length_singleton, h1, List.length_cons]; omega, fun c hc => ?_⟩
    rw [List.flatten_cons, List.singleton_append] at hc
    rcases List.mem_cons.mp hc with z | z
    · rw [z]; exact ha
    · exact h2 c z
theorem rng_len0 {t : Int} : (rng 0 t).length = t.toNat := by unfold rng; rw [List.length_map, List.length_range, Int.sub_zero]
theorem m_text {n : Nat} {b : List Int} (h : Bx n b) (hn : n + 100 < 2 ^ 18) (PL : Pln ks ps C P rk) (h0 : ks ≠ []) {m : Int} (m0 : 0 ≤ m) (m1 : m ≤ 60) :
    ∃ (s : List Nat) (y : List Int), r__law_text K b ((mk1 ks C, mk1 ps (pv P), B, ()), m, ()) = some (.ok s, y) ∧ (∀ c ∈ s, c ∈ ks) ∧ (s.length : Int) ≤ m ∧ Bx (n + 100) y := by
  unfold r__law_text d__law_text
  obtain ⟨t, y1, e1, t0, t1, b1⟩ := h.take (K := K) (by omega) (m := m + 1) (by omega) (by omega)
  have hs : small62 t := by unfold small62; omega
  have hrl : (rng 0 t).length ≤ sizeLine := by rw [rng_len0, sizeLine_eq]; omega
  have hpos := List.length_pos_iff.mpr h0
  have hkl := PL.V.n1
  simp only [SM.bind, SM.ret, SM.lift, SM.lifx, SM.map, SM.andB, SM.orB, SM.callO, SM.borrow, SM.bor, SM.fail, SM.chain, SM.ite, PutI.ow, RFld.get, noX, bindX, Out.bind, OMem.get, OMem.set, OSub.map, OSel.get, OSel.rest, OSel.join, runO, runZ, runJ, id, if_true, if_false, Bool.false_eq_true, Bool.not_true, Bool.not_false, e1, if_pos hs, if_pos hrl, mk1_fst]
  generalize hE : mapS _ _ (rng 0 t) _ = E
  have hx : ∃ (ys : List (List Nat)) (o' : List Int × Unit), E = some (.ok ys, o') ∧ Bx (n + 1 + (rng 0 t).length) o'.1 ∧ ys.length = (rng 0 t).length ∧ ∀ y ∈ ys, y ∈ ks.map fun c => [c] := by
    rw [← hE]
    refine mapS_all (I := fun k (o : List Int × Unit) => Bx k o.1) (R := fun y => y ∈ ks.map fun c => [c]) (fun _ _ => rfl) (rng 0 t) (n + 1) (y1, ()) (fun x _ k (o : List Int × Unit) hk hk2 hI => ?_) b1
    obtain ⟨bx, u⟩ := o
    have hI : Bx k bx := hI
    rw [rng_len0] at hk2
    obtain ⟨d, y2, e2, d0, d1, b2⟩ := hI.take (K := K) (by omega) (m := (((ks.map fun c => [c]).length : Nat) : Int)) (by rw [List.length_map]; omega) (by rw [List.length_map]; omega)
    obtain ⟨hd, ed⟩ := atI_lt (l := ks.map fun c => [c]) d0 d1
    refine ⟨_, (y2, u), ?_, b2, List.getElem_mem hd⟩
    simp only [SM.bind, SM.ret, SM.lift, SM.lifx, SM.map, SM.andB, SM.orB, SM.callO, SM.borrow, SM.bor, SM.fail, SM.chain, SM.ite, PutI.ow, RFld.get, noX, bindX, Out.bind, OMem.get, OMem.set, OSub.map, OSel.get, OSel.rest, OSel.join, runO, runZ, runJ, id, if_true, if_false, Bool.false_eq_true, Bool.not_true, Bool.not_false, e2, ed]
  obtain ⟨ys, ⟨y2, u⟩, e2, b2, l2, r2⟩ := hx
  obtain ⟨f1, f2⟩ := flat_one r2
  subst e2
  have q1 : ys.flatten.length ≤ 16777216 := by rw [f1, l2, rng_len0]; omega
  simp only [SM.bind, SM.ret, SM.lift, SM.lifx, SM.map, SM.andB, SM.orB, SM.callO, SM.borrow, SM.bor, SM.fail, SM.chain, SM.ite, PutI.ow, RFld.get, noX, bindX, Out.bind, OMem.get, OMem.set, OSub.map, OSel.get, OSel.rest, OSel.join, runO, runZ, runJ, id, if_true, if_false, Bool.false_eq_true, Bool.not_true, Bool.not_false, if_pos q1]
  exact ⟨_, _, rfl, f2, by rw [f1, l2, rng_len0]; omega, b2.mono (by rw [rng_len0]; omega)⟩
theorem m_of_marks {n : Nat} {b : List Int} (h : Bx n b) (hn : n + 100 < 2 ^ 18) (PL : Pln ks ps C P rk) {m : Int} (m0 : 0 ≤ m) (m1 : m ≤ 60) :
    ∃ (s : List Nat) (y : List Int), r__law_of_marks K b ((mk1 ks C, mk1 ps (pv P), B, ()), m, ()) = some (.ok s, y) ∧ (∀ c ∈ s, c ∈ ks) ∧ (s.length : Int) ≤ m ∧ Bx (n + 100) y := by
  unfold r__law_of_marks d__law_of_marks
  have hkl := PL.V.n1
  have s1 : (List.map (fun c => [c]) ks).length ≤ sizeLine := small_len (by rw [List.length_map]; omega)
  simp only [SM.bind, SM.ret, SM.lift, SM.lifx, SM.map, SM.andB, SM.orB, SM.callO, SM.borrow, SM.bor, SM.fail, SM.chain, SM.ite, PutI.ow, RFld.get, noX, bindX, Out.bind, OMem.get, OMem.set, OSub.map, OSel.get, OSel.rest, OSel.join, runO, runZ, runJ, id, if_true, if_false, Bool.false_eq_true, Bool.not_true, Bool.not_false, mk1_fst, if_pos s1]
  rw [mapS_sing (p := fun c => decide (0 < C c)) ks (fun c hc => by simp only [SM.bind, SM.ret, SM.lift, SM.lifx, SM.map, SM.andB, SM.orB, SM.callO, SM.borrow, SM.bor, SM.fail, SM.chain, SM.ite, PutI.ow, RFld.get, noX, bindX, Out.bind, OMem.get, OMem.set, OSub.map, OSel.get, OSel.rest, OSel.join, runO, runZ, runJ, id, if_true, if_false, Bool.false_eq_true, Bool.not_true, Bool.not_false, mk1_get, if_pos hc]) (fun _ _ => rfl)]
  have hml : (ks.filter fun c => decide (0 < C c)).length ≤ 30 := Nat.le_trans (List.length_filter_le _ _) hkl
  have hmi : ∀ c ∈ ks.filter (fun c => decide (0 < C c)), c ∈ ks := fun c hc => (List.mem_filter.mp hc).1
  generalize ks.filter (fun c => decide (0 < C c)) = ms at *
  have hok : okL (ms.map fun c => [c]) = true := by
    unfold okL
    rw [List.all_map, List.all_eq_true]
    intro c hc
    have := ch_small c (PL.V.ch c (hmi c hc))
    simp [okC, this]
  simp only [SM.bind, SM.ret, SM.lift, SM.lifx, SM.map, SM.andB, SM.orB, SM.callO, SM.borrow, SM.bor, SM.fail, SM.chain, SM.ite, PutI.ow, RFld.get, noX, bindX, Out.bind, OMem.get, OMem.set, OSub.map, OSel.get, OSel.rest, OSel.join, runO, runZ, runJ, id, if_true, if_false, Bool.false_eq_true, Bool.not_true, Bool.not_false, hok, and_self]
  generalize hw : (if (!decide (List.map (fun c => [c]) ms = [])) = true then (1 : Int) else 0) = wd
  have hwd : (wd = 0 ∨ (wd = 1 ∧ ms ≠ [])) := by
    rw [← hw]
    cases ms with
    | nil => left; simp
    | cons a r => right; simp
  have q1 : CMul m wd := mul_ok (by omega)
  have hmw : 0 ≤ m * wd ∧ m * wd ≤ m := by
    rcases hwd with z | ⟨z, _⟩ <;> rw [z] <;> simp <;> omega
  have hs : small62 (m * wd) := by unfold small62; omega
  have hrl : (rng 0 (m * wd)).length ≤ sizeLine := by rw [rng_len0, sizeLine_eq]; omega
  simp only [SM.bind, SM.ret, SM.lift, SM.lifx, SM.map, SM.andB, SM.orB, SM.callO, SM.borrow, SM.bor, SM.fail, SM.chain, SM.ite, PutI.ow, RFld.get, noX, bindX, Out.bind, OMem.get, OMem.set, OSub.map, OSel.get, OSel.rest, OSel.join, runO, runZ, runJ, id, if_true, if_false, Bool.false_eq_true, Bool.not_true, Bool.not_false, if_pos q1, if_pos hs, if_pos hrl]
  generalize hE : mapS _ _ (rng 0 (m * wd)) _ = E
  have hx : ∃ (ys : List (List Nat)) (o' : List Int × Unit), E = some (.ok ys, o') ∧ Bx (n + (rng 0 (m * wd)).length) o'.1 ∧ ys.length = (rng 0 (m * wd)).length ∧ ∀ y ∈ ys, y ∈ ms.map fun c => [c] := by
    rw [← hE]
    refine mapS_all (I := fun k (o : List Int × Unit) => Bx k o.1) (R := fun y => y ∈ ms.map fun c => [c]) (fun _ _ => rfl) (rng 0 (m * wd)) n (b, ()) (fun x hxm k (o : List Int × Unit) hk hk2 hI => ?_) h
    obtain ⟨bx, u⟩ := o
    have hI : Bx k bx := hI
    rw [rng_len0] at hk2
    have hne : ms ≠ [] := by
      rcases hwd with z | ⟨_, z⟩
      · rw [z, Int.mul_zero] at hxm
        have hxm' : x ∈ ([] : List Int) := hxm
        cases hxm'
      · exact z
    have hpos := List.length_pos_iff.mpr hne
    obtain ⟨d, y2, e2, d0, d1, b2⟩ := hI.take (K := K) (by omega) (m := (((ms.map fun c => [c]).length : Nat) : Int)) (by rw [List.length_map]; omega) (by rw [List.length_map]; omega)
    obtain ⟨hd, ed⟩ := atI_lt (l := ms.map fun c => [c]) d0 d1
    refine ⟨_, (y2, u), ?_, b2, List.getElem_mem hd⟩
    simp only [SM.bind, SM.ret, SM.lift, SM.lifx, SM.map, SM.andB, SM.orB, SM.callO, SM.borrow, SM.bor, SM.fail, SM.chain, SM.ite, PutI.ow, RFld.get, noX, bindX, Out.bind, OMem.get, OMem.set, OSub.map, OSel.get, OSel.rest, OSel.join, runO, runZ, runJ, id, if_true, if_false, Bool.false_eq_true, Bool.not_true, Bool.not_false, e2, ed]
  obtain ⟨ys, ⟨y2, u⟩, e2, b2, l2, r2⟩ := hx
  obtain ⟨f1, f2⟩ := flat_one r2
  subst e2
  have q2 : ys.flatten.length ≤ 16777216 := by rw [f1, l2, rng_len0]; omega
  simp only [SM.bind, SM.ret, SM.lift, SM.lifx, SM.map, SM.andB, SM.orB, SM.callO, SM.borrow, SM.bor, SM.fail, SM.chain, SM.ite, PutI.ow, RFld.get, noX, bindX, Out.bind, OMem.get, OMem.set, OSub.map, OSel.get, OSel.rest, OSel.join, runO, runZ, runJ, id, if_true, if_false, Bool.false_eq_true, Bool.not_true, Bool.not_false, if_pos q2]
  exact ⟨_, _, rfl, fun c hc => hmi c (f2 c hc), by rw [f1, l2, rng_len0]; omega, b2.mono (by rw [rng_len0]; omega)⟩
theorem mem_rng0 {k N : Int} (h : k ∈ rng 0 N) : 0 ≤ k := by
  unfold rng at h
  obtain ⟨a, _, rfl⟩ := List.mem_map.mp h
  omega
theorem m_law (ns : List Int) : r_law K (ns, ()) = some (.ok true) := by
  unfold r_law d_law
  simp only [SM.bind, SM.ret, SM.lift, SM.lifx, SM.map, SM.andB, SM.orB, SM.callO, SM.borrow, SM.bor, SM.fail, SM.chain, SM.ite, PutI.ow, RFld.get, noX, bindX, Out.bind, OMem.get, OMem.set, OSub.map, OSel.get, OSel.rest, OSel.join, runO, runZ, runJ, id, if_true, if_false, Bool.false_eq_true, Bool.not_true, Bool.not_false]
  generalize hN : (if (if (ns.length : Int) < 6 then (ns.length : Int) else 6) > 2 then if (ns.length : Int) < 6 then (ns.length : Int) else 6 else 2) = N
  have hN6 : 0 ≤ N ∧ N ≤ 6 := by
    rw [← hN]
    split <;> split <;> omega
  have hs : small62 N := by unfold small62; omega
  simp only [SM.bind, SM.ret, SM.lift, SM.lifx, SM.map, SM.andB, SM.orB, SM.callO, SM.borrow, SM.bor, SM.fail, SM.chain, SM.ite, PutI.ow, RFld.get, noX, bindX, Out.bind, OMem.get, OMem.set, OSub.map, OSel.get, OSel.rest, OSel.join, runO, runZ, runJ, id, if_true, if_false, Bool.false_eq_true, Bool.not_true, Bool.not_false, if_pos hs]
  rw [forS_unit _ fun k hk => by
    have hk0 : 0 ≤ k := mem_rng0 hk
    obtain ⟨c, e1⟩ := m_cell K ns k hk0
    obtain ⟨x, e2, b0⟩ := m_box K c
    simp only [SM.bind, SM.ret, SM.lift, SM.lifx, SM.map, SM.andB, SM.orB, SM.callO, SM.borrow, SM.bor, SM.fail, SM.chain, SM.ite, PutI.ow, RFld.get, noX, bindX, Out.bind, OMem.get, OMem.set, OSub.map, OSel.get, OSel.rest, OSel.join, runO, runZ, runJ, id, if_true, if_false, Bool.false_eq_true, Bool.not_true, Bool.not_false, e1, e2]
    generalize hmid : (if decide (k = 0) = true then _ else SM.ret false : SM _ Bool) (x, ()) = mid
    obtain ⟨w, y, hm, b1⟩ : ∃ w y, mid = some (.ok w, (y, ())) ∧ Bx 1 y := by
      rw [← hmid]
      by_cases h : k = 0
      · obtain ⟨d, y, f1, _, _, j1⟩ := b0.take (K := K) (by decide) (m := 3) (by decide) (by decide)
        refine ⟨decide (d = 0), y, ?_, j1⟩
        simp only [SM.bind, SM.ret, SM.lift, SM.lifx, SM.map, SM.andB, SM.orB, SM.callO, SM.borrow, SM.bor, SM.fail, SM.chain, SM.ite, PutI.ow, RFld.get, noX, bindX, Out.bind, OMem.get, OMem.set, OSub.map, OSel.get, OSel.rest, OSel.join, runO, runZ, runJ, id, if_true, if_false, Bool.false_eq_true, Bool.not_true, Bool.not_false, decide_eq_true h, f1]
      · refine ⟨false, x, ?_, b0.mono (by decide)⟩
        simp only [SM.bind, SM.ret, SM.lift, SM.lifx, SM.map, SM.andB, SM.orB, SM.callO, SM.borrow, SM.bor, SM.fail, SM.chain, SM.ite, PutI.ow, RFld.get, noX, bindX, Out.bind, OMem.get, OMem.set, OSub.map, OSel.get, OSel.rest, OSel.join, runO, runZ, runJ, id, if_true, if_false, Bool.false_eq_true, Bool.not_true, Bool.not_false, decide_eq_false h]
    subst hm
    generalize hw : (if w = true then (1 : Int) else 0) = wd
    have hwd : 0 ≤ wd ∧ wd ≤ 1 := by rw [← hw]; cases w <;> simp
    obtain ⟨d, y2, f2, d0, d1, b2⟩ := b1.take (K := K) (by decide) (m := 10) (by decide) (by decide)
    obtain ⟨t, y3, f3, t0, t1, b3⟩ := b2.take (K := K) (by decide) (m := 10) (by decide) (by decide)
    have q1 : CMul 10 wd := mul_ok (by omega)
    obtain ⟨ks, ps, C, P, rk, B, y4, f4, PL, n1, n2, hB, hBl, b4⟩ := m_table K b3 (by decide) (at_ := 1 + d + 10 * wd) (cp := t + wd) (by omega) (by omega) (by omega)
    have h0 : ks ≠ [] := fun z => by rw [z] at n1; simp at n1; omega
    obtain ⟨y5, f5, b5⟩ := m_made K b4 (by decide) PL h0 hB
    obtain ⟨p1, y6, f6, c1, l1, b6⟩ := m_text K b5 (by decide) PL h0 (B := B) (m := 6) (by decide) (by decide)
    obtain ⟨e, y7, f7, e0, e1', b7⟩ := b6.take (K := K) (by decide) (m := 4) (by decide) (by decide)
    obtain ⟨v, ev, v0, v1⟩ : ∃ v, atI [(12 : Int), 60] (if (decide (e = 0)) = true then (1 : Int) else 0) = some v ∧ 0 ≤ v ∧ v ≤ 60 := by
      by_cases z : e = 0
      · exact ⟨60, by rw [decide_eq_true z]; rfl, by decide, by decide⟩
      · exact ⟨12, by rw [decide_eq_false z]; rfl, by decide, by decide⟩
    obtain ⟨p2, y8, f8, c2, l2, b8⟩ := m_text K b7 (by decide) PL h0 (B := B) (m := v) v0 v1
    obtain ⟨p3, y9, f9, c3, l3, b9⟩ := m_of_marks K b8 (by decide) PL (B := B) (m := 9) (by decide) (by decide)
    obtain ⟨p4, y10, f10, c4, l4, b10⟩ := m_text K b9 (by decide) PL h0 (B := B) (m := 3) (by decide) (by decide)
    obtain ⟨p5, y11, f11, c5, l5, b11⟩ := m_of_marks K b10 (by decide) PL (B := B) (m := 5) (by decide) (by decide)
    have q2 : p4.length + p5.length ≤ sizeLine := by rw [sizeLine_eq]; omega
    have q3 : 5 ≤ sizeLine := by rw [sizeLine_eq]; decide
    simp only [SM.bind, SM.ret, SM.lift, SM.lifx, SM.map, SM.andB, SM.orB, SM.callO, SM.borrow, SM.bor, SM.fail, SM.chain, SM.ite, PutI.ow, RFld.get, noX, bindX, Out.bind, OMem.get, OMem.set, OSub.map, OSel.get, OSel.rest, OSel.join, runO, runZ, runJ, id, if_true, if_false, Bool.false_eq_true, Bool.not_true, Bool.not_false, hw, f2, if_pos q1, f3, f4, f5, f6, f7, ev, f8, f9, f10, f11, if_pos q2, List.length_cons, List.length_nil, Nat.reduceAdd, if_pos q3, List.cons_append, List.nil_append]
    have pages : ∀ p ∈ [p1, p2, [], p3, p4 ++ p5], (∀ c ∈ p, c ∈ ks) ∧ p.length ≤ 60 := fun p hp => by
      simp only [List.mem_cons, List.not_mem_nil, or_false] at hp
      rcases hp with rfl | rfl | rfl | rfl | rfl
      · exact ⟨c1, by omega⟩
      · exact ⟨c2, by omega⟩
      · exact ⟨(fun c h => by cases h), by simp⟩
      · exact ⟨c3, by omega⟩
      · refine ⟨fun c h => ?_, by rw [List.length_append]; omega⟩
        rcases List.mem_append.mp h with z | z
        · exact c4 c z
        · exact c5 c z
    rw [forS_unit _ fun p hp => by
      obtain ⟨hpi, hpl⟩ := pages p hp
      have g1 := m_law_form K PL (B := B) hpi (by omega)
      have g2 := m_decomposed K PL (B := B) hpi hpl
      have perm := nf_facts PL hpi
      have hfl := fx_len PL p
      have hin : ∀ c ∈ nf C (fx P p), c ∈ ks := fun c hc => fx_in PL hpi c (perm.mem_iff.mp hc)
      have hat : ∀ c ∈ nf C (fx P p), P c = none := fun c hc => fx_atoms PL c (perm.mem_iff.mp hc)
      have hlen := perm.length_eq
      have sd : Sd 480 0 (PyData.str (sOf (nf C (fx P p)))) := sd_str (fun c hc => ch_small c (PL.V.ch c (hin c hc))) (by omega)
      have s1 : (nf C (fx P p)).length ≤ sizeLine := small_len (by omega)
      simp only [SM.bind, SM.ret, SM.lift, SM.lifx, SM.map, SM.andB, SM.orB, SM.callO, SM.borrow, SM.bor, SM.fail, SM.chain, SM.ite, PutI.ow, RFld.get, noX, bindX, Out.bind, OMem.get, OMem.set, OSub.map, OSel.get, OSel.rest, OSel.join, runO, runZ, runJ, id, if_true, if_false, Bool.false_eq_true, Bool.not_true, Bool.not_false, g1, g2, reprO_ok sd (show isLeaf _ = true from rfl) (by decide) (by decide), decide_true, swapT, if_pos s1]
      by_cases h60 : (nf C (fx P p)).length ≤ 60
      · have g3 := m_decomposed K PL (B := B) hin h60
        rw [fx_id hat, nf_nf] at g3
        have h60' : decide (((nf C (fx P p)).length : Int) ≤ 60) = true := decide_eq_true (by omega)
        simp only [SM.bind, SM.ret, SM.lift, SM.lifx, SM.map, SM.andB, SM.orB, SM.callO, SM.borrow, SM.bor, SM.fail, SM.chain, SM.ite, PutI.ow, RFld.get, noX, bindX, Out.bind, OMem.get, OMem.set, OSub.map, OSel.get, OSel.rest, OSel.join, runO, runZ, runJ, id, if_true, if_false, Bool.false_eq_true, Bool.not_true, Bool.not_false, h60', g3, decide_true]
      · have h60' : decide (((nf C (fx P p)).length : Int) ≤ 60) = false := decide_eq_false (by omega)
        simp only [SM.bind, SM.ret, SM.lift, SM.lifx, SM.map, SM.andB, SM.orB, SM.callO, SM.borrow, SM.bor, SM.fail, SM.chain, SM.ite, PutI.ow, RFld.get, noX, bindX, Out.bind, OMem.get, OMem.set, OSub.map, OSel.get, OSel.rest, OSel.join, runO, runZ, runJ, id, if_true, if_false, Bool.false_eq_true, Bool.not_true, Bool.not_false, h60']]]
/-- the law's promise -/
theorem sp_law {K : PySem.W.Frag} {mg : Str → Option Value} {H : Hp} {a : Addr} (ns : List Int) (hT : ∀ p ∈ TG K, H p.1 = some (.tbl #[])) (nd : ((TG K).map (·.1)).Nodup) (hS : SqL K H a (ns.map V.int)) : spP mg [tTg (TG K) (tScr K)] tBool (r_law K) [.ref a] H (fun v _ => v = .bl true) fun _ _ _ => False := by
  obtain ⟨F, g, kn, hS'⟩ := tab_start hT nd hS
  refine ⟨(ns, ()), F, emp, ⟨.ref a, [], rfl, ⟨⟨rfl, a, rfl, hS'⟩, kn⟩, rfl⟩, g, ?_⟩
  rw [show r_law K (ns, ()) = some (.ok true) from m_law K ns]
  exact fun v F' mm M' H' _ _ _ r => r.2
end K

namespace K
open PySem PySem.Spec PyProof.Rows L2 Mi

/-! ### each def keeps its promise -/
abbrev FnAt (M : Md) (nm : Str) (st : Stmt) : Prop := ∃ f fd, M.mg nm = some (.ref f) ∧ FunD M.K nm nm (defArgs st) (defBody st) (defScope st) [] [] f fd
abbrev Fr (M : Md) : Prop := ∀ (i : Nat) (x : Str), Bn[i]? = some x → M.mg x = none
theorem ok__law_cell {M : Md} {f : Addr} {fd : FuncData} (F : FunD M.K "_law_cell" "_law_cell" (defArgs st__law_cell) (defBody st__law_cell) (defScope st__law_cell) [] [] f fd) (fr : Fr M) (lks : L__law_cell M.K M) : FnOk M.P M.w M.K M.mg M.base (L2.CX M.P M.w) 1 f fd ps__law_cell (spP M.mg [(tScr M.K), tInt] tInt (r__law_cell M.K)) :=
  fn_P F (Lks := L__law_cell M.K) (tr := tInt) lks (z := (none)) fr (by decide +kernel) rfl (fun X l xo xs x => ((d__law_cell M.K).2 X l xo xs x)) (fun y h => by cases h)
theorem lk__law_cell {M : Md} (A : FnAt M "_law_cell" st__law_cell) (fr : Fr M) (lks : L__law_cell M.K M) : LkP M "_law_cell" ps__law_cell [(tScr M.K), tInt] tInt (r__law_cell M.K) 1 := by
  obtain ⟨f, fd, g, F⟩ := A
  exact ⟨f, fd, g, F.kp, F.bindsN fun _ _ _ _ _ _ us hl => match us, hl with | [_, _], _ => rfl, ok__law_cell F fr lks⟩
theorem ok__law_box {M : Md} {f : Addr} {fd : FuncData} (F : FunD M.K "_law_box" "_law_box" (defArgs st__law_box) (defBody st__law_box) (defScope st__law_box) [] [] f fd) (fr : Fr M) (lks : L__law_box M.K M) : FnOk M.P M.w M.K M.mg M.base (L2.CX M.P M.w) 1 f fd ps__law_box (spP M.mg [tInt] (tOwn tInt) (r__law_box M.K)) :=
  fn_P F (Lks := L__law_box M.K) (tr := (tOwn tInt)) lks (z := (none)) fr (by decide +kernel) rfl (fun X l xo xs x => ((d__law_box M.K).2 X l xo xs x)) (fun y h => by cases h)
theorem lk__law_box {M : Md} (A : FnAt M "_law_box" st__law_box) (fr : Fr M) (lks : L__law_box M.K M) : LkP M "_law_box" ps__law_box [tInt] (tOwn tInt) (r__law_box M.K) 1 := by
  obtain ⟨f, fd, g, F⟩ := A
  exact ⟨f, fd, g, F.kp, F.bindsN fun _ _ _ _ _ _ us hl => match us, hl with | [_], _ => rfl, ok__law_box F fr lks⟩
theorem ok__law_take {M : Md} {f : Addr} {fd : FuncData} (F : FunD M.K "_law_take" "_law_take" (defArgs st__law_take) (defBody st__law_take) (defScope st__law_take) [] [] f fd) (fr : Fr M) (lks : L__law_take M.K M) : FnOk M.P M.w M.K M.mg M.base (L2.CX M.P M.w) 1 f fd ps__law_take (spO M.mg (tOwn tInt) [tInt] tInt (r__law_take M.K)) :=
  fn_O F (Lks := L__law_take M.K) lks fr (by decide +kernel) rfl (fun X l xo xs x => ((d__law_take M.K).2 X l xo xs x))
theorem lk__law_take {M : Md} (A : FnAt M "_law_take" st__law_take) (fr : Fr M) (lks : L__law_take M.K M) : LkO M "_law_take" ps__law_take (tOwn tInt) [tInt] tInt (r__law_take M.K) 1 := by
  obtain ⟨f, fd, g, F⟩ := A
  exact ⟨f, fd, g, F.kp, F.bindsN fun _ _ _ _ _ _ us hl => match us, hl with | [_, _], _ => rfl, ok__law_take F fr lks⟩
theorem ok__law_chars {M : Md} {f : Addr} {fd : FuncData} (F : FunD M.K "_law_chars" "_law_chars" (defArgs st__law_chars) (defBody st__law_chars) (defScope st__law_chars) [] [] f fd) (fr : Fr M) (lks : L__law_chars M.K M) : FnOk M.P M.w M.K M.mg M.base (L2.CX M.P M.w) 2 f fd ps__law_chars (spO M.mg (tOwn tInt) [tInt] (tOwn tChr) (r__law_chars M.K)) :=
  fn_O F (Lks := L__law_chars M.K) lks fr (by decide +kernel) rfl (fun X l xo xs x => ((d__law_chars M.K).2 X l xo xs x))
theorem lk__law_chars {M : Md} (A : FnAt M "_law_chars" st__law_chars) (fr : Fr M) (lks : L__law_chars M.K M) : LkO M "_law_chars" ps__law_chars (tOwn tInt) [tInt] (tOwn tChr) (r__law_chars M.K) 2 := by
  obtain ⟨f, fd, g, F⟩ := A
  exact ⟨f, fd, g, F.kp, F.bindsN fun _ _ _ _ _ _ us hl => match us, hl with | [_, _], _ => rfl, ok__law_chars F fr lks⟩
theorem ok__law_atoms {M : Md} {f : Addr} {fd : FuncData} (F : FunD M.K "_law_atoms" "_law_atoms" (defArgs st__law_atoms) (defBody st__law_atoms) (defScope st__law_atoms) [] [] f fd) (fr : Fr M) (lks : L__law_atoms M.K M) : FnOk M.P M.w M.K M.mg M.base (L2.CX M.P M.w) 1 f fd ps__law_atoms (spP M.mg [(tHas [112, 97, 114, 116, 115] (tDct tStr)), tStr] tStr (r__law_atoms M.K)) :=
  fn_P F (Lks := L__law_atoms M.K) (tr := tStr) lks (z := (none)) fr (by decide +kernel) rfl (fun X l xo xs x => ((d__law_atoms M.K).2 X l xo xs x)) (fun y h => by cases h)
theorem lk__law_atoms {M : Md} (A : FnAt M "_law_atoms" st__law_atoms) (fr : Fr M) (lks : L__law_atoms M.K M) : LkP M "_law_atoms" ps__law_atoms [(tHas [112, 97, 114, 116, 115] (tDct tStr)), tStr] tStr (r__law_atoms M.K) 1 := by
  obtain ⟨f, fd, g, F⟩ := A
  exact ⟨f, fd, g, F.kp, F.bindsN fun _ _ _ _ _ _ us hl => match us, hl with | [_, _], _ => rfl, ok__law_atoms F fr lks⟩
theorem ok__law_barred {M : Md} {f : Addr} {fd : FuncData} (F : FunD M.K "_law_barred" "_law_barred" (defArgs st__law_barred) (defBody st__law_barred) (defScope st__law_barred) [] [] f fd) (fr : Fr M) (lks : L__law_barred M.K M) : FnOk M.P M.w M.K M.mg M.base (L2.CX M.P M.w) 2 f fd ps__law_barred (spO M.mg (tOwn tInt) [(tDctL tStr)] tStr (r__law_barred M.K)) :=
  fn_O F (Lks := L__law_barred M.K) lks fr (by decide +kernel) rfl (fun X l xo xs x => ((d__law_barred M.K).2 X l xo xs x))
theorem lk__law_barred {M : Md} (A : FnAt M "_law_barred" st__law_barred) (fr : Fr M) (lks : L__law_barred M.K M) : LkO M "_law_barred" ps__law_barred (tOwn tInt) [(tDctL tStr)] tStr (r__law_barred M.K) 2 := by
  obtain ⟨f, fd, g, F⟩ := A
  exact ⟨f, fd, g, F.kp, F.bindsN fun _ _ _ _ _ _ us hl => match us, hl with | [_, _], _ => rfl, ok__law_barred F fr lks⟩
theorem ok__law_table {M : Md} {f : Addr} {fd : FuncData} (F : FunD M.K "_law_table" "_law_table" (defArgs st__law_table) (defBody st__law_table) (defScope st__law_table) [] [] f fd) (fr : Fr M) (lks : L__law_table M.K M) : FnOk M.P M.w M.K M.mg M.base (L2.CX M.P M.w) 3 f fd ps__law_table (spO M.mg (tOwn tInt) [tInt, tInt] (tRec [([99, 108, 97, 115, 115, 101, 115], (tDctL tInt)), ([112, 97, 114, 116, 115], (tDctL tStr)), ([98, 97, 114, 114, 101, 100], tStr)]) (r__law_table M.K)) :=
  fn_O F (Lks := L__law_table M.K) lks fr (by decide +kernel) rfl (fun X l xo xs x => ((d__law_table M.K).2 X l xo xs x))
theorem lk__law_table {M : Md} (A : FnAt M "_law_table" st__law_table) (fr : Fr M) (lks : L__law_table M.K M) : LkO M "_law_table" ps__law_table (tOwn tInt) [tInt, tInt] (tRec [([99, 108, 97, 115, 115, 101, 115], (tDctL tInt)), ([112, 97, 114, 116, 115], (tDctL tStr)), ([98, 97, 114, 114, 101, 100], tStr)]) (r__law_table M.K) 3 := by
  obtain ⟨f, fd, g, F⟩ := A
  exact ⟨f, fd, g, F.kp, F.bindsN fun _ _ _ _ _ _ us hl => match us, hl with | [_, _, _], _ => rfl, ok__law_table F fr lks⟩
theorem ok__law_turned_i {M : Md} {f : Addr} {fd : FuncData} (F : FunD M.K "_law_turned" "_law_turned" (defArgs st__law_turned_i) (defBody st__law_turned_i) (defScope st__law_turned_i) [] [] f fd) (fr : Fr M) (lks : L__law_turned_i M.K M) : FnOk M.P M.w M.K M.mg M.base (L2.CX M.P M.w) 2 f fd ps__law_turned_i (spO M.mg (tOwn tInt) [(tDctL tInt)] (tOwnD tInt) (r__law_turned_i M.K)) :=
  fn_O F (Lks := L__law_turned_i M.K) lks fr (by decide +kernel) rfl (fun X l xo xs x => ((d__law_turned_i M.K).2 X l xo xs x))
theorem lk__law_turned_i {M : Md} (A : FnAt M "_law_turned" st__law_turned_i) (fr : Fr M) (lks : L__law_turned_i M.K M) : LkO M "_law_turned" ps__law_turned_i (tOwn tInt) [(tDctL tInt)] (tOwnD tInt) (r__law_turned_i M.K) 2 := by
  obtain ⟨f, fd, g, F⟩ := A
  exact ⟨f, fd, g, F.kp, F.bindsN fun _ _ _ _ _ _ us hl => match us, hl with | [_, _], _ => rfl, ok__law_turned_i F fr lks⟩
theorem ok__law_turned_s {M : Md} {f : Addr} {fd : FuncData} (F : FunD M.K "_law_turned" "_law_turned" (defArgs st__law_turned_s) (defBody st__law_turned_s) (defScope st__law_turned_s) [] [] f fd) (fr : Fr M) (lks : L__law_turned_s M.K M) : FnOk M.P M.w M.K M.mg M.base (L2.CX M.P M.w) 2 f fd ps__law_turned_s (spO M.mg (tOwn tInt) [(tDctL tStr)] (tOwnD tStr) (r__law_turned_s M.K)) :=
  fn_O F (Lks := L__law_turned_s M.K) lks fr (by decide +kernel) rfl (fun X l xo xs x => ((d__law_turned_s M.K).2 X l xo xs x))
theorem lk__law_turned_s {M : Md} (A : FnAt M "_law_turned" st__law_turned_s) (fr : Fr M) (lks : L__law_turned_s M.K M) : LkO M "_law_turned" ps__law_turned_s (tOwn tInt) [(tDctL tStr)] (tOwnD tStr) (r__law_turned_s M.K) 2 := by
  obtain ⟨f, fd, g, F⟩ := A
  exact ⟨f, fd, g, F.kp, F.bindsN fun _ _ _ _ _ _ us hl => match us, hl with | [_, _], _ => rfl, ok__law_turned_s F fr lks⟩
theorem ok_is_character_s {M : Md} {f : Addr} {fd : FuncData} (F : FunD M.K "is_character" "is_character" (defArgs st_is_character_s) (defBody st_is_character_s) (defScope st_is_character_s) [] [] f fd) (fr : Fr M) (lks : L_is_character_s M.K M) : FnOk M.P M.w M.K M.mg M.base (L2.CX M.P M.w) 1 f fd ps_is_character_s (spP M.mg [tStr] tBool (r_is_character_s M.K)) :=
  fn_P F (Lks := L_is_character_s M.K) (tr := tBool) lks (z := (none)) fr (by decide +kernel) rfl (fun X l xo xs x => ((d_is_character_s M.K).2 X l xo xs x)) (fun y h => by cases h)
theorem lk_is_character_s {M : Md} (A : FnAt M "is_character" st_is_character_s) (fr : Fr M) (lks : L_is_character_s M.K M) : LkP M "is_character" ps_is_character_s [tStr] tBool (r_is_character_s M.K) 1 := by
  obtain ⟨f, fd, g, F⟩ := A
  exact ⟨f, fd, g, F.kp, F.bindsN fun _ _ _ _ _ _ us hl => match us, hl with | [_], _ => rfl, ok_is_character_s F fr lks⟩
theorem ok_is_character_c {M : Md} {f : Addr} {fd : FuncData} (F : FunD M.K "is_character" "is_character" (defArgs st_is_character_c) (defBody st_is_character_c) (defScope st_is_character_c) [] [] f fd) (fr : Fr M) (lks : L_is_character_c M.K M) : FnOk M.P M.w M.K M.mg M.base (L2.CX M.P M.w) 1 f fd ps_is_character_c (spP M.mg [tChr] tBool (r_is_character_c M.K)) :=
  fn_P F (Lks := L_is_character_c M.K) (tr := tBool) lks (z := (none)) fr (by decide +kernel) rfl (fun X l xo xs x => ((d_is_character_c M.K).2 X l xo xs x)) (fun y h => by cases h)
theorem lk_is_character_c {M : Md} (A : FnAt M "is_character" st_is_character_c) (fr : Fr M) (lks : L_is_character_c M.K M) : LkP M "is_character" ps_is_character_c [tChr] tBool (r_is_character_c M.K) 1 := by
  obtain ⟨f, fd, g, F⟩ := A
  exact ⟨f, fd, g, F.kp, F.bindsN fun _ _ _ _ _ _ us hl => match us, hl with | [_], _ => rfl, ok_is_character_c F fr lks⟩
theorem ok_in_order {M : Md} {f : Addr} {fd : FuncData} (F : FunD M.K "in_order" "in_order" (defArgs st_in_order) (defBody st_in_order) (defScope st_in_order) [] [] f fd) (fr : Fr M) (lks : L_in_order M.K M) : FnOk M.P M.w M.K M.mg M.base (L2.CX M.P M.w) 2 f fd ps_in_order (spP M.mg [tStr] tStr (r_in_order M.K)) :=
  fn_P F (Lks := L_in_order M.K) (tr := tStr) lks (z := (none)) fr (by decide +kernel) rfl (fun X l xo xs x => ((d_in_order M.K).2 X l xo xs x)) (fun y h => by cases h)
theorem lk_in_order {M : Md} (A : FnAt M "in_order" st_in_order) (fr : Fr M) (lks : L_in_order M.K M) : LkP M "in_order" ps_in_order [tStr] tStr (r_in_order M.K) 2 := by
  obtain ⟨f, fd, g, F⟩ := A
  exact ⟨f, fd, g, F.kp, F.bindsN fun _ _ _ _ _ _ us hl => match us, hl with | [_], _ => rfl, ok_in_order F fr lks⟩
theorem ok_is_class {M : Md} {f : Addr} {fd : FuncData} (F : FunD M.K "is_class" "is_class" (defArgs st_is_class) (defBody st_is_class) (defScope st_is_class) [] [] f fd) (fr : Fr M) (lks : L_is_class M.K M) : FnOk M.P M.w M.K M.mg M.base (L2.CX M.P M.w) 1 f fd ps_is_class (spP M.mg [tInt, tInt] tBool (r_is_class M.K)) :=
  fn_P F (Lks := L_is_class M.K) (tr := tBool) lks (z := (none)) fr (by decide +kernel) rfl (fun X l xo xs x => ((d_is_class M.K).2 X l xo xs x)) (fun y h => by cases h)
theorem lk_is_class {M : Md} (A : FnAt M "is_class" st_is_class) (fr : Fr M) (lks : L_is_class M.K M) : LkP M "is_class" ps_is_class [tInt, tInt] tBool (r_is_class M.K) 1 := by
  obtain ⟨f, fd, g, F⟩ := A
  exact ⟨f, fd, g, F.kp, F.bindsN fun _ _ _ _ _ _ us hl => match us, hl with | [_, _], _ => rfl, ok_is_class F fr lks⟩
theorem ok_require_classes {M : Md} {f : Addr} {fd : FuncData} (F : FunD M.K "require_classes" "require_classes" (defArgs st_require_classes) (defBody st_require_classes) (defScope st_require_classes) [] [] f fd) (fr : Fr M) (lks : L_require_classes M.K M) : FnOk M.P M.w M.K M.mg M.base (L2.CX M.P M.w) 3 f fd ps_require_classes (spP M.mg [(tDct tInt)] tNone (r_require_classes M.K)) :=
  fn_P F (Lks := L_require_classes M.K) (tr := tNone) lks (z := (some ())) fr (by decide +kernel) rfl (fun X l xo xs x => ((d_require_classes M.K).2 X l xo xs x)) (by intro y h F; exact ⟨rfl, rfl⟩)
theorem lk_require_classes {M : Md} (A : FnAt M "require_classes" st_require_classes) (fr : Fr M) (lks : L_require_classes M.K M) : LkP M "require_classes" ps_require_classes [(tDct tInt)] tNone (r_require_classes M.K) 3 := by
  obtain ⟨f, fd, g, F⟩ := A
  exact ⟨f, fd, g, F.kp, F.bindsN fun _ _ _ _ _ _ us hl => match us, hl with | [_], _ => rfl, ok_require_classes F fr lks⟩
theorem ok_is_text {M : Md} {f : Addr} {fd : FuncData} (F : FunD M.K "is_text" "is_text" (defArgs st_is_text) (defBody st_is_text) (defScope st_is_text) [] [] f fd) (fr : Fr M) (lks : L_is_text M.K M) : FnOk M.P M.w M.K M.mg M.base (L2.CX M.P M.w) 1 f fd ps_is_text (spP M.mg [tStr, tStr] tBool (r_is_text M.K)) :=
  fn_P F (Lks := L_is_text M.K) (tr := tBool) lks (z := (none)) fr (by decide +kernel) rfl (fun X l xo xs x => ((d_is_text M.K).2 X l xo xs x)) (fun y h => by cases h)
theorem lk_is_text {M : Md} (A : FnAt M "is_text" st_is_text) (fr : Fr M) (lks : L_is_text M.K M) : LkP M "is_text" ps_is_text [tStr, tStr] tBool (r_is_text M.K) 1 := by
  obtain ⟨f, fd, g, F⟩ := A
  exact ⟨f, fd, g, F.kp, F.bindsN fun _ _ _ _ _ _ us hl => match us, hl with | [_, _], _ => rfl, ok_is_text F fr lks⟩
theorem ok_reached_from {M : Md} {f : Addr} {fd : FuncData} (F : FunD M.K "reached_from" "reached_from" (defArgs st_reached_from) (defBody st_reached_from) (defScope st_reached_from) [] [] f fd) (fr : Fr M) (lks : L_reached_from M.K M) : FnOk M.P M.w M.K M.mg M.base (L2.CX M.P M.w) 1 f fd ps_reached_from (spP M.mg [tChr, (tDct tStr)] (tOwn tChr) (r_reached_from M.K)) :=
  fn_P F (Lks := L_reached_from M.K) (tr := (tOwn tChr)) lks (z := (none)) fr (by decide +kernel) rfl (fun X l xo xs x => ((d_reached_from M.K).2 X l xo xs x)) (fun y h => by cases h)
theorem lk_reached_from {M : Md} (A : FnAt M "reached_from" st_reached_from) (fr : Fr M) (lks : L_reached_from M.K M) : LkP M "reached_from" ps_reached_from [tChr, (tDct tStr)] (tOwn tChr) (r_reached_from M.K) 1 := by
  obtain ⟨f, fd, g, F⟩ := A
  exact ⟨f, fd, g, F.kp, F.bindsN fun _ _ _ _ _ _ us hl => match us, hl with | [_, _], _ => rfl, ok_reached_from F fr lks⟩
theorem ok_require_decompositions {M : Md} {f : Addr} {fd : FuncData} (F : FunD M.K "require_decompositions" "require_decompositions" (defArgs st_require_decompositions) (defBody st_require_decompositions) (defScope st_require_decompositions) [] [] f fd) (fr : Fr M) (lks : L_require_decompositions M.K M) : FnOk M.P M.w M.K M.mg M.base (L2.CX M.P M.w) 2 f fd ps_require_decompositions (spP M.mg [(tDct tStr), tStr] tNone (r_require_decompositions M.K)) :=
  fn_P F (Lks := L_require_decompositions M.K) (tr := tNone) lks (z := (some ())) fr (by decide +kernel) rfl (fun X l xo xs x => ((d_require_decompositions M.K).2 X l xo xs x)) (by intro y h F; exact ⟨rfl, rfl⟩)
theorem lk_require_decompositions {M : Md} (A : FnAt M "require_decompositions" st_require_decompositions) (fr : Fr M) (lks : L_require_decompositions M.K M) : LkP M "require_decompositions" ps_require_decompositions [(tDct tStr), tStr] tNone (r_require_decompositions M.K) 2 := by
  obtain ⟨f, fd, g, F⟩ := A
  exact ⟨f, fd, g, F.kp, F.bindsN fun _ _ _ _ _ _ us hl => match us, hl with | [_, _], _ => rfl, ok_require_decompositions F fr lks⟩
theorem ok_atom_counts {M : Md} {f : Addr} {fd : FuncData} (F : FunD M.K "atom_counts" "atom_counts" (defArgs st_atom_counts) (defBody st_atom_counts) (defScope st_atom_counts) [] [] f fd) (fr : Fr M) (lks : L_atom_counts M.K M) : FnOk M.P M.w M.K M.mg M.base (L2.CX M.P M.w) 1 f fd ps_atom_counts (spP M.mg [(tDct tStr), tStr] (tOwnD tInt) (r_atom_counts M.K)) :=
  fn_P F (Lks := L_atom_counts M.K) (tr := (tOwnD tInt)) lks (z := (none)) fr (by decide +kernel) rfl (fun X l xo xs x => ((d_atom_counts M.K).2 X l xo xs x)) (fun y h => by cases h)
theorem lk_atom_counts {M : Md} (A : FnAt M "atom_counts" st_atom_counts) (fr : Fr M) (lks : L_atom_counts M.K M) : LkP M "atom_counts" ps_atom_counts [(tDct tStr), tStr] (tOwnD tInt) (r_atom_counts M.K) 1 := by
  obtain ⟨f, fd, g, F⟩ := A
  exact ⟨f, fd, g, F.kp, F.bindsN fun _ _ _ _ _ _ us hl => match us, hl with | [_, _], _ => rfl, ok_atom_counts F fr lks⟩
theorem ok_first_atom {M : Md} {f : Addr} {fd : FuncData} (F : FunD M.K "first_atom" "first_atom" (defArgs st_first_atom) (defBody st_first_atom) (defScope st_first_atom) [] [] f fd) (fr : Fr M) (lks : L_first_atom M.K M) : FnOk M.P M.w M.K M.mg M.base (L2.CX M.P M.w) 1 f fd ps_first_atom (spP M.mg [tChr, (tDct tStr)] tChr (r_first_atom M.K)) :=
  fn_P F (Lks := L_first_atom M.K) (tr := tChr) lks (z := (none)) fr (by decide +kernel) rfl (fun X l xo xs x => ((d_first_atom M.K).2 X l xo xs x)) (fun y h => by cases h)
theorem lk_first_atom {M : Md} (A : FnAt M "first_atom" st_first_atom) (fr : Fr M) (lks : L_first_atom M.K M) : LkP M "first_atom" ps_first_atom [tChr, (tDct tStr)] tChr (r_first_atom M.K) 1 := by
  obtain ⟨f, fd, g, F⟩ := A
  exact ⟨f, fd, g, F.kp, F.bindsN fun _ _ _ _ _ _ us hl => match us, hl with | [_, _], _ => rfl, ok_first_atom F fr lks⟩
theorem ok_require_fit {M : Md} {f : Addr} {fd : FuncData} (F : FunD M.K "require_fit" "require_fit" (defArgs st_require_fit) (defBody st_require_fit) (defScope st_require_fit) [] [] f fd) (fr : Fr M) (lks : L_require_fit M.K M) : FnOk M.P M.w M.K M.mg M.base (L2.CX M.P M.w) 2 f fd ps_require_fit (spP M.mg [(tDct tInt), (tDct tStr), tStr] tNone (r_require_fit M.K)) :=
  fn_P F (Lks := L_require_fit M.K) (tr := tNone) lks (z := (some ())) fr (by decide +kernel) rfl (fun X l xo xs x => ((d_require_fit M.K).2 X l xo xs x)) (by intro y h F; exact ⟨rfl, rfl⟩)
theorem lk_require_fit {M : Md} (A : FnAt M "require_fit" st_require_fit) (fr : Fr M) (lks : L_require_fit M.K M) : LkP M "require_fit" ps_require_fit [(tDct tInt), (tDct tStr), tStr] tNone (r_require_fit M.K) 2 := by
  obtain ⟨f, fd, g, F⟩ := A
  exact ⟨f, fd, g, F.kp, F.bindsN fun _ _ _ _ _ _ us hl => match us, hl with | [_, _, _], _ => rfl, ok_require_fit F fr lks⟩
theorem ok_require_exclusions {M : Md} {f : Addr} {fd : FuncData} (F : FunD M.K "require_exclusions" "require_exclusions" (defArgs st_require_exclusions) (defBody st_require_exclusions) (defScope st_require_exclusions) [] [] f fd) (fr : Fr M) (lks : L_require_exclusions M.K M) : FnOk M.P M.w M.K M.mg M.base (L2.CX M.P M.w) 1 f fd ps_require_exclusions (spP M.mg [tStr, (tLst tChr)] tNone (r_require_exclusions M.K)) :=
  fn_P F (Lks := L_require_exclusions M.K) (tr := tNone) lks (z := (some ())) fr (by decide +kernel) rfl (fun X l xo xs x => ((d_require_exclusions M.K).2 X l xo xs x)) (by intro y h F; exact ⟨rfl, rfl⟩)
theorem lk_require_exclusions {M : Md} (A : FnAt M "require_exclusions" st_require_exclusions) (fr : Fr M) (lks : L_require_exclusions M.K M) : LkP M "require_exclusions" ps_require_exclusions [tStr, (tLst tChr)] tNone (r_require_exclusions M.K) 1 := by
  obtain ⟨f, fd, g, F⟩ := A
  exact ⟨f, fd, g, F.kp, F.bindsN fun _ _ _ _ _ _ us hl => match us, hl with | [_, _], _ => rfl, ok_require_exclusions F fr lks⟩
theorem ok_require_unique {M : Md} {f : Addr} {fd : FuncData} (F : FunD M.K "require_unique" "require_unique" (defArgs st_require_unique) (defBody st_require_unique) (defScope st_require_unique) [] [] f fd) (fr : Fr M) (lks : L_require_unique M.K M) : FnOk M.P M.w M.K M.mg M.base (L2.CX M.P M.w) 1 f fd ps_require_unique (spP M.mg [(tDct tStr), (tLst tChr)] tNone (r_require_unique M.K)) :=
  fn_P F (Lks := L_require_unique M.K) (tr := tNone) lks (z := (some ())) fr (by decide +kernel) rfl (fun X l xo xs x => ((d_require_unique M.K).2 X l xo xs x)) (by intro y h F; exact ⟨rfl, rfl⟩)
theorem lk_require_unique {M : Md} (A : FnAt M "require_unique" st_require_unique) (fr : Fr M) (lks : L_require_unique M.K M) : LkP M "require_unique" ps_require_unique [(tDct tStr), (tLst tChr)] tNone (r_require_unique M.K) 1 := by
  obtain ⟨f, fd, g, F⟩ := A
  exact ⟨f, fd, g, F.kp, F.bindsN fun _ _ _ _ _ _ us hl => match us, hl with | [_, _], _ => rfl, ok_require_unique F fr lks⟩
theorem okd_expanded {M : Md} {f : Addr} {fd : FuncData} (F : FunD M.K "expanded" "expanded" (defArgs st_expanded) (defBody st_expanded) (defScope st_expanded) [] [] f fd) (hg : M.mg "expanded" = some (.ref f)) (fr : Fr M) : ∀ d : Nat, FnOk M.P M.w M.K M.mg M.base (L2.CX M.P M.w) d f fd ps_expanded (spP M.mg [tChr, (tDct tStr)] tStr (rd_expanded M.K d))
  | 0 => fn_none
  | d + 1 => fn_P F (Lks := L_expanded M.K (rd_expanded M.K d) d) ⟨⟨f, fd, hg, F.kp, F.bindsN fun _ _ _ _ _ _ us hl => match us, hl with | [_, _], _ => rfl, okd_expanded F hg fr d⟩, rfl⟩ (z := (none)) fr (by decide +kernel) rfl (fun X l xo xs x => ((d_expanded M.K (rd_expanded M.K d)).2 d X l xo xs x)) (fun y h => by cases h)
theorem lk_expanded {M : Md} (A : FnAt M "expanded" st_expanded) (fr : Fr M) : LkP M "expanded" ps_expanded [tChr, (tDct tStr)] tStr (r_expanded M.K) 32 := by
  obtain ⟨f, fd, g, F⟩ := A
  exact ⟨f, fd, g, F.kp, F.bindsN fun _ _ _ _ _ _ us hl => match us, hl with | [_, _], _ => rfl, okd_expanded F g fr 32⟩
theorem ok_Table___init__ {M : Md} {f : Addr} {fd : FuncData} {kws : List (Str × V)} (F : FunD M.K "__init__" "Table.__init__" (defArgs st_Table___init__) (defBody st_Table___init__) (defScope st_Table___init__) [] kws f fd) (fr : Fr M) (lks : L_Table___init__ M.K M) : FnOk M.P M.w M.K M.mg M.base (L2.CX M.P M.w) 33 f fd ps_Table___init__ (spI M.mg (He.ga M.K "Table") fs_Table [(tDct tInt), (tDct tStr), tStr] (r_Table___init__ M.K)) :=
  fn_J F (Lks := L_Table___init__ M.K) lks fr (by decide +kernel) rfl (fun X l xo xs x => ((d_Table___init__ M.K).2 X l xo xs x))
theorem lk_Table___init__ {M : Md} {kws : List (Str × V)} (A : ∃ g fd, Mk M.K (He.ga M.K "Table") g ∧ M.mg "Table" = some (.ref (He.ga M.K "Table")) ∧ FunD M.K "__init__" "Table.__init__" (defArgs st_Table___init__) (defBody st_Table___init__) (defScope st_Table___init__) [] kws g fd) (fr : Fr M) (lks : L_Table___init__ M.K M) : LkMk M "Table" (He.ga M.K "Table") ps_Table___init__ ["decompositions", "excluded"] fs_Table (tDct tInt) [(tDct tStr), tStr] (r_Table___init__ M.K) 33 := by
  obtain ⟨g, fd, mk, hm, F⟩ := A
  exact ⟨g, fd, _, hm, mk, rfl, ok_Table___init__ F fr lks, kbnK F fun _ _ _ _ _ _ us ws hu hw => match us, ws, hu, hw with | [_, _], [_, _], _, _ => rfl⟩
theorem ok__law_made {M : Md} {f : Addr} {fd : FuncData} (F : FunD M.K "_law_made" "_law_made" (defArgs st__law_made) (defBody st__law_made) (defScope st__law_made) [] [] f fd) (fr : Fr M) (lks : L__law_made M.K M) : FnOk M.P M.w M.K M.mg M.base (L2.CX M.P M.w) 35 f fd ps__law_made (spO M.mg (tOwn tInt) [(tTg (TG M.K) (tRec [([99, 108, 97, 115, 115, 101, 115], (tDctL tInt)), ([112, 97, 114, 116, 115], (tDctL tStr)), ([98, 97, 114, 114, 101, 100], tStr)]))] (tTg (TG M.K) (tIns (He.ga M.K "Table") fs_Table)) (r__law_made M.K)) :=
  fn_O F (Lks := L__law_made M.K) lks fr (by decide +kernel) rfl (fun X l xo xs x => ((d__law_made M.K).2 X l xo xs x))
theorem lk__law_made {M : Md} (A : FnAt M "_law_made" st__law_made) (fr : Fr M) (lks : L__law_made M.K M) : LkO M "_law_made" ps__law_made (tOwn tInt) [(tTg (TG M.K) (tRec [([99, 108, 97, 115, 115, 101, 115], (tDctL tInt)), ([112, 97, 114, 116, 115], (tDctL tStr)), ([98, 97, 114, 114, 101, 100], tStr)]))] (tTg (TG M.K) (tIns (He.ga M.K "Table") fs_Table)) (r__law_made M.K) 35 := by
  obtain ⟨f, fd, g, F⟩ := A
  exact ⟨f, fd, g, F.kp, F.bindsN fun _ _ _ _ _ _ us hl => match us, hl with | [_, _], _ => rfl, ok__law_made F fr lks⟩
theorem ok__law_text {M : Md} {f : Addr} {fd : FuncData} (F : FunD M.K "_law_text" "_law_text" (defArgs st__law_text) (defBody st__law_text) (defScope st__law_text) [] [] f fd) (fr : Fr M) (lks : L__law_text M.K M) : FnOk M.P M.w M.K M.mg M.base (L2.CX M.P M.w) 2 f fd ps__law_text (spO M.mg (tOwn tInt) [(tRec [([99, 108, 97, 115, 115, 101, 115], (tDctL tInt)), ([112, 97, 114, 116, 115], (tDctL tStr)), ([98, 97, 114, 114, 101, 100], tStr)]), tInt] tStr (r__law_text M.K)) :=
  fn_O F (Lks := L__law_text M.K) lks fr (by decide +kernel) rfl (fun X l xo xs x => ((d__law_text M.K).2 X l xo xs x))
theorem lk__law_text {M : Md} (A : FnAt M "_law_text" st__law_text) (fr : Fr M) (lks : L__law_text M.K M) : LkO M "_law_text" ps__law_text (tOwn tInt) [(tRec [([99, 108, 97, 115, 115, 101, 115], (tDctL tInt)), ([112, 97, 114, 116, 115], (tDctL tStr)), ([98, 97, 114, 114, 101, 100], tStr)]), tInt] tStr (r__law_text M.K) 2 := by
  obtain ⟨f, fd, g, F⟩ := A
  exact ⟨f, fd, g, F.kp, F.bindsN fun _ _ _ _ _ _ us hl => match us, hl with | [_, _, _], _ => rfl, ok__law_text F fr lks⟩
theorem ok__law_of_marks {M : Md} {f : Addr} {fd : FuncData} (F : FunD M.K "_law_of_marks" "_law_of_marks" (defArgs st__law_of_marks) (defBody st__law_of_marks) (defScope st__law_of_marks) [] [] f fd) (fr : Fr M) (lks : L__law_of_marks M.K M) : FnOk M.P M.w M.K M.mg M.base (L2.CX M.P M.w) 2 f fd ps__law_of_marks (spO M.mg (tOwn tInt) [(tRec [([99, 108, 97, 115, 115, 101, 115], (tDctL tInt)), ([112, 97, 114, 116, 115], (tDctL tStr)), ([98, 97, 114, 114, 101, 100], tStr)]), tInt] tStr (r__law_of_marks M.K)) :=
  fn_O F (Lks := L__law_of_marks M.K) lks fr (by decide +kernel) rfl (fun X l xo xs x => ((d__law_of_marks M.K).2 X l xo xs x))
theorem lk__law_of_marks {M : Md} (A : FnAt M "_law_of_marks" st__law_of_marks) (fr : Fr M) (lks : L__law_of_marks M.K M) : LkO M "_law_of_marks" ps__law_of_marks (tOwn tInt) [(tRec [([99, 108, 97, 115, 115, 101, 115], (tDctL tInt)), ([112, 97, 114, 116, 115], (tDctL tStr)), ([98, 97, 114, 114, 101, 100], tStr)]), tInt] tStr (r__law_of_marks M.K) 2 := by
  obtain ⟨f, fd, g, F⟩ := A
  exact ⟨f, fd, g, F.kp, F.bindsN fun _ _ _ _ _ _ us hl => match us, hl with | [_, _, _], _ => rfl, ok__law_of_marks F fr lks⟩
theorem ok__law_sorted {M : Md} {f : Addr} {fd : FuncData} (F : FunD M.K "_law_sorted" "_law_sorted" (defArgs st__law_sorted) (defBody st__law_sorted) (defScope st__law_sorted) [] [] f fd) (fr : Fr M) (lks : L__law_sorted M.K M) : FnOk M.P M.w M.K M.mg M.base (L2.CX M.P M.w) 1 f fd ps__law_sorted (spP M.mg [(tRec [([99, 108, 97, 115, 115, 101, 115], (tDctL tInt)), ([112, 97, 114, 116, 115], (tDctL tStr)), ([98, 97, 114, 114, 101, 100], tStr)]), tStr] tStr (r__law_sorted M.K)) :=
  fn_P F (Lks := L__law_sorted M.K) (tr := tStr) lks (z := (none)) fr (by decide +kernel) rfl (fun X l xo xs x => ((d__law_sorted M.K).2 X l xo xs x)) (fun y h => by cases h)
theorem lk__law_sorted {M : Md} (A : FnAt M "_law_sorted" st__law_sorted) (fr : Fr M) (lks : L__law_sorted M.K M) : LkP M "_law_sorted" ps__law_sorted [(tRec [([99, 108, 97, 115, 115, 101, 115], (tDctL tInt)), ([112, 97, 114, 116, 115], (tDctL tStr)), ([98, 97, 114, 114, 101, 100], tStr)]), tStr] tStr (r__law_sorted M.K) 1 := by
  obtain ⟨f, fd, g, F⟩ := A
  exact ⟨f, fd, g, F.kp, F.bindsN fun _ _ _ _ _ _ us hl => match us, hl with | [_, _], _ => rfl, ok__law_sorted F fr lks⟩
theorem ok__law_form {M : Md} {f : Addr} {fd : FuncData} (F : FunD M.K "_law_form" "_law_form" (defArgs st__law_form) (defBody st__law_form) (defScope st__law_form) [] [] f fd) (fr : Fr M) (lks : L__law_form M.K M) : FnOk M.P M.w M.K M.mg M.base (L2.CX M.P M.w) 2 f fd ps__law_form (spP M.mg [(tRec [([99, 108, 97, 115, 115, 101, 115], (tDctL tInt)), ([112, 97, 114, 116, 115], (tDctL tStr)), ([98, 97, 114, 114, 101, 100], tStr)]), tStr] tStr (r__law_form M.K)) :=
  fn_P F (Lks := L__law_form M.K) (tr := tStr) lks (z := (none)) fr (by decide +kernel) rfl (fun X l xo xs x => ((d__law_form M.K).2 X l xo xs x)) (fun y h => by cases h)
theorem lk__law_form {M : Md} (A : FnAt M "_law_form" st__law_form) (fr : Fr M) (lks : L__law_form M.K M) : LkP M "_law_form" ps__law_form [(tRec [([99, 108, 97, 115, 115, 101, 115], (tDctL tInt)), ([112, 97, 114, 116, 115], (tDctL tStr)), ([98, 97, 114, 114, 101, 100], tStr)]), tStr] tStr (r__law_form M.K) 2 := by
  obtain ⟨f, fd, g, F⟩ := A
  exact ⟨f, fd, g, F.kp, F.bindsN fun _ _ _ _ _ _ us hl => match us, hl with | [_, _], _ => rfl, ok__law_form F fr lks⟩
theorem ok_require_table {M : Md} {f : Addr} {fd : FuncData} (F : FunD M.K "require_table" "require_table" (defArgs st_require_table) (defBody st_require_table) (defScope st_require_table) [] [] f fd) (fr : Fr M) (lks : L_require_table M.K M) : FnOk M.P M.w M.K M.mg M.base (L2.CX M.P M.w) 1 f fd ps_require_table (spP M.mg [(tIns (He.ga M.K "Table") fs_Table)] tNone (r_require_table M.K)) :=
  fn_P F (Lks := L_require_table M.K) (tr := tNone) lks (z := (some ())) fr (by decide +kernel) rfl (fun X l xo xs x => ((d_require_table M.K).2 X l xo xs x)) (by intro y h F; exact ⟨rfl, rfl⟩)
theorem lk_require_table {M : Md} (A : FnAt M "require_table" st_require_table) (fr : Fr M) (lks : L_require_table M.K M) : LkP M "require_table" ps_require_table [(tIns (He.ga M.K "Table") fs_Table)] tNone (r_require_table M.K) 1 := by
  obtain ⟨f, fd, g, F⟩ := A
  exact ⟨f, fd, g, F.kp, F.bindsN fun _ _ _ _ _ _ us hl => match us, hl with | [_], _ => rfl, ok_require_table F fr lks⟩
theorem ok_Table_characters {M : Md} {f : Addr} {fd : FuncData} (F : FunD M.K "characters" "Table.characters" (defArgs st_Table_characters) (defBody st_Table_characters) (defScope st_Table_characters) [] [] f fd) (fr : Fr M) (lks : L_Table_characters M.K M) : FnOk M.P M.w M.K M.mg M.base (L2.CX M.P M.w) 1 f fd ps_Table_characters (spP M.mg [(tIns (He.ga M.K "Table") fs_Table)] tStr (r_Table_characters M.K)) :=
  fn_P F (Lks := L_Table_characters M.K) (tr := tStr) lks (z := (none)) fr (by decide +kernel) rfl (fun X l xo xs x => ((d_Table_characters M.K).2 X l xo xs x)) (fun y h => by cases h)
theorem lk_Table_characters {M : Md} (A : ∃ p g fd, PropOf M.K (He.ga M.K "Table") "characters" p g ∧ FunD M.K "characters" "Table.characters" (defArgs st_Table_characters) (defBody st_Table_characters) (defScope st_Table_characters) [] [] g fd) (fr : Fr M) (lks : L_Table_characters M.K M) : LkR M (He.ga M.K "Table") "characters" fs_Table tStr (r_Table_characters M.K) 1 := by
  obtain ⟨p, g, fd, h, F⟩ := A
  exact ⟨g, fd, p, ps_Table_characters, h, F.bindsN fun _ _ _ _ _ _ us hl => match us, hl with | [_], _ => rfl, ok_Table_characters F fr lks⟩
theorem ok_require_text {M : Md} {f : Addr} {fd : FuncData} (F : FunD M.K "require_text" "require_text" (defArgs st_require_text) (defBody st_require_text) (defScope st_require_text) [] [] f fd) (fr : Fr M) (lks : L_require_text M.K M) : FnOk M.P M.w M.K M.mg M.base (L2.CX M.P M.w) 3 f fd ps_require_text (spP M.mg [(tIns (He.ga M.K "Table") fs_Table), tStr] tNone (r_require_text M.K)) :=
  fn_P F (Lks := L_require_text M.K) (tr := tNone) lks (z := (some ())) fr (by decide +kernel) rfl (fun X l xo xs x => ((d_require_text M.K).2 X l xo xs x)) (by intro y h F; exact ⟨rfl, rfl⟩)
theorem lk_require_text {M : Md} (A : FnAt M "require_text" st_require_text) (fr : Fr M) (lks : L_require_text M.K M) : LkP M "require_text" ps_require_text [(tIns (He.ga M.K "Table") fs_Table), tStr] tNone (r_require_text M.K) 3 := by
  obtain ⟨f, fd, g, F⟩ := A
  exact ⟨f, fd, g, F.kp, F.bindsN fun _ _ _ _ _ _ us hl => match us, hl with | [_, _], _ => rfl, ok_require_text F fr lks⟩
theorem ok_Table___contains__ {M : Md} {f : Addr} {fd : FuncData} (F : FunD M.K "__contains__" "Table.__contains__" (defArgs st_Table___contains__) (defBody st_Table___contains__) (defScope st_Table___contains__) [] [] f fd) (fr : Fr M) (lks : L_Table___contains__ M.K M) : FnOk M.P M.w M.K M.mg M.base (L2.CX M.P M.w) 2 f fd ps_Table___contains__ (spP M.mg [(tIns (He.ga M.K "Table") fs_Table), tChr] tBool (r_Table___contains__ M.K)) :=
  fn_P F (Lks := L_Table___contains__ M.K) (tr := tBool) lks (z := (none)) fr (by decide +kernel) rfl (fun X l xo xs x => ((d_Table___contains__ M.K).2 X l xo xs x)) (fun y h => by cases h)
theorem lk_Table___contains__ {M : Md} (A : ∃ g fd, Meth M.K (He.ga M.K "Table") "__contains__" g ∧ FunD M.K "__contains__" "Table.__contains__" (defArgs st_Table___contains__) (defBody st_Table___contains__) (defScope st_Table___contains__) [] [] g fd) (fr : Fr M) (lks : L_Table___contains__ M.K M) : LkM M (He.ga M.K "Table") "__contains__" ps_Table___contains__ fs_Table [tChr] tBool (r_Table___contains__ M.K) 2 := by
  obtain ⟨g, fd, h, F⟩ := A
  exact ⟨g, fd, h, F.bindsN fun _ _ _ _ _ _ us hl => match us, hl with | [_, _], _ => rfl, ok_Table___contains__ F fr lks⟩
theorem ok_Table_require_known {M : Md} {f : Addr} {fd : FuncData} (F : FunD M.K "require_known" "Table.require_known" (defArgs st_Table_require_known) (defBody st_Table_require_known) (defScope st_Table_require_known) [] [] f fd) (fr : Fr M) (lks : L_Table_require_known M.K M) : FnOk M.P M.w M.K M.mg M.base (L2.CX M.P M.w) 3 f fd ps_Table_require_known (spP M.mg [(tIns (He.ga M.K "Table") fs_Table), tChr] tNone (r_Table_require_known M.K)) :=
  fn_P F (Lks := L_Table_require_known M.K) (tr := tNone) lks (z := (some ())) fr (by decide +kernel) rfl (fun X l xo xs x => ((d_Table_require_known M.K).2 X l xo xs x)) (by intro y h F; exact ⟨rfl, rfl⟩)
theorem lk_Table_require_known {M : Md} (A : ∃ g fd, Meth M.K (He.ga M.K "Table") "require_known" g ∧ FunD M.K "require_known" "Table.require_known" (defArgs st_Table_require_known) (defBody st_Table_require_known) (defScope st_Table_require_known) [] [] g fd) (fr : Fr M) (lks : L_Table_require_known M.K M) : LkM M (He.ga M.K "Table") "require_known" ps_Table_require_known fs_Table [tChr] tNone (r_Table_require_known M.K) 3 := by
  obtain ⟨g, fd, h, F⟩ := A
  exact ⟨g, fd, h, F.bindsN fun _ _ _ _ _ _ us hl => match us, hl with | [_, _], _ => rfl, ok_Table_require_known F fr lks⟩
theorem ok_Table_atoms {M : Md} {f : Addr} {fd : FuncData} (F : FunD M.K "atoms" "Table.atoms" (defArgs st_Table_atoms) (defBody st_Table_atoms) (defScope st_Table_atoms) [] [] f fd) (fr : Fr M) (lks : L_Table_atoms M.K M) : FnOk M.P M.w M.K M.mg M.base (L2.CX M.P M.w) 4 f fd ps_Table_atoms (spP M.mg [(tIns (He.ga M.K "Table") fs_Table), tChr] tStr (r_Table_atoms M.K)) :=
  fn_P F (Lks := L_Table_atoms M.K) (tr := tStr) lks (z := (none)) fr (by decide +kernel) rfl (fun X l xo xs x => ((d_Table_atoms M.K).2 X l xo xs x)) (fun y h => by cases h)
theorem lk_Table_atoms {M : Md} (A : ∃ g fd, Meth M.K (He.ga M.K "Table") "atoms" g ∧ FunD M.K "atoms" "Table.atoms" (defArgs st_Table_atoms) (defBody st_Table_atoms) (defScope st_Table_atoms) [] [] g fd) (fr : Fr M) (lks : L_Table_atoms M.K M) : LkM M (He.ga M.K "Table") "atoms" ps_Table_atoms fs_Table [tChr] tStr (r_Table_atoms M.K) 4 := by
  obtain ⟨g, fd, h, F⟩ := A
  exact ⟨g, fd, h, F.bindsN fun _ _ _ _ _ _ us hl => match us, hl with | [_, _], _ => rfl, ok_Table_atoms F fr lks⟩
theorem ok_Table_class_of {M : Md} {f : Addr} {fd : FuncData} (F : FunD M.K "class_of" "Table.class_of" (defArgs st_Table_class_of) (defBody st_Table_class_of) (defScope st_Table_class_of) [] [] f fd) (fr : Fr M) (lks : L_Table_class_of M.K M) : FnOk M.P M.w M.K M.mg M.base (L2.CX M.P M.w) 4 f fd ps_Table_class_of (spP M.mg [(tIns (He.ga M.K "Table") fs_Table), tChr] tInt (r_Table_class_of M.K)) :=
  fn_P F (Lks := L_Table_class_of M.K) (tr := tInt) lks (z := (none)) fr (by decide +kernel) rfl (fun X l xo xs x => ((d_Table_class_of M.K).2 X l xo xs x)) (fun y h => by cases h)
theorem lk_Table_class_of {M : Md} (A : ∃ g fd, Meth M.K (He.ga M.K "Table") "class_of" g ∧ FunD M.K "class_of" "Table.class_of" (defArgs st_Table_class_of) (defBody st_Table_class_of) (defScope st_Table_class_of) [] [] g fd) (fr : Fr M) (lks : L_Table_class_of M.K M) : LkM M (He.ga M.K "Table") "class_of" ps_Table_class_of fs_Table [tChr] tInt (r_Table_class_of M.K) 4 := by
  obtain ⟨g, fd, h, F⟩ := A
  exact ⟨g, fd, h, F.bindsN fun _ _ _ _ _ _ us hl => match us, hl with | [_, _], _ => rfl, ok_Table_class_of F fr lks⟩
theorem ok_sorted_runs {M : Md} {fd : FuncData} (F : FunD M.K "sorted_runs" "sorted_runs" (defArgs st_sorted_runs) (defBody st_sorted_runs) (defScope st_sorted_runs) [] [] (He.fAd M.K ("sorted_runs", none)) fd) (fr : Fr M) (lks : L_sorted_runs M.K M) : FnOk M.P M.w M.K M.mg M.base (L2.CX M.P M.w) 9 (He.fAd M.K ("sorted_runs", none)) fd ps_sorted_runs (spP M.mg [(tTg (TG M.K) (tIns (He.ga M.K "Table") fs_Table)), tStr] tStr (r_sorted_runs M.K)) :=
  fn_PT (dp := ("sorted_runs", none)) F (fun _ _ _ => rfl) (Lks := L_sorted_runs M.K) (tr := tStr) lks (z := (none)) fr (by decide +kernel) rfl (fun X cd cq l xo xs x => ((d_sorted_runs M.K).2 X cd cq l xo xs x)) (fun y h => by cases h)
theorem lk_sorted_runs {M : Md} (A : ∃ fd, M.mg "sorted_runs" = some (.ref (He.fAd M.K ("sorted_runs", none))) ∧ FunD M.K "sorted_runs" "sorted_runs" (defArgs st_sorted_runs) (defBody st_sorted_runs) (defScope st_sorted_runs) [] [] (He.fAd M.K ("sorted_runs", none)) fd) (fr : Fr M) (lks : L_sorted_runs M.K M) : LkP M "sorted_runs" ps_sorted_runs [(tTg (TG M.K) (tIns (He.ga M.K "Table") fs_Table)), tStr] tStr (r_sorted_runs M.K) 9 := by
  obtain ⟨fd, g, F⟩ := A
  exact ⟨_, fd, g, F.kp, F.bindsN fun _ _ _ _ _ _ us hl => match us, hl with | [_, _], _ => rfl, ok_sorted_runs F fr lks⟩
theorem ok_plain_form {M : Md} {f : Addr} {fd : FuncData} (F : FunD M.K "plain_form" "plain_form" (defArgs st_plain_form) (defBody st_plain_form) (defScope st_plain_form) [] [] f fd) (fr : Fr M) (lks : L_plain_form M.K M) : FnOk M.P M.w M.K M.mg M.base (L2.CX M.P M.w) 10 f fd ps_plain_form (spP M.mg [(tTg (TG M.K) (tIns (He.ga M.K "Table") fs_Table)), tStr] tStr (r_plain_form M.K)) :=
  fn_P F (Lks := L_plain_form M.K) (tr := tStr) lks (z := (none)) fr (by decide +kernel) rfl (fun X l xo xs x => ((d_plain_form M.K).2 X l xo xs x)) (fun y h => by cases h)
theorem lk_plain_form {M : Md} (A : FnAt M "plain_form" st_plain_form) (fr : Fr M) (lks : L_plain_form M.K M) : LkP M "plain_form" ps_plain_form [(tTg (TG M.K) (tIns (He.ga M.K "Table") fs_Table)), tStr] tStr (r_plain_form M.K) 10 := by
  obtain ⟨f, fd, g, F⟩ := A
  exact ⟨f, fd, g, F.kp, F.bindsN fun _ _ _ _ _ _ us hl => match us, hl with | [_, _], _ => rfl, ok_plain_form F fr lks⟩
theorem ok_decomposed {M : Md} {f : Addr} {fd : FuncData} (F : FunD M.K "decomposed" "decomposed" (defArgs st_decomposed) (defBody st_decomposed) (defScope st_decomposed) [] [] f fd) (fr : Fr M) (lks : L_decomposed M.K M) : FnOk M.P M.w M.K M.mg M.base (L2.CX M.P M.w) 11 f fd ps_decomposed (spP M.mg [(tTg (TG M.K) (tIns (He.ga M.K "Table") fs_Table)), tStr] tStr (r_decomposed M.K)) :=
  fn_P F (Lks := L_decomposed M.K) (tr := tStr) lks (z := (none)) fr (by decide +kernel) rfl (fun X l xo xs x => ((d_decomposed M.K).2 X l xo xs x)) (fun y h => by cases h)
theorem lk_decomposed {M : Md} (A : FnAt M "decomposed" st_decomposed) (fr : Fr M) (lks : L_decomposed M.K M) : LkP M "decomposed" ps_decomposed [(tTg (TG M.K) (tIns (He.ga M.K "Table") fs_Table)), tStr] tStr (r_decomposed M.K) 11 := by
  obtain ⟨f, fd, g, F⟩ := A
  exact ⟨f, fd, g, F.kp, F.bindsN fun _ _ _ _ _ _ us hl => match us, hl with | [_, _], _ => rfl, ok_decomposed F fr lks⟩
theorem lkr_decomposed {M : Md} (A : FnAt M "decomposed" st_decomposed) (fr : Fr M) (lks : L_decomposed M.K M) : LkKR M "decomposed" ps_decomposed [(tTg (TG M.K) (tIns (He.ga M.K "Table") fs_Table)), tStr] tStr (r_decomposed M.K) 11 := by
  obtain ⟨f, fd, g, F⟩ := A
  exact ⟨f, fd, ⟨g, F.kp, F.bindsN fun _ _ _ _ _ _ us hl => match us, hl with | [_, _], _ => rfl, ok_decomposed F fr lks⟩, fun s ws hl => match ws, hl with | [_, _], _ => bindsG F (fun _ _ _ _ _ _ => rfl) s⟩
theorem ok_law {M : Md} {f : Addr} {fd : FuncData} (F : FunD M.K "law" "law" (defArgs st_law) (defBody st_law) (defScope st_law) [] [] f fd) (fr : Fr M) (lks : L_law M.K M) : FnOk M.P M.w M.K M.mg M.base (L2.CX M.P M.w) 36 f fd ps_law (spP M.mg [(tTg (TG M.K) (tScr M.K))] tBool (r_law M.K)) :=
  fn_P F (Lks := L_law M.K) (tr := tBool) lks (z := (none)) fr (by decide +kernel) rfl (fun X l xo xs x => ((d_law M.K).2 X l xo xs x)) (fun y h => by cases h)
theorem lk_law {M : Md} (A : FnAt M "law" st_law) (fr : Fr M) (lks : L_law M.K M) : LkP M "law" ps_law [(tTg (TG M.K) (tScr M.K))] tBool (r_law M.K) 36 := by
  obtain ⟨f, fd, g, F⟩ := A
  exact ⟨f, fd, g, F.kp, F.bindsN fun _ _ _ _ _ _ us hl => match us, hl with | [_], _ => rfl, ok_law F fr lks⟩
/-! ### the head -/
def e__law_cell : He.DefD := ⟨("_law_cell", none), "_law_cell", "_law_cell", defArgs st__law_cell, defBody st__law_cell, defScope st__law_cell, [], []⟩
def e__law_box : He.DefD := ⟨("_law_box", none), "_law_box", "_law_box", defArgs st__law_box, defBody st__law_box, defScope st__law_box, [], []⟩
def e__law_take : He.DefD := ⟨("_law_take", none), "_law_take", "_law_take", defArgs st__law_take, defBody st__law_take, defScope st__law_take, [], []⟩
def e__law_chars : He.DefD := ⟨("_law_chars", none), "_law_chars", "_law_chars", defArgs st__law_chars, defBody st__law_chars, defScope st__law_chars, [], []⟩
def e__law_atoms : He.DefD := ⟨("_law_atoms", none), "_law_atoms", "_law_atoms", defArgs st__law_atoms, defBody st__law_atoms, defScope st__law_atoms, [], []⟩
def e__law_barred : He.DefD := ⟨("_law_barred", none), "_law_barred", "_law_barred", defArgs st__law_barred, defBody st__law_barred, defScope st__law_barred, [], []⟩
def e__law_table : He.DefD := ⟨("_law_table", none), "_law_table", "_law_table", defArgs st__law_table, defBody st__law_table, defScope st__law_table, [], []⟩
def e__law_turned_i : He.DefD := ⟨("_law_turned", none), "_law_turned", "_law_turned", defArgs st__law_turned_i, defBody st__law_turned_i, defScope st__law_turned_i, [], []⟩
def e__law_turned_s : He.DefD := ⟨("_law_turned", none), "_law_turned", "_law_turned", defArgs st__law_turned_s, defBody st__law_turned_s, defScope st__law_turned_s, [], []⟩
def e_is_character_s : He.DefD := ⟨("is_character", none), "is_character", "is_character", defArgs st_is_character_s, defBody st_is_character_s, defScope st_is_character_s, [], []⟩
def e_is_character_c : He.DefD := ⟨("is_character", none), "is_character", "is_character", defArgs st_is_character_c, defBody st_is_character_c, defScope st_is_character_c, [], []⟩
def e_in_order : He.DefD := ⟨("in_order", none), "in_order", "in_order", defArgs st_in_order, defBody st_in_order, defScope st_in_order, [], []⟩
def e_is_class : He.DefD := ⟨("is_class", none), "is_class", "is_class", defArgs st_is_class, defBody st_is_class, defScope st_is_class, [], []⟩
def e_require_classes : He.DefD := ⟨("require_classes", none), "require_classes", "require_classes", defArgs st_require_classes, defBody st_require_classes, defScope st_require_classes, [], []⟩
def e_is_text : He.DefD := ⟨("is_text", none), "is_text", "is_text", defArgs st_is_text, defBody st_is_text, defScope st_is_text, [], []⟩
def e_reached_from : He.DefD := ⟨("reached_from", none), "reached_from", "reached_from", defArgs st_reached_from, defBody st_reached_from, defScope st_reached_from, [], []⟩
def e_require_decompositions : He.DefD := ⟨("require_decompositions", none), "require_decompositions", "require_decompositions", defArgs st_require_decompositions, defBody st_require_decompositions, defScope st_require_decompositions, [], []⟩
def e_atom_counts : He.DefD := ⟨("atom_counts", none), "atom_counts", "atom_counts", defArgs st_atom_counts, defBody st_atom_counts, defScope st_atom_counts, [], []⟩
def e_first_atom : He.DefD := ⟨("first_atom", none), "first_atom", "first_atom", defArgs st_first_atom, defBody st_first_atom, defScope st_first_atom, [], []⟩
def e_require_fit : He.DefD := ⟨("require_fit", none), "require_fit", "require_fit", defArgs st_require_fit, defBody st_require_fit, defScope st_require_fit, [], []⟩
def e_require_exclusions : He.DefD := ⟨("require_exclusions", none), "require_exclusions", "require_exclusions", defArgs st_require_exclusions, defBody st_require_exclusions, defScope st_require_exclusions, [], []⟩
def e_require_unique : He.DefD := ⟨("require_unique", none), "require_unique", "require_unique", defArgs st_require_unique, defBody st_require_unique, defScope st_require_unique, [], []⟩
def e_expanded : He.DefD := ⟨("expanded", none), "expanded", "expanded", defArgs st_expanded, defBody st_expanded, defScope st_expanded, [], []⟩
def e_Table___init__ : He.DefD := ⟨("Table", some "__init__"), "__init__", "Table.__init__", defArgs st_Table___init__, defBody st_Table___init__, defScope st_Table___init__, [], [("decompositions", .non), ("excluded", .str "")]⟩
def e__law_made : He.DefD := ⟨("_law_made", none), "_law_made", "_law_made", defArgs st__law_made, defBody st__law_made, defScope st__law_made, [], []⟩
def e__law_text : He.DefD := ⟨("_law_text", none), "_law_text", "_law_text", defArgs st__law_text, defBody st__law_text, defScope st__law_text, [], []⟩
def e__law_of_marks : He.DefD := ⟨("_law_of_marks", none), "_law_of_marks", "_law_of_marks", defArgs st__law_of_marks, defBody st__law_of_marks, defScope st__law_of_marks, [], []⟩
def e__law_sorted : He.DefD := ⟨("_law_sorted", none), "_law_sorted", "_law_sorted", defArgs st__law_sorted, defBody st__law_sorted, defScope st__law_sorted, [], []⟩
def e__law_form : He.DefD := ⟨("_law_form", none), "_law_form", "_law_form", defArgs st__law_form, defBody st__law_form, defScope st__law_form, [], []⟩
def e_require_table : He.DefD := ⟨("require_table", none), "require_table", "require_table", defArgs st_require_table, defBody st_require_table, defScope st_require_table, [], []⟩
def e_Table_characters : He.DefD := ⟨("Table", some "characters"), "characters", "Table.characters", defArgs st_Table_characters, defBody st_Table_characters, defScope st_Table_characters, [], []⟩
def e_require_text : He.DefD := ⟨("require_text", none), "require_text", "require_text", defArgs st_require_text, defBody st_require_text, defScope st_require_text, [], []⟩
def e_Table___contains__ : He.DefD := ⟨("Table", some "__contains__"), "__contains__", "Table.__contains__", defArgs st_Table___contains__, defBody st_Table___contains__, defScope st_Table___contains__, [], []⟩
def e_Table_require_known : He.DefD := ⟨("Table", some "require_known"), "require_known", "Table.require_known", defArgs st_Table_require_known, defBody st_Table_require_known, defScope st_Table_require_known, [], []⟩
def e_Table_atoms : He.DefD := ⟨("Table", some "atoms"), "atoms", "Table.atoms", defArgs st_Table_atoms, defBody st_Table_atoms, defScope st_Table_atoms, [], []⟩
def e_Table_class_of : He.DefD := ⟨("Table", some "class_of"), "class_of", "Table.class_of", defArgs st_Table_class_of, defBody st_Table_class_of, defScope st_Table_class_of, [], []⟩
def e_sorted_runs : He.DefD := ⟨("sorted_runs", none), "sorted_runs", "sorted_runs", defArgs st_sorted_runs, defBody st_sorted_runs, defScope st_sorted_runs, [], []⟩
def e_plain_form : He.DefD := ⟨("plain_form", none), "plain_form", "plain_form", defArgs st_plain_form, defBody st_plain_form, defScope st_plain_form, [], []⟩
def e_decomposed : He.DefD := ⟨("decomposed", none), "decomposed", "decomposed", defArgs st_decomposed, defBody st_decomposed, defScope st_decomposed, [], []⟩
def e_law : He.DefD := ⟨("law", none), "law", "law", defArgs st_law, defBody st_law, defScope st_law, [], []⟩
def fn : List He.DefD := [e__law_cell, e__law_box, e__law_take, e__law_chars, e__law_atoms, e__law_barred, e__law_table, e__law_turned_i, e__law_turned_s, e_is_character_s, e_is_character_c, e_in_order, e_is_class, e_require_classes, e_is_text, e_reached_from, e_require_decompositions, e_atom_counts, e_first_atom, e_require_fit, e_require_exclusions, e_require_unique, e_expanded, e_Table___init__, e__law_made, e__law_text, e__law_of_marks, e__law_sorted, e__law_form, e_require_table, e_require_text, e_Table___contains__, e_Table_require_known, e_Table_atoms, e_Table_class_of, e_sorted_runs, e_plain_form, e_decomposed, e_law]
def pr : List PrD := [⟨"Table", "characters", e_Table_characters⟩]
def cv : List CvD := [("Table", "MAX_CHARACTERS", 30), ("Table", "MAX_CLASS", 9), ("Table", "MAX_ATOMS", 8), ("Table", "__class__", 0)]
def fa : List He.Fa := [.glo "_law_cell", .glo "_law_box", .glo "_law_take", .glo "_law_chars", .glo "_law_atoms", .glo "_law_barred", .glo "_law_table", .glo "_law_turned", .glo "_law_turned", .glo "is_character", .glo "is_character", .glo "in_order", .glo "is_class", .glo "require_classes", .glo "is_text", .glo "reached_from", .glo "require_decompositions", .glo "atom_counts", .glo "first_atom", .glo "require_fit", .glo "require_exclusions", .glo "require_unique", .glo "expanded", .mkr "Table", .glo "_law_made", .glo "_law_text", .glo "_law_of_marks", .glo "_law_sorted", .glo "_law_form", .glo "require_table", .glo "require_text", .meth "Table" "__contains__", .meth "Table" "require_known", .meth "Table" "atoms", .meth "Table" "class_of", .glo "sorted_runs", .glo "plain_form", .glo "decomposed", .glo "law", .glo "Table", .cls "Table", .noat "Table" "pair_map", .noat "Table" "barred", .noat "Table" "atom_map", .noat "Table" "part_map", .noat "Table" "class_map", .str "CHARACTERS" (sOf [48, 49, 50, 51, 52, 53, 54, 55, 56, 57, 65, 66, 67, 68, 69, 70, 71, 72, 73, 74, 75, 76, 77, 78, 79, 80, 81, 82, 83, 84, 85, 86, 87, 88, 89, 90, 97, 98, 99, 100, 101, 102, 103, 104, 105, 106, 107, 108, 109, 110, 111, 112, 113, 114, 115, 116, 117, 118, 119, 120, 121, 122]), .int "MAX_TEXT" 60, .free "range", .free "max", .free "min", .free "len", .free "int", .free "list", .free "isinstance", .free "dict", .free "all", .free "str", .free "bool", .free "sum", .free "enumerate", .free "repr", .free "sorted"]
abbrev R : PySem.W.OpenRow := PySem.W.OpenLaw.row PySem.Challenge.rw_canontext_k14_decomposed_forms
abbrev hk : PySem.W.Hook := hookY 6 fa fn pr cv tf
def ob (s : PySem.W.SharedT) : AlY := obsYG 6 fa fn pr cv tf (HandSHeadRun.getT s)
theorem ob_eq (s : PySem.W.SharedT) : ob s = hk.obs s.abs := obsY_eq (HandSHeadRun.getT_eq s)
def loose : List PySem.Str := (["_wall", "TextError", "Absent", "InvalidCharacter", "InvalidClass", "InvalidDecomposition", "InvalidExclusion", "Cyclic", "Mixed", "Ambiguous", "InvalidTable", "InvalidText", "TooMany", "UnknownCharacter", "CHARACTERS", "is_character", "is_text", "in_order", "reached_from", "atom_counts", "first_atom", "expanded", "is_class", "require_classes", "require_decompositions", "require_fit", "require_exclusions", "require_unique", "Table", "MAX_TEXT"] : List PySem.Str) ++ (["require_table", "require_text", "sorted_runs", "plain_form", "decomposed", "_law_cell", "_law_box", "_law_take", "_law_chars", "_law_atoms", "_law_barred", "_law_table", "_law_turned", "_law_made", "_law_sorted", "_law_form", "_law_text", "_law_of_marks"] : List PySem.Str)
abbrev qv : Program := PySem.W.view R.prog [53]
set_option maxHeartbeats 0 in
theorem run_false (w : World) : HandSHeadRun.RunEq R qv hk ob 8000 loose (w.withFollow "special-get-raises" false) := fun os => by kernel_rfl
set_option maxHeartbeats 0 in
theorem run_true (w : World) : HandSHeadRun.RunEq R qv hk ob 8000 loose (w.withFollow "special-get-raises" true) := fun os => by kernel_rfl
theorem run (w : World) : HandSHeadRun.RunEq R qv hk ob 8000 loose w :=
  PySem.W.byRow2 "special-get-raises" (P := fun w => HandSHeadRun.RunEq R qv hk ob 8000 loose w) run_false run_true w
theorem mg_str {M : Md} {x : Str} {z : Str} (h : ∃ t, M.mg x = some (.str z t)) : LkC M x (.str z) := by
  obtain ⟨t, h⟩ := h
  exact ⟨_, h, t, rfl⟩
theorem facts {P : Program} {w : World} {K : PySem.W.Frag} {h : Heap} {mg : Str → Option Value} {f : Addr} (X : K.In h) (G : h.Ns mainGlobals mg) (hfa : mg ("law" : Str) = some (.ref f)) (c' : SaysY fa fn pr cv tf h K) :
    ∃ fd : FuncData, (∀ (s : Shared) (v : Value), BindsTo s fd ⟨[v], []⟩ [("script", v)]) ∧ ∀ base : Heap, K.In base → base.Ns mainGlobals mg → (∀ p ∈ TCs K, LamX.TabB base mg p.1 p.2) → FnOk P w K mg base (L2.CX P w) 36 f fd ["script"] (spP mg [(tTg (TG K) (tScr K))] tBool (r_law K)) := by
  have c := c'.x
  have cb := c.base
  have fr : ∀ (i : Nat) (x : Str), Bn[i]? = some x → mg x = none := fun i x hx => by
    have hj : fa[48 + i]? = some (.free x) := by
      match i, hx with
      | 0, hx => cases hx; rfl
      | 1, hx => cases hx; rfl
      | 2, hx => cases hx; rfl
      | 3, hx => cases hx; rfl
      | 4, hx => cases hx; rfl
      | 5, hx => cases hx; rfl
      | 6, hx => cases hx; rfl
      | 7, hx => cases hx; rfl
      | 8, hx => cases hx; rfl
      | 9, hx => cases hx; rfl
      | 10, hx => cases hx; rfl
      | 11, hx => cases hx; rfl
      | 12, hx => cases hx; rfl
      | 13, hx => cases hx; rfl
      | 14, hx => cases hx; rfl
      | (n + 15), hx => cases hx
    exact He.free_ok X G (cb.fact (48 + i) (f := .free x) hj)
  have c_CHARACTERS : ∀ base : Heap, LkC ⟨P, w, K, mg, base⟩ "CHARACTERS" (.str (sOf [48, 49, 50, 51, 52, 53, 54, 55, 56, 57, 65, 66, 67, 68, 69, 70, 71, 72, 73, 74, 75, 76, 77, 78, 79, 80, 81, 82, 83, 84, 85, 86, 87, 88, 89, 90, 97, 98, 99, 100, 101, 102, 103, 104, 105, 106, 107, 108, 109, 110, 111, 112, 113, 114, 115, 116, 117, 118, 119, 120, 121, 122])) := fun base => mg_str (He.str_ok X G (cb.fact 46 (f := .str "CHARACTERS" (sOf [48, 49, 50, 51, 52, 53, 54, 55, 56, 57, 65, 66, 67, 68, 69, 70, 71, 72, 73, 74, 75, 76, 77, 78, 79, 80, 81, 82, 83, 84, 85, 86, 87, 88, 89, 90, 97, 98, 99, 100, 101, 102, 103, 104, 105, 106, 107, 108, 109, 110, 111, 112, 113, 114, 115, 116, 117, 118, 119, 120, 121, 122])) rfl))
  have ci_MAX_TEXT : ∀ base : Heap, LkC ⟨P, w, K, mg, base⟩ "MAX_TEXT" (.int 60) := fun base => mg_int (He.int_ok X G (cb.fact 47 (f := .int "MAX_TEXT" 60) rfl))
  have k_cls_Table : Cls K (He.ga K "Table") := He.cls_ok (cb.fact 40 (f := .cls "Table") rfl)
  have k_glo_Table : mg "Table" = some (.ref (He.ga K "Table")) := He.glo_ok X G (cb.fact 39 (f := .glo "Table") rfl)
  have k_isc_Table : C8.InsC K (He.ga K "Table") := c.isc 3 rfl k_cls_Table
  have k_no_Table_pair_map : NoAttr K (He.ga K "Table") "pair_map" := He.noat_ok (cb.fact 41 (f := .noat "Table" "pair_map") rfl)
  have k_no_Table_barred : NoAttr K (He.ga K "Table") "barred" := He.noat_ok (cb.fact 42 (f := .noat "Table" "barred") rfl)
  have k_no_Table_atom_map : NoAttr K (He.ga K "Table") "atom_map" := He.noat_ok (cb.fact 43 (f := .noat "Table" "atom_map") rfl)
  have k_no_Table_part_map : NoAttr K (He.ga K "Table") "part_map" := He.noat_ok (cb.fact 44 (f := .noat "Table" "part_map") rfl)
  have k_no_Table_class_map : NoAttr K (He.ga K "Table") "class_map" := He.noat_ok (cb.fact 45 (f := .noat "Table" "class_map") rfl)
  have v_Table_MAX_CHARACTERS : ∀ base : Heap, LkV ⟨P, w, K, mg, base⟩ "Table" "MAX_CHARACTERS" 30 := fun base => by
    obtain ⟨mc, u, h1, h2⟩ := c.cval 0 (q := ("Table", "MAX_CHARACTERS", 30)) rfl
    exact ⟨_, mc, u, He.glo_ok X G (cb.fact 39 (f := .glo "Table") rfl), h1, h2⟩
  have v_Table_MAX_CLASS : ∀ base : Heap, LkV ⟨P, w, K, mg, base⟩ "Table" "MAX_CLASS" 9 := fun base => by
    obtain ⟨mc, u, h1, h2⟩ := c.cval 1 (q := ("Table", "MAX_CLASS", 9)) rfl
    exact ⟨_, mc, u, He.glo_ok X G (cb.fact 39 (f := .glo "Table") rfl), h1, h2⟩
  have v_Table_MAX_ATOMS : ∀ base : Heap, LkV ⟨P, w, K, mg, base⟩ "Table" "MAX_ATOMS" 8 := fun base => by
    obtain ⟨mc, u, h1, h2⟩ := c.cval 2 (q := ("Table", "MAX_ATOMS", 8)) rfl
    exact ⟨_, mc, u, He.glo_ok X G (cb.fact 39 (f := .glo "Table") rfl), h1, h2⟩
  have l__law_cell := fun (base : Heap) (tb : ∀ p ∈ TCs K, LamX.TabB base mg p.1 p.2) => lk__law_cell (M := ⟨P, w, K, mg, base⟩) (by
    obtain ⟨fd, F⟩ := cb.def_ 0 (d := e__law_cell) rfl
    exact ⟨_, fd, He.glo_ok X G (cb.fact 0 (f := .glo "_law_cell") rfl), F⟩) fr rfl
  have l__law_box := fun (base : Heap) (tb : ∀ p ∈ TCs K, LamX.TabB base mg p.1 p.2) => lk__law_box (M := ⟨P, w, K, mg, base⟩) (by
    obtain ⟨fd, F⟩ := cb.def_ 1 (d := e__law_box) rfl
    exact ⟨_, fd, He.glo_ok X G (cb.fact 1 (f := .glo "_law_box") rfl), F⟩) fr rfl
  have l__law_take := fun (base : Heap) (tb : ∀ p ∈ TCs K, LamX.TabB base mg p.1 p.2) => lk__law_take (M := ⟨P, w, K, mg, base⟩) (by
    obtain ⟨fd, F⟩ := cb.def_ 2 (d := e__law_take) rfl
    exact ⟨_, fd, He.glo_ok X G (cb.fact 2 (f := .glo "_law_take") rfl), F⟩) fr rfl
  have l__law_chars := fun (base : Heap) (tb : ∀ p ∈ TCs K, LamX.TabB base mg p.1 p.2) => lk__law_chars (M := ⟨P, w, K, mg, base⟩) (by
    obtain ⟨fd, F⟩ := cb.def_ 3 (d := e__law_chars) rfl
    exact ⟨_, fd, He.glo_ok X G (cb.fact 3 (f := .glo "_law_chars") rfl), F⟩) fr ⟨l__law_take base tb, rfl⟩
  have l__law_atoms := fun (base : Heap) (tb : ∀ p ∈ TCs K, LamX.TabB base mg p.1 p.2) => lk__law_atoms (M := ⟨P, w, K, mg, base⟩) (by
    obtain ⟨fd, F⟩ := cb.def_ 4 (d := e__law_atoms) rfl
    exact ⟨_, fd, He.glo_ok X G (cb.fact 4 (f := .glo "_law_atoms") rfl), F⟩) fr rfl
  have l__law_barred := fun (base : Heap) (tb : ∀ p ∈ TCs K, LamX.TabB base mg p.1 p.2) => lk__law_barred (M := ⟨P, w, K, mg, base⟩) (by
    obtain ⟨fd, F⟩ := cb.def_ 5 (d := e__law_barred) rfl
    exact ⟨_, fd, He.glo_ok X G (cb.fact 5 (f := .glo "_law_barred") rfl), F⟩) fr ⟨l__law_take base tb, rfl⟩
  have l__law_table := fun (base : Heap) (tb : ∀ p ∈ TCs K, LamX.TabB base mg p.1 p.2) => lk__law_table (M := ⟨P, w, K, mg, base⟩) (by
    obtain ⟨fd, F⟩ := cb.def_ 6 (d := e__law_table) rfl
    exact ⟨_, fd, He.glo_ok X G (cb.fact 6 (f := .glo "_law_table") rfl), F⟩) fr ⟨l__law_chars base tb, l__law_take base tb, l__law_atoms base tb, l__law_barred base tb, rfl⟩
  have l__law_turned_i := fun (base : Heap) (tb : ∀ p ∈ TCs K, LamX.TabB base mg p.1 p.2) => lk__law_turned_i (M := ⟨P, w, K, mg, base⟩) (by
    obtain ⟨fd, F⟩ := cb.def_ 7 (d := e__law_turned_i) rfl
    exact ⟨_, fd, He.glo_ok X G (cb.fact 7 (f := .glo "_law_turned") rfl), F⟩) fr ⟨l__law_take base tb, rfl⟩
  have l__law_turned_s := fun (base : Heap) (tb : ∀ p ∈ TCs K, LamX.TabB base mg p.1 p.2) => lk__law_turned_s (M := ⟨P, w, K, mg, base⟩) (by
    obtain ⟨fd, F⟩ := cb.def_ 8 (d := e__law_turned_s) rfl
    exact ⟨_, fd, He.glo_ok X G (cb.fact 8 (f := .glo "_law_turned") rfl), F⟩) fr ⟨l__law_take base tb, rfl⟩
  have l_is_character_s := fun (base : Heap) (tb : ∀ p ∈ TCs K, LamX.TabB base mg p.1 p.2) => lk_is_character_s (M := ⟨P, w, K, mg, base⟩) (by
    obtain ⟨fd, F⟩ := cb.def_ 9 (d := e_is_character_s) rfl
    exact ⟨_, fd, He.glo_ok X G (cb.fact 9 (f := .glo "is_character") rfl), F⟩) fr ⟨c_CHARACTERS base, rfl⟩
  have l_is_character_c := fun (base : Heap) (tb : ∀ p ∈ TCs K, LamX.TabB base mg p.1 p.2) => lk_is_character_c (M := ⟨P, w, K, mg, base⟩) (by
    obtain ⟨fd, F⟩ := cb.def_ 10 (d := e_is_character_c) rfl
    exact ⟨_, fd, He.glo_ok X G (cb.fact 10 (f := .glo "is_character") rfl), F⟩) fr ⟨c_CHARACTERS base, rfl⟩
  have l_in_order := fun (base : Heap) (tb : ∀ p ∈ TCs K, LamX.TabB base mg p.1 p.2) => lk_in_order (M := ⟨P, w, K, mg, base⟩) (by
    obtain ⟨fd, F⟩ := cb.def_ 11 (d := e_in_order) rfl
    exact ⟨_, fd, He.glo_ok X G (cb.fact 11 (f := .glo "in_order") rfl), F⟩) fr ⟨l_is_character_c base tb, c_CHARACTERS base, rfl⟩
  have l_is_class := fun (base : Heap) (tb : ∀ p ∈ TCs K, LamX.TabB base mg p.1 p.2) => lk_is_class (M := ⟨P, w, K, mg, base⟩) (by
    obtain ⟨fd, F⟩ := cb.def_ 12 (d := e_is_class) rfl
    exact ⟨_, fd, He.glo_ok X G (cb.fact 12 (f := .glo "is_class") rfl), F⟩) fr rfl
  have l_require_classes := fun (base : Heap) (tb : ∀ p ∈ TCs K, LamX.TabB base mg p.1 p.2) => lk_require_classes (M := ⟨P, w, K, mg, base⟩) (by
    obtain ⟨fd, F⟩ := cb.def_ 13 (d := e_require_classes) rfl
    exact ⟨_, fd, He.glo_ok X G (cb.fact 13 (f := .glo "require_classes") rfl), F⟩) fr ⟨l_is_character_s base tb, l_in_order base tb, l_is_class base tb, v_Table_MAX_CHARACTERS base, v_Table_MAX_CLASS base, rfl⟩
  have l_is_text := fun (base : Heap) (tb : ∀ p ∈ TCs K, LamX.TabB base mg p.1 p.2) => lk_is_text (M := ⟨P, w, K, mg, base⟩) (by
    obtain ⟨fd, F⟩ := cb.def_ 14 (d := e_is_text) rfl
    exact ⟨_, fd, He.glo_ok X G (cb.fact 14 (f := .glo "is_text") rfl), F⟩) fr rfl
  have l_reached_from := fun (base : Heap) (tb : ∀ p ∈ TCs K, LamX.TabB base mg p.1 p.2) => lk_reached_from (M := ⟨P, w, K, mg, base⟩) (by
    obtain ⟨fd, F⟩ := cb.def_ 15 (d := e_reached_from) rfl
    exact ⟨_, fd, He.glo_ok X G (cb.fact 15 (f := .glo "reached_from") rfl), F⟩) fr rfl
  have l_require_decompositions := fun (base : Heap) (tb : ∀ p ∈ TCs K, LamX.TabB base mg p.1 p.2) => lk_require_decompositions (M := ⟨P, w, K, mg, base⟩) (by
    obtain ⟨fd, F⟩ := cb.def_ 16 (d := e_require_decompositions) rfl
    exact ⟨_, fd, He.glo_ok X G (cb.fact 16 (f := .glo "require_decompositions") rfl), F⟩) fr ⟨l_is_text base tb, l_reached_from base tb, rfl⟩
  have l_atom_counts := fun (base : Heap) (tb : ∀ p ∈ TCs K, LamX.TabB base mg p.1 p.2) => lk_atom_counts (M := ⟨P, w, K, mg, base⟩) (by
    obtain ⟨fd, F⟩ := cb.def_ 17 (d := e_atom_counts) rfl
    exact ⟨_, fd, He.glo_ok X G (cb.fact 17 (f := .glo "atom_counts") rfl), F⟩) fr rfl
  have l_first_atom := fun (base : Heap) (tb : ∀ p ∈ TCs K, LamX.TabB base mg p.1 p.2) => lk_first_atom (M := ⟨P, w, K, mg, base⟩) (by
    obtain ⟨fd, F⟩ := cb.def_ 18 (d := e_first_atom) rfl
    exact ⟨_, fd, He.glo_ok X G (cb.fact 18 (f := .glo "first_atom") rfl), F⟩) fr rfl
  have l_require_fit := fun (base : Heap) (tb : ∀ p ∈ TCs K, LamX.TabB base mg p.1 p.2) => lk_require_fit (M := ⟨P, w, K, mg, base⟩) (by
    obtain ⟨fd, F⟩ := cb.def_ 19 (d := e_require_fit) rfl
    exact ⟨_, fd, He.glo_ok X G (cb.fact 19 (f := .glo "require_fit") rfl), F⟩) fr ⟨l_atom_counts base tb, l_first_atom base tb, v_Table_MAX_ATOMS base, rfl⟩
  have l_require_exclusions := fun (base : Heap) (tb : ∀ p ∈ TCs K, LamX.TabB base mg p.1 p.2) => lk_require_exclusions (M := ⟨P, w, K, mg, base⟩) (by
    obtain ⟨fd, F⟩ := cb.def_ 20 (d := e_require_exclusions) rfl
    exact ⟨_, fd, He.glo_ok X G (cb.fact 20 (f := .glo "require_exclusions") rfl), F⟩) fr rfl
  have l_require_unique := fun (base : Heap) (tb : ∀ p ∈ TCs K, LamX.TabB base mg p.1 p.2) => lk_require_unique (M := ⟨P, w, K, mg, base⟩) (by
    obtain ⟨fd, F⟩ := cb.def_ 21 (d := e_require_unique) rfl
    exact ⟨_, fd, He.glo_ok X G (cb.fact 21 (f := .glo "require_unique") rfl), F⟩) fr rfl
  have l_expanded := fun (base : Heap) (tb : ∀ p ∈ TCs K, LamX.TabB base mg p.1 p.2) => lk_expanded (M := ⟨P, w, K, mg, base⟩) (by
    obtain ⟨fd, F⟩ := cb.def_ 22 (d := e_expanded) rfl
    exact ⟨_, fd, He.glo_ok X G (cb.fact 22 (f := .glo "expanded") rfl), F⟩) fr
  have l_Table___init__ := fun (base : Heap) (tb : ∀ p ∈ TCs K, LamX.TabB base mg p.1 p.2) => lk_Table___init__ (M := ⟨P, w, K, mg, base⟩) (by
    obtain ⟨fd, F⟩ := cb.def_ 23 (d := e_Table___init__) rfl
    exact ⟨_, fd, He.mkr_ok (cb.fact 23 (f := .mkr "Table") rfl), He.glo_ok X G (cb.fact 39 (f := .glo "Table") rfl), F⟩) fr ⟨l_require_classes base tb, l_in_order base tb, l_require_decompositions base tb, l_require_fit base tb, l_require_exclusions base tb, l_require_unique base tb, l_expanded base tb, k_cls_Table, k_no_Table_pair_map, k_no_Table_barred, k_no_Table_atom_map, k_no_Table_part_map, k_no_Table_class_map, rfl⟩
  have l__law_made := fun (base : Heap) (tb : ∀ p ∈ TCs K, LamX.TabB base mg p.1 p.2) => lk__law_made (M := ⟨P, w, K, mg, base⟩) (by
    obtain ⟨fd, F⟩ := cb.def_ 24 (d := e__law_made) rfl
    exact ⟨_, fd, He.glo_ok X G (cb.fact 24 (f := .glo "_law_made") rfl), F⟩) fr ⟨l__law_turned_i base tb, l__law_turned_s base tb, l_Table___init__ base tb, rfl⟩
  have l__law_text := fun (base : Heap) (tb : ∀ p ∈ TCs K, LamX.TabB base mg p.1 p.2) => lk__law_text (M := ⟨P, w, K, mg, base⟩) (by
    obtain ⟨fd, F⟩ := cb.def_ 25 (d := e__law_text) rfl
    exact ⟨_, fd, He.glo_ok X G (cb.fact 25 (f := .glo "_law_text") rfl), F⟩) fr ⟨l__law_take base tb, rfl⟩
  have l__law_of_marks := fun (base : Heap) (tb : ∀ p ∈ TCs K, LamX.TabB base mg p.1 p.2) => lk__law_of_marks (M := ⟨P, w, K, mg, base⟩) (by
    obtain ⟨fd, F⟩ := cb.def_ 26 (d := e__law_of_marks) rfl
    exact ⟨_, fd, He.glo_ok X G (cb.fact 26 (f := .glo "_law_of_marks") rfl), F⟩) fr ⟨l__law_take base tb, rfl⟩
  have l__law_sorted := fun (base : Heap) (tb : ∀ p ∈ TCs K, LamX.TabB base mg p.1 p.2) => lk__law_sorted (M := ⟨P, w, K, mg, base⟩) (by
    obtain ⟨fd, F⟩ := cb.def_ 27 (d := e__law_sorted) rfl
    exact ⟨_, fd, He.glo_ok X G (cb.fact 27 (f := .glo "_law_sorted") rfl), F⟩) fr rfl
  have l__law_form := fun (base : Heap) (tb : ∀ p ∈ TCs K, LamX.TabB base mg p.1 p.2) => lk__law_form (M := ⟨P, w, K, mg, base⟩) (by
    obtain ⟨fd, F⟩ := cb.def_ 28 (d := e__law_form) rfl
    exact ⟨_, fd, He.glo_ok X G (cb.fact 28 (f := .glo "_law_form") rfl), F⟩) fr ⟨l__law_atoms base tb, l__law_sorted base tb, rfl⟩
  have l_require_table := fun (base : Heap) (tb : ∀ p ∈ TCs K, LamX.TabB base mg p.1 p.2) => lk_require_table (M := ⟨P, w, K, mg, base⟩) (by
    obtain ⟨fd, F⟩ := cb.def_ 29 (d := e_require_table) rfl
    exact ⟨_, fd, He.glo_ok X G (cb.fact 29 (f := .glo "require_table") rfl), F⟩) fr ⟨k_isc_Table, k_glo_Table, rfl⟩
  have l_Table_characters := fun (base : Heap) (tb : ∀ p ∈ TCs K, LamX.TabB base mg p.1 p.2) => lk_Table_characters (M := ⟨P, w, K, mg, base⟩) (by
    obtain ⟨fd, h1, F⟩ := c.prop 0 (p := ⟨"Table", "characters", e_Table_characters⟩) rfl
    exact ⟨_, _, fd, h1, F⟩) fr ⟨k_cls_Table, k_no_Table_class_map, rfl⟩
  have l_require_text := fun (base : Heap) (tb : ∀ p ∈ TCs K, LamX.TabB base mg p.1 p.2) => lk_require_text (M := ⟨P, w, K, mg, base⟩) (by
    obtain ⟨fd, F⟩ := cb.def_ 30 (d := e_require_text) rfl
    exact ⟨_, fd, He.glo_ok X G (cb.fact 30 (f := .glo "require_text") rfl), F⟩) fr ⟨l_Table_characters base tb, l_is_text base tb, k_cls_Table, ci_MAX_TEXT base, rfl⟩
  have l_Table___contains__ := fun (base : Heap) (tb : ∀ p ∈ TCs K, LamX.TabB base mg p.1 p.2) => lk_Table___contains__ (M := ⟨P, w, K, mg, base⟩) (by
    obtain ⟨fd, F⟩ := cb.def_ 31 (d := e_Table___contains__) rfl
    exact ⟨_, fd, He.meth_ok (cb.fact 31 (f := .meth "Table" "__contains__") rfl), F⟩) fr ⟨l_is_character_c base tb, k_cls_Table, k_no_Table_class_map, rfl⟩
  have l_Table_require_known := fun (base : Heap) (tb : ∀ p ∈ TCs K, LamX.TabB base mg p.1 p.2) => lk_Table_require_known (M := ⟨P, w, K, mg, base⟩) (by
    obtain ⟨fd, F⟩ := cb.def_ 32 (d := e_Table_require_known) rfl
    exact ⟨_, fd, He.meth_ok (cb.fact 32 (f := .meth "Table" "require_known") rfl), F⟩) fr ⟨l_Table___contains__ base tb, rfl⟩
  have l_Table_atoms := fun (base : Heap) (tb : ∀ p ∈ TCs K, LamX.TabB base mg p.1 p.2) => lk_Table_atoms (M := ⟨P, w, K, mg, base⟩) (by
    obtain ⟨fd, F⟩ := cb.def_ 33 (d := e_Table_atoms) rfl
    exact ⟨_, fd, He.meth_ok (cb.fact 33 (f := .meth "Table" "atoms") rfl), F⟩) fr ⟨l_Table_require_known base tb, k_cls_Table, k_no_Table_atom_map, rfl⟩
  have l_Table_class_of := fun (base : Heap) (tb : ∀ p ∈ TCs K, LamX.TabB base mg p.1 p.2) => lk_Table_class_of (M := ⟨P, w, K, mg, base⟩) (by
    obtain ⟨fd, F⟩ := cb.def_ 34 (d := e_Table_class_of) rfl
    exact ⟨_, fd, He.meth_ok (cb.fact 34 (f := .meth "Table" "class_of") rfl), F⟩) fr ⟨l_Table_require_known base tb, k_cls_Table, k_no_Table_class_map, rfl⟩
  have l_sorted_runs := fun (base : Heap) (tb : ∀ p ∈ TCs K, LamX.TabB base mg p.1 p.2) => lk_sorted_runs (M := ⟨P, w, K, mg, base⟩) (by
    obtain ⟨fd, F⟩ := cb.def_ 35 (d := e_sorted_runs) rfl
    exact ⟨fd, He.glo_ok X G (cb.fact 35 (f := .glo "sorted_runs") rfl), F⟩) fr ⟨l_Table_class_of base tb, k_cls_Table, tb _ (List.mem_map.mpr ⟨("sorted_runs", none), by unfold tf; exact .head _, rfl⟩), rfl⟩
  have l_plain_form := fun (base : Heap) (tb : ∀ p ∈ TCs K, LamX.TabB base mg p.1 p.2) => lk_plain_form (M := ⟨P, w, K, mg, base⟩) (by
    obtain ⟨fd, F⟩ := cb.def_ 36 (d := e_plain_form) rfl
    exact ⟨_, fd, He.glo_ok X G (cb.fact 36 (f := .glo "plain_form") rfl), F⟩) fr ⟨l_Table_atoms base tb, l_sorted_runs base tb, k_cls_Table, rfl⟩
  have l_decomposed := fun (base : Heap) (tb : ∀ p ∈ TCs K, LamX.TabB base mg p.1 p.2) => lk_decomposed (M := ⟨P, w, K, mg, base⟩) (by
    obtain ⟨fd, F⟩ := cb.def_ 37 (d := e_decomposed) rfl
    exact ⟨_, fd, He.glo_ok X G (cb.fact 37 (f := .glo "decomposed") rfl), F⟩) fr ⟨l_require_table base tb, l_require_text base tb, l_plain_form base tb, rfl⟩
  have l_kwr_decomposed := fun (base : Heap) (tb : ∀ p ∈ TCs K, LamX.TabB base mg p.1 p.2) => lkr_decomposed (M := ⟨P, w, K, mg, base⟩) (by
    obtain ⟨fd, F⟩ := cb.def_ 37 (d := e_decomposed) rfl
    exact ⟨_, fd, He.glo_ok X G (cb.fact 37 (f := .glo "decomposed") rfl), F⟩) fr ⟨l_require_table base tb, l_require_text base tb, l_plain_form base tb, rfl⟩
  obtain ⟨fd, F⟩ := cb.def_ 38 (d := e_law) rfl
  have e := hfa.symm.trans (He.glo_ok X G (cb.fact 38 (f := .glo "law") rfl))
  cases e
  have b := FunD.bindsA (ps := ["script"]) F fun _ _ _ _ _ _ us hl => match us, hl with | [_], _ => rfl
  exact ⟨fd, fun s v => b s [v] rfl, fun base _ _ tb => ok_law (M := ⟨P, w, K, mg, base⟩) F fr ⟨l__law_cell base tb, l__law_box base tb, l__law_take base tb, l__law_table base tb, l__law_made base tb, l__law_text base tb, l__law_of_marks base tb, l__law_form base tb, l_decomposed base tb, l_kwr_decomposed base tb, rfl⟩⟩
end K

open PySem PySem.W PySem.Calls PyProof.Rows
theorem PySem.Challenge.cw_canontext_k14_decomposed_forms_holds : PySem.Challenge.rw_canontext_k14_decomposed_forms.Holds := by
  w_on; o_law
  refine HandSHeadRun.head_any (r := OpenLaw.row PySem.Challenge.rw_canontext_k14_decomposed_forms) (q := view (OpenLaw.row PySem.Challenge.rw_canontext_k14_decomposed_forms).prog [53]) (H := K.hk) (ob := K.ob) (M := 8000) (loose := K.loose) (d := HandSHeadRun.topDef (OpenLaw.row PySem.Challenge.rw_canontext_k14_decomposed_forms).prog 53) (kwd := []) K.ob_eq
    (by kernel_rfl) (fun s => by kernel_rfl) K.run (by kernel_rfl) (by kernel_rfl) (by kernel_rfl) (by rfl) (by first | assumption | decide +kernel) (by decide +kernel) ⟨rfl, rfl, rfl, rfl, rfl, by decide +kernel⟩ ?hw ?hc
  case hw => w_witness2
  case hc =>
    refine Mi.walk_T (l := PySem.Challenge.rw_canontext_k14_decomposed_forms) (n := 63) (k := 36) (x := "script") (CX := fun w => L2.CX (PySem.Challenge.rw_canontext_k14_decomposed_forms).prog w) rfl (by decide) (by kernel_rfl) ⟨rfl, by decide, by decide⟩ ?F (fun _ _ _ _ _ h => Mi.no_exc h)
    intro w mg fa h Y G hmg0
    obtain ⟨K0, KX, c⟩ := Y
    have hmg : mg ("law" : PySem.Str) = some (.ref fa) := by
      have e : (HandSHeadRun.topDef (OpenLaw.row PySem.Challenge.rw_canontext_k14_decomposed_forms).prog 53).name = ("law" : PySem.Str) := by kernel_rfl
      rw [← e]
      exact hmg0
    obtain ⟨fd, hb, hF⟩ := K.facts (P := (PySem.Challenge.rw_canontext_k14_decomposed_forms).prog) (w := w) KX G hmg c
    refine ⟨K0, fd, K.TCs K0, _, KX, fun p hp => ?_, fun p hp => ?_, fun p hp => ?_, hb, fun H a ns hl hH hS => K.sp_law ns (fun p hp => ?_) c.nd hS, fun base h1 h2 tb => hF base h1 h2 tb⟩
    · obtain ⟨x, hx, rfl⟩ := List.mem_map.mp hp
      exact c.empty x hx
    · obtain ⟨x, hx, rfl⟩ := List.mem_map.mp hp
      exact c.out x hx
    · obtain ⟨x, hx, rfl⟩ := List.mem_map.mp hp
      exact PySem.W.codeHd_of_K KX (c.hd x hx)
    · have hp' : p ∈ (K.TCs K0).zipWith (fun a b => (a.2, b)) ((K.TG K0).map (·.2)) := hp
      obtain ⟨i, hi, e⟩ := List.mem_iff_getElem.mp hp'
      rw [List.getElem_zipWith] at e
      rw [← e]
      exact hH _ (List.getElem_mem _)


