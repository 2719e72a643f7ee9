import PyProof.Rows.All
import Wide.All
import OpenK.AllK
import Wide.FinOn
import HandS.ForMost
import HandS.ForExc
import HandS.Wide
import HandS.WideBits
import HandS.WideMore
import HandS.IsInst
import HandS.TupAny
import HandS.Defaults
import HandS.Conv
import HandS.Deep
import HandS.SortInts
import HandS.SortRule
import HandS.Rev
import HandS.Zip
import HandS.Dict
import HandS.Small
import HandS.More
import HandS.Iter
import PyProof.Rows.SeqMore
import KE.DatumOrd
import HandS.TupLe
import PyProof.TupleOfSeq
import HandS.Set
import HandS.SetFor
import HandS.Strs
import HandS.TupMul
import KE.GoesEnum
import HandS.Codes
import HandS.TupSets
import HandS.DictComp
import KE.DataMinMax
import KE.KDictList
import KE.KIndexOf
import KE.DataFind
import HandS.SortKw
import KE.BitLaws
import HandS.ExcIs
import HandS.CallSlots
import KE.DatumIndex
import HandS.SetKeys
import HandS.MapObj
import PyProof.AutoSeq1
import KE.KTupSum
import KE.SortKeyHeap
import HandS.Style
import PySem.Challenge.RW_ringfell_k52_sets_crossed
set_option Elab.async false
set_option linter.all false
set_option maxRecDepth 100000
namespace VL
open PySem PySem.Spec PyProof.Rows L2

/-- data as a tree: lst m: m = true is owned (may be changed), false is fixed -/
inductive D where
  | unk | non
  | bl (b : Bool) | int (i : Int) | str (x : Str)
  /-- what was raised and is held: where it lies, and its class's name -/
  | exc (a : Addr) (x : Str)
  | tup (xs : List D)
  | lst (m : Bool) (xs : List D)
  | dK (m : Bool) (ks : List Key) (ds : List D)
  | dT (m : Bool) (ks : List (List Key)) (ds : List D)

/-- a tuple that has no dict of its own (its methods may be called) -/
def TupN (K : PySem.W.Frag) (F : Hp) (a : Addr) (vs : List V) : Prop := (∃ o, F a = some (.frz o (.tup vs)) ∧ o.dict = none) ∨
  ∃ (o : Obj) (its : Array Value) (n : Nat), K.lookup a = some o ∧ o.cls = .type "tuple" ∧ o.dict = none ∧ o.data = .seq its n ∧ its.size ≤ sizeLine ∧ Vals vs its.toList
theorem TupN.sq {K : PySem.W.Frag} {F : Hp} {a : Addr} {vs : List V} (h : TupN K F a vs) : SqT K F a vs := by
  rcases h with ⟨o, h, _⟩ | ⟨o, its, n, h1, h2, _, h3, h4, h5⟩
  · exact .inl (.inr ⟨o, h⟩)
  · exact .inr ⟨o, its, n, h1, h2, h3, h4, h5⟩
/-- a new tuple has come -/
def NewT (H : Hp) (vs : List V) (Q : VK) : Prop := ∀ (p : Addr) (o : Obj), H p = none → o.dict = none → Q (.ref p) (upd H p (.frz o (.tup vs)))
theorem newTup {X : Cx} {pins : List (Addr × Obj)} {σ : L2.St} {H : Hp} {s : Shared} {vs : List V} {us : List Value} {h' : Heap} {t' : Nat} {a : Addr} {Q : VK} (I : Inv X pins σ H s) (r : Vals vs us) (hz : vs.length ≤ sizeLine) (ha : s.heap.objs.size ≤ a) (k : ∀ b u, s.heap.get? b = some u → h'.get? b = some u)
    (e : h'.get? a = some { cls := .type "tuple", data := .seq us.toArray }) (q : NewT H vs Q) : EP X pins σ Q (.ref a) { s with heap := h', toks := t' } :=
by
  have new : ObjOk X.prog X.w (upd H a (.frz { cls := .type "tuple", data := .seq us.toArray } (.tup vs))) h' a (.frz { cls := .type "tuple", data := .seq us.toArray } (.tup vs)) := ⟨e, hz, us, r, ⟨_, e, rfl, _, rfl⟩⟩
  exact ⟨.ref a, _, I.laid (t' := t') k ha new, rfl, q a _ (I.hok.fresh ha) rfl⟩
section
variable (K : PySem.W.Frag) (F H : Hp)
mutual
def Rep : D → V → List Addr → Prop
  | .unk, _, fp => fp = []
  | .non, v, fp => v = .non ∧ fp = []
  | .bl b, v, fp => v = .bl b ∧ fp = []
  | .int i, v, fp => v = .int i ∧ fp = []
  | .str x, v, fp => v = .str x ∧ fp = []
  | .exc a _, v, fp => v = .ref a ∧ fp = []
  | .tup ds, v, fp => ∃ a vs, v = .ref a ∧ TupN K F a vs ∧ RepL ds vs fp
  | .lst m ds, v, fp => ∃ a vs fq, v = .ref a ∧ RepL ds vs fq ∧ ((m = true ∧ H a = some (.lst vs) ∧ fp = a :: fq) ∨ (m = false ∧ SqL K F a vs ∧ fp = [] ∧ fq = []))
  | .dK m ks ds, v, fp => ∃ a vs fq, v = .ref a ∧ ks.length = ds.length ∧ RepL ds vs fq ∧ ((m = true ∧ H a = some (.dK (ks.zip vs)) ∧ fp = a :: fq) ∨ (m = false ∧ Rd F a (.dK (ks.zip vs)) ∧ fp = [] ∧ fq = []))
  | .dT m ks ds, v, fp => ∃ a vs fq, v = .ref a ∧ ks.length = ds.length ∧ RepL ds vs fq ∧ ((m = true ∧ H a = some (.dT (ks.zip vs)) ∧ fp = a :: fq) ∨ (m = false ∧ F a = some (.dT (ks.zip vs)) ∧ fp = [] ∧ fq = []))
def RepL : List D → List V → List Addr → Prop
  | [], vs, fp => vs = [] ∧ fp = []
  | d :: ds, vs, fp => ∃ v vs' f1 f2, vs = v :: vs' ∧ fp = f1 ++ f2 ∧ Rep d v f1 ∧ RepL ds vs' f2
end
end

mutual
def D.imm : D → Bool
  | .unk => true | .non => true | .bl _ => true | .int _ => true | .str _ => true | .exc _ _ => true
  | .tup xs => immL xs
  | .lst m _ => !m
  | .dK m _ _ => !m
  | .dT m _ _ => !m
def immL : List D → Bool
  | [] => true
  | d :: ds => d.imm && immL ds
end
mutual
def fz : D → D
  | .tup xs => .tup (fzL xs)
  | .lst _ xs => .lst false (fzL xs)
  | .dK _ ks ds => .dK false ks (fzL ds)
  | .dT _ ks ds => .dT false ks (fzL ds)
  | .unk => .unk | .non => .non | .bl b => .bl b | .int i => .int i | .str x => .str x | .exc a x => .exc a x
def fzL : List D → List D
  | [] => []
  | d :: ds => fz d :: fzL ds
end
/-! no fixed list or dict within -/
mutual
def D.nofz : D → Bool
  | .unk => false | .non => true | .bl _ => true | .int _ => true | .str _ => true | .exc _ _ => true
  | .tup xs => nofzL xs
  | .lst m xs => m && nofzL xs
  | .dK m _ ds => m && nofzL ds
  | .dT m _ ds => m && nofzL ds
def nofzL : List D → Bool
  | [] => true
  | d :: ds => d.nofz && nofzL ds
end
def D.scal : D → Bool
  | .non => true | .bl _ => true | .int _ => true | .str _ => true | .unk => false | .exc _ _ => true
  | .tup _ => false | .lst _ _ => false | .dK _ _ _ => false | .dT _ _ _ => false

theorem fzL_len : ∀ {ds : List D}, (fzL ds).length = ds.length
  | [] => rfl
  | d :: ds => by rw [fzL, List.length_cons, List.length_cons, fzL_len]
def Sub (F F' : Hp) : Prop := ∀ a o, F a = some o → F' a = some o
theorem Sub.refl {F : Hp} : Sub F F := fun _ _ h => h
theorem Sub.trans {F F1 F2 : Hp} (h : Sub F F1) (h' : Sub F1 F2) : Sub F F2 := fun a o e => h' a o (h a o e)
theorem Sub.seqL {K : PySem.W.Frag} {F F' : Hp} {a : Addr} {xs : List V} (e : Sub F F') (h : SqL K F a xs) : SqL K F' a xs := Same.seq e h
theorem Sub.rd {F F' : Hp} {a : Addr} {u : HO} (e : Sub F F') (h : Rd F a u) : Rd F' a u := h.elim (fun z => .inl (e _ _ z)) fun ⟨o, z⟩ => .inr ⟨o, e _ _ z⟩
theorem Sub.tupN {K : PySem.W.Frag} {F F' : Hp} {a : Addr} {xs : List V} (e : Sub F F') (h : TupN K F a xs) : TupN K F' a xs := h.imp (fun ⟨o, z, y⟩ => ⟨o, e _ _ z, y⟩) id
theorem Sub.seqT {K : PySem.W.Frag} {F F' : Hp} {a : Addr} {xs : List V} (e : Sub F F') (h : SqT K F a xs) : SqT K F' a xs := by
  rcases h with (h | ⟨o, h⟩) | h
  · exact .inl (.inl (e _ _ h))
  · exact .inl (.inr ⟨o, e _ _ h⟩)
  · exact .inr h

section
variable {K : PySem.W.Frag} {F F' G H H' : Hp}
mutual
theorem Rep.ofImm : ∀ {d : D} {v : V} {fp : List Addr}, Rep K F H d v fp → d.imm = true → fp = []
  | .unk, _, _, h, _ => by rw [Rep] at h; exact h
  | .non, _, _, h, _ => by rw [Rep] at h; exact h.2
  | .bl _, _, _, h, _ => by rw [Rep] at h; exact h.2
  | .int _, _, _, h, _ => by rw [Rep] at h; exact h.2
  | .str _, _, _, h, _ => by rw [Rep] at h; exact h.2
  | .exc _ _, _, _, h, _ => by rw [Rep] at h; exact h.2
  | .tup ds, _, _, h, e => by
    rw [Rep] at h; rw [D.imm] at e
    obtain ⟨a, vs, _, _, h⟩ := h
    exact RepL.ofImm h e
  | .lst m ds, _, _, h, e => by
    rw [Rep] at h; rw [D.imm] at e
    obtain ⟨a, vs, fq, _, _, h | h⟩ := h
    · rw [h.1] at e; cases e
    · exact h.2.2.1
  | .dK m ks ds, _, _, h, e => by
    rw [Rep] at h; rw [D.imm] at e
    obtain ⟨a, vs, fq, _, _, _, h | h⟩ := h
    · rw [h.1] at e; cases e
    · exact h.2.2.1
  | .dT m ks ds, _, _, h, e => by
    rw [Rep] at h; rw [D.imm] at e
    obtain ⟨a, vs, fq, _, _, _, h | h⟩ := h
    · rw [h.1] at e; cases e
    · exact h.2.2.1
theorem RepL.ofImm : ∀ {ds : List D} {vs : List V} {fp : List Addr}, RepL K F H ds vs fp → immL ds = true → fp = []
  | [], _, _, h, _ => by rw [RepL] at h; exact h.2
  | d :: ds, _, _, h, e => by
    rw [RepL] at h; rw [immL, Bool.and_eq_true] at e
    obtain ⟨v, vs', f1, f2, _, rfl, h1, h2⟩ := h
    rw [Rep.ofImm h1 e.1, RepL.ofImm h2 e.2]
    rfl
end
mutual
theorem Rep.mono (hF : Sub F F') : ∀ {d : D} {v : V} {fp : List Addr}, Rep K F H d v fp → (∀ a ∈ fp, ∀ o, H a = some o → H' a = some o) → Rep K F' H' d v fp
  | .unk, _, _, h, _ => by rw [Rep] at *; exact h
  | .non, _, _, h, _ => by rw [Rep] at *; exact h
  | .bl _, _, _, h, _ => by rw [Rep] at *; exact h
  | .int _, _, _, h, _ => by rw [Rep] at *; exact h
  | .str _, _, _, h, _ => by rw [Rep] at *; exact h
  | .exc _ _, _, _, h, _ => by rw [Rep] at *; exact h
  | .tup ds, _, _, h, k => by
    rw [Rep] at *
    obtain ⟨a, vs, e, hs, h⟩ := h
    exact ⟨a, vs, e, hF.tupN hs, RepL.mono hF h k⟩
  | .lst m ds, _, _, h, k => by
    rw [Rep] at *
    obtain ⟨a, vs, fq, e, hl, ⟨m1, h1, rfl⟩ | ⟨m1, h1, rfl, rfl⟩⟩ := h
    · exact ⟨a, vs, fq, e, RepL.mono hF hl (fun b hb => k b (List.mem_cons_of_mem _ hb)), .inl ⟨m1, k a List.mem_cons_self _ h1, rfl⟩⟩
    · exact ⟨a, vs, [], e, RepL.mono hF hl k, .inr ⟨m1, hF.seqL h1, rfl, rfl⟩⟩
  | .dK m ks ds, _, _, h, k => by
    rw [Rep] at *
    obtain ⟨a, vs, fq, e, en, hl, ⟨m1, h1, rfl⟩ | ⟨m1, h1, rfl, rfl⟩⟩ := h
    · exact ⟨a, vs, fq, e, en, RepL.mono hF hl (fun b hb => k b (List.mem_cons_of_mem _ hb)), .inl ⟨m1, k a List.mem_cons_self _ h1, rfl⟩⟩
    · exact ⟨a, vs, [], e, en, RepL.mono hF hl k, .inr ⟨m1, hF.rd h1, rfl, rfl⟩⟩
  | .dT m ks ds, _, _, h, k => by
    rw [Rep] at *
    obtain ⟨a, vs, fq, e, en, hl, ⟨m1, h1, rfl⟩ | ⟨m1, h1, rfl, rfl⟩⟩ := h
    · exact ⟨a, vs, fq, e, en, RepL.mono hF hl (fun b hb => k b (List.mem_cons_of_mem _ hb)), .inl ⟨m1, k a List.mem_cons_self _ h1, rfl⟩⟩
    · exact ⟨a, vs, [], e, en, RepL.mono hF hl k, .inr ⟨m1, hF _ _ h1, rfl, rfl⟩⟩
theorem RepL.mono (hF : Sub F F') : ∀ {ds : List D} {vs : List V} {fp : List Addr}, RepL K F H ds vs fp → (∀ a ∈ fp, ∀ o, H a = some o → H' a = some o) → RepL K F' H' ds vs fp
  | [], _, _, h, _ => by rw [RepL] at *; exact h
  | d :: ds, _, _, h, k => by
    rw [RepL] at *
    obtain ⟨v, vs', f1, f2, e, rfl, h1, h2⟩ := h
    exact ⟨v, vs', f1, f2, e, rfl, Rep.mono hF h1 (fun a ha => k a (List.mem_append_left _ ha)), RepL.mono hF h2 (fun a ha => k a (List.mem_append_right _ ha))⟩
end
/-- what is owned is tracked, of a kind that may be written -/
def Mu : HO → Prop
  | .lst _ => True
  | .dK _ => True
  | .dT _ => True
  | _ => False
mutual
theorem Rep.mu : ∀ {d : D} {v : V} {fp : List Addr}, Rep K F H d v fp → ∀ a ∈ fp, ∃ o, H a = some o ∧ Mu o
  | .unk, _, _, h, a, ha => by rw [Rep] at h; subst h; cases ha
  | .non, _, _, h, a, ha => by rw [Rep] at h; rw [h.2] at ha; cases ha
  | .bl _, _, _, h, a, ha => by rw [Rep] at h; rw [h.2] at ha; cases ha
  | .int _, _, _, h, a, ha => by rw [Rep] at h; rw [h.2] at ha; cases ha
  | .str _, _, _, h, a, ha => by rw [Rep] at h; rw [h.2] at ha; cases ha
  | .exc _ _, _, _, h, a, ha => by rw [Rep] at h; rw [h.2] at ha; cases ha
  | .tup ds, _, _, h, a, ha => by
    rw [Rep] at h
    obtain ⟨_, vs, _, _, h⟩ := h
    exact RepL.mu h a ha
  | .lst m ds, _, _, h, a, ha => by
    rw [Rep] at h
    obtain ⟨b, vs, fq, _, hl, ⟨m1, h1, rfl⟩ | ⟨m1, h1, rfl, rfl⟩⟩ := h
    · rcases List.mem_cons.mp ha with rfl | ha
      · exact ⟨_, h1, trivial⟩
      · exact RepL.mu hl a ha
    · cases ha
  | .dK m ks ds, _, _, h, a, ha => by
    rw [Rep] at h
    obtain ⟨b, vs, fq, _, _, hl, ⟨m1, h1, rfl⟩ | ⟨m1, h1, rfl, rfl⟩⟩ := h
    · rcases List.mem_cons.mp ha with rfl | ha
      · exact ⟨_, h1, trivial⟩
      · exact RepL.mu hl a ha
    · cases ha
  | .dT m ks ds, _, _, h, a, ha => by
    rw [Rep] at h
    obtain ⟨b, vs, fq, _, _, hl, ⟨m1, h1, rfl⟩ | ⟨m1, h1, rfl, rfl⟩⟩ := h
    · rcases List.mem_cons.mp ha with rfl | ha
      · exact ⟨_, h1, trivial⟩
      · exact RepL.mu hl a ha
    · cases ha
theorem RepL.mu : ∀ {ds : List D} {vs : List V} {fp : List Addr}, RepL K F H ds vs fp → ∀ a ∈ fp, ∃ o, H a = some o ∧ Mu o
  | [], _, _, h, a, ha => by rw [RepL] at h; rw [h.2] at ha; cases ha
  | d :: ds, _, _, h, a, ha => by
    rw [RepL] at h
    obtain ⟨v, vs', f1, f2, _, rfl, h1, h2⟩ := h
    rcases List.mem_append.mp ha with ha | ha
    · exact Rep.mu h1 a ha
    · exact RepL.mu h2 a ha
end
/-! fixed from now on: what it owned is in G -/
mutual
theorem Rep.fz (hF : Sub F G) : ∀ {d : D} {v : V} {fp : List Addr}, Rep K F H d v fp → (∀ a ∈ fp, ∀ o, H a = some o → G a = some o) → Rep K G H' (fz d) v []
  | .unk, _, _, h, _ => by rw [VL.fz, Rep]
  | .non, _, _, h, _ => by rw [VL.fz, Rep] at *; exact ⟨h.1, rfl⟩
  | .bl _, _, _, h, _ => by rw [VL.fz, Rep] at *; exact ⟨h.1, rfl⟩
  | .int _, _, _, h, _ => by rw [VL.fz, Rep] at *; exact ⟨h.1, rfl⟩
  | .str _, _, _, h, _ => by rw [VL.fz, Rep] at *; exact ⟨h.1, rfl⟩
  | .exc _ _, _, _, h, _ => by rw [VL.fz, Rep] at *; exact ⟨h.1, rfl⟩
  | .tup ds, _, _, h, k => by
    rw [VL.fz]; rw [Rep] at *
    obtain ⟨a, vs, e, hs, h⟩ := h
    exact ⟨a, vs, e, hF.tupN hs, RepL.fz hF h k⟩
  | .lst m ds, _, _, h, k => by
    rw [VL.fz]; rw [Rep] at *
    obtain ⟨a, vs, fq, e, hl, ⟨m1, h1, rfl⟩ | ⟨m1, h1, rfl, rfl⟩⟩ := h
    · exact ⟨a, vs, [], e, RepL.fz hF hl (fun b hb => k b (List.mem_cons_of_mem _ hb)), .inr ⟨rfl, SqL.of (k a List.mem_cons_self _ h1), rfl, rfl⟩⟩
    · exact ⟨a, vs, [], e, RepL.fz hF hl k, .inr ⟨rfl, hF.seqL h1, rfl, rfl⟩⟩
  | .dK m ks ds, _, _, h, k => by
    rw [VL.fz]; rw [Rep] at *
    obtain ⟨a, vs, fq, e, en, hl, ⟨m1, h1, rfl⟩ | ⟨m1, h1, rfl, rfl⟩⟩ := h
    · exact ⟨a, vs, [], e, by rw [en, fzL_len], RepL.fz hF hl (fun b hb => k b (List.mem_cons_of_mem _ hb)), .inr ⟨rfl, Rd.of (k a List.mem_cons_self _ h1), rfl, rfl⟩⟩
    · exact ⟨a, vs, [], e, by rw [en, fzL_len], RepL.fz hF hl k, .inr ⟨rfl, hF.rd h1, rfl, rfl⟩⟩
  | .dT m ks ds, _, _, h, k => by
    rw [VL.fz]; rw [Rep] at *
    obtain ⟨a, vs, fq, e, en, hl, ⟨m1, h1, rfl⟩ | ⟨m1, h1, rfl, rfl⟩⟩ := h
    · exact ⟨a, vs, [], e, by rw [en, fzL_len], RepL.fz hF hl (fun b hb => k b (List.mem_cons_of_mem _ hb)), .inr ⟨rfl, k a List.mem_cons_self _ h1, rfl, rfl⟩⟩
    · exact ⟨a, vs, [], e, by rw [en, fzL_len], RepL.fz hF hl k, .inr ⟨rfl, hF _ _ h1, rfl, rfl⟩⟩
theorem RepL.fz (hF : Sub F G) : ∀ {ds : List D} {vs : List V} {fp : List Addr}, RepL K F H ds vs fp → (∀ a ∈ fp, ∀ o, H a = some o → G a = some o) → RepL K G H' (fzL ds) vs []
  | [], _, _, h, _ => by rw [fzL, RepL] at *; exact ⟨h.1, rfl⟩
  | d :: ds, _, _, h, k => by
    rw [fzL]; rw [RepL] at *
    obtain ⟨v, vs', f1, f2, e, rfl, h1, h2⟩ := h
    exact ⟨v, vs', [], [], e, rfl, Rep.fz hF h1 (fun a ha => k a (List.mem_append_left _ ha)), RepL.fz hF h2 (fun a ha => k a (List.mem_append_right _ ha))⟩
end
end
end VL

namespace VL
open PySem PySem.Spec PyProof.Rows L2

/-! ### slots -/
section
variable (K : PySem.W.Frag) (F H : Hp)
def RepO (d : D) (ov : Option V) (fp : List Addr) : Prop :=
  match ov with
  | some v => Rep K F H d v fp
  | none => d = .unk ∧ fp = []
def RepS : List D → L2.St → List Addr → Prop
  | [], σ, fp => σ = [] ∧ fp = []
  | d :: S, σ, fp => ∃ ov σ' f1 f2, σ = ov :: σ' ∧ fp = f1 ++ f2 ∧ RepO K F H d ov f1 ∧ RepS S σ' f2
end
section
variable {K : PySem.W.Frag} {F F' G H H' : Hp}
theorem RepO.mono (hF : Sub F F') {d : D} {ov : Option V} {fp : List Addr} (h : RepO K F H d ov fp) (k : ∀ a ∈ fp, ∀ o, H a = some o → H' a = some o) : RepO K F' H' d ov fp := by
  cases ov with
  | none => exact h
  | some v => exact Rep.mono hF h k
theorem RepS.mono (hF : Sub F F') : ∀ {S : List D} {σ : L2.St} {fp : List Addr}, RepS K F H S σ fp → (∀ a ∈ fp, ∀ o, H a = some o → H' a = some o) → RepS K F' H' S σ fp
  | [], _, _, h, _ => h
  | d :: S, _, _, h, k => by
    obtain ⟨ov, σ', f1, f2, e, rfl, h1, h2⟩ := h
    exact ⟨ov, σ', f1, f2, e, rfl, h1.mono hF (fun a ha => k a (List.mem_append_left _ ha)), RepS.mono hF h2 (fun a ha => k a (List.mem_append_right _ ha))⟩
theorem RepO.mu {d : D} {ov : Option V} {fp : List Addr} (h : RepO K F H d ov fp) : ∀ a ∈ fp, ∃ o, H a = some o ∧ Mu o := by
  cases ov with
  | none => intro a ha; rw [h.2] at ha; cases ha
  | some v => exact Rep.mu h
theorem RepS.mu : ∀ {S : List D} {σ : L2.St} {fp : List Addr}, RepS K F H S σ fp → ∀ a ∈ fp, ∃ o, H a = some o ∧ Mu o
  | [], _, _, h, a, ha => by rw [h.2] at ha; cases ha
  | d :: S, _, _, h, a, ha => by
    obtain ⟨ov, σ', f1, f2, e, rfl, h1, h2⟩ := h
    rcases List.mem_append.mp ha with ha | ha
    · exact h1.mu a ha
    · exact RepS.mu h2 a ha
theorem RepS.len : ∀ {S : List D} {σ : L2.St} {fp : List Addr}, RepS K F H S σ fp → S.length = σ.length
  | [], _, _, h => by rw [h.1]; rfl
  | d :: S, _, _, h => by
    obtain ⟨ov, σ', f1, f2, rfl, rfl, h1, h2⟩ := h
    rw [List.length_cons, List.length_cons, RepS.len h2]
/-- one slot: what it holds, and what may be put there -/
theorem RepS.lens : ∀ {S : List D} {σ : L2.St} {fp : List Addr} {i : Nat} {d : D}, RepS K F H S σ fp → S[i]? = some d →
    ∃ ov f1 f2 f3, σ[i]? = some ov ∧ fp = f1 ++ (f2 ++ f3) ∧ RepO K F H d ov f2 ∧
      ∀ {F' H' : Hp} {d' : D} {ov' : Option V} {f2' : List Addr}, Sub F F' → (∀ a ∈ f1 ++ f3, ∀ o, H a = some o → H' a = some o) → RepO K F' H' d' ov' f2' → RepS K F' H' (S.set i d') (σ.set i ov') (f1 ++ (f2' ++ f3))
  | [], _, _, _, _, _, e => by simp at e
  | d :: S, _, _, 0, _, h, e => by
    obtain ⟨ov, σ', f1, f2, rfl, rfl, h1, h2⟩ := h
    simp at e; subst e
    refine ⟨ov, [], f1, f2, rfl, rfl, h1, fun hF k r => ?_⟩
    exact ⟨_, σ', _, f2, rfl, rfl, r, RepS.mono hF h2 (fun a ha => k a (by simpa using ha))⟩
  | d :: S, _, _, i + 1, _, h, e => by
    obtain ⟨ov, σ', f1, f2, rfl, rfl, h1, h2⟩ := h
    simp at e
    obtain ⟨ov', g1, g2, g3, e1, rfl, r, put⟩ := RepS.lens h2 e
    refine ⟨ov', f1 ++ g1, g2, g3, by simpa using e1, by simp, r, fun hF k r => ?_⟩
    refine ⟨ov, _, f1, _, rfl, by simp, h1.mono hF (fun a ha => k a (by simp [ha])), put hF (fun a ha => k a ?_) r⟩
    rcases List.mem_append.mp ha with ha | ha <;> simp [ha]
/-- all slots beyond the arguments are empty -/
theorem RepS.ofL : ∀ {ds : List D} {vs : List V} {fp : List Addr}, RepL K F H ds vs fp → RepS K F H ds (vs.map some) fp
  | [], _, _, h => by
    rw [RepL] at h
    obtain ⟨rfl, rfl⟩ := h
    exact ⟨rfl, rfl⟩
  | d :: ds, _, _, h => by
    rw [RepL] at h
    obtain ⟨v, vs', f1, f2, rfl, rfl, h1, h2⟩ := h
    exact ⟨some v, _, f1, f2, rfl, rfl, h1, RepS.ofL h2⟩
theorem RepS.nones : ∀ (n : Nat), RepS K F H (List.replicate n .unk) (List.replicate n none) []
  | 0 => ⟨rfl, rfl⟩
  | n + 1 => ⟨none, _, [], [], rfl, rfl, ⟨rfl, rfl⟩, RepS.nones n⟩
theorem RepS.app : ∀ {S1 S2 : List D} {σ1 σ2 : L2.St} {f1 f2 : List Addr}, RepS K F H S1 σ1 f1 → RepS K F H S2 σ2 f2 → RepS K F H (S1 ++ S2) (σ1 ++ σ2) (f1 ++ f2)
  | [], _, _, _, _, _, h, h2 => by
    obtain ⟨rfl, rfl⟩ := h
    exact h2
  | d :: S, _, _, _, _, _, h, h2 => by
    obtain ⟨ov, σ', g1, g2, rfl, rfl, q1, q2⟩ := h
    exact ⟨ov, _, g1, _, rfl, by simp, q1, RepS.app q2 h2⟩
end

/-! ### the state -/
structure Good (K : PySem.W.Frag) (F H : Hp) (σ : L2.St) (S : List D) (fp : List Addr) : Prop where
  sub : Sub F H
  rep : RepS K F H S σ fp
  nd : fp.Nodup
  dis : ∀ a ∈ fp, F a = none
/-- from a state to a later one: what isn't owned stays -/
structure Step (fp : List Addr) (F H F' H' : Hp) (fp' : List Addr) : Prop where
  fsub : Sub F F'
  keep : ∀ a o, H a = some o → a ∉ fp → H' a = some o
  fnew : ∀ a, F' a ≠ none → F a ≠ none ∨ a ∈ fp ∨ H a = none
  own : ∀ a ∈ fp', a ∈ fp ∨ H a = none
structure Grow (F H F' H' : Hp) : Prop where
  fsub : Sub F F'
  hsub : Sub H H'
  fnew : ∀ a, F' a ≠ none → F a ≠ none ∨ H a = none
  sub : Sub F' H'
section
variable {K : PySem.W.Frag} {F F' F1 F2 G H H' H1 H2 : Hp} {fp fp' fp1 fp2 fq : List Addr} {σ : L2.St} {S : List D}
theorem Step.refl : Step fp F H F H fp := ⟨Sub.refl, fun _ _ h _ => h, fun _ h => .inl h, fun _ h => .inl h⟩
theorem Step.trans (a : Step fp F H F1 H1 fp1) (b : Step fp1 F1 H1 F2 H2 fp2) : Step fp F H F2 H2 fp2 where
  fsub := a.fsub.trans b.fsub
  keep := fun x o h n => b.keep x o (a.keep x o h n) fun hx => by
    rcases a.own x hx with z | z
    · exact n z
    · rw [h] at z; cases z
  fnew := fun x h => by
    rcases b.fnew x h with z | z | z
    · exact a.fnew x z
    · rcases a.own x z with y | y
      · exact .inr (.inl y)
      · exact .inr (.inr y)
    · by_cases n : x ∈ fp
      · exact .inr (.inl n)
      · cases e : H x with
        | none => exact .inr (.inr rfl)
        | some o => rw [a.keep x o e n] at z; cases z
  own := fun x h => by
    rcases b.own x h with z | z
    · exact a.own x z
    · by_cases n : x ∈ fp
      · exact .inl n
      · cases e : H x with
        | none => exact .inr rfl
        | some o => rw [a.keep x o e n] at z; cases z
theorem Grow.refl (h : Sub F H) : Grow F H F H := ⟨Sub.refl, Sub.refl, fun _ h => .inl h, h⟩
theorem Grow.trans (a : Grow F H F1 H1) (b : Grow F1 H1 F2 H2) : Grow F H F2 H2 where
  fsub := a.fsub.trans b.fsub
  hsub := a.hsub.trans b.hsub
  fnew := fun x h => by
    rcases b.fnew x h with z | z
    · exact a.fnew x z
    · cases e : H x with
      | none => exact .inr rfl
      | some o => rw [a.hsub x o e] at z; cases z
  sub := b.sub
theorem Grow.step (g : Grow F H F' H') : Step fp F H F' H' fp := ⟨g.fsub, fun a o h _ => g.hsub a o h, fun a h => (g.fnew a h).imp_right .inr, fun _ h => .inl h⟩
theorem Grow.dis (g : Grow F H F' H') {a : Addr} (hn : F a = none) {o : HO} (hm : H a = some o) : F' a = none := by
  cases e : F' a with
  | none => rfl
  | some o =>
    rcases g.fnew a (by rw [e]; simp) with z | z
    · exact absurd hn z
    · rw [hm] at z; cases z
theorem Good.grow (g : Good K F H σ S fp) (w : Grow F H F' H') : Good K F' H' σ S fp :=
  ⟨w.sub, g.rep.mono w.fsub (fun a _ o h => w.hsub a o h), g.nd, fun a ha => let ⟨o, e, _⟩ := g.rep.mu a ha; w.dis (g.dis a ha) e⟩
theorem upd_sub {p : Addr} {o : HO} (h : H p = none) : Sub H (upd H p o) := fun a u e => by rw [upd_ne (ne_of_none e h)]; exact e
/-- a new thing that stays as it is -/
theorem Grow.fixed {p : Addr} {o : HO} (s : Sub F H) (h : H p = none) : Grow F H (upd F p o) (upd H p o) := by
  have hF : F p = none := by
    cases e : F p with
    | none => rfl
    | some u => rw [s p u e] at h; cases h
  refine ⟨upd_sub hF, upd_sub h, fun a ha => ?_, fun a u e => ?_⟩
  · by_cases e : a = p
    · rw [e]; exact .inr h
    · rw [upd_ne e] at ha; exact .inl ha
  · by_cases e1 : a = p
    · subst e1; rw [upd_same] at e ⊢; exact e
    · rw [upd_ne e1] at e ⊢; exact s a u e
/-- a new thing that is owned -/
theorem Grow.owned {p : Addr} {o : HO} (s : Sub F H) (h : H p = none) : Grow F H F (upd H p o) :=
  ⟨Sub.refl, upd_sub h, fun _ h => .inl h, s.trans (upd_sub h)⟩
theorem Sub.none {p : Addr} (s : Sub F H) (h : H p = none) : F p = none := by
  cases e : F p with
  | none => rfl
  | some u => rw [s p u e] at h; cases h
end

/-- the end of an expression -/
structure Res (K : PySem.W.Frag) (p : Bool) (F H : Hp) (σ : L2.St) (S : List D) (fp : List Addr) (F' H' : Hp) (S' : List D) (fp' : List Addr) (al : Bool) (d : D) (v : V) (fq : List Addr) : Prop where
  good : Good K F' H' σ S' fp'
  rep : Rep K F' H' d v fq
  step : Step fp F H F' H' fp'
  sep : al = true → fq.Nodup ∧ ∀ a ∈ fq, F' a = none ∧ a ∉ fp' ∧ (a ∈ fp ∨ H a = none)
  pure : p = true → S' = S ∧ fp' = fp ∧ Grow F H F' H'
abbrev SV := List D
abbrev VT := SV → (SV → Bool → D → Prop) → Prop
def Snd (K : PySem.W.Frag) (p : Bool) (t : TE) (T : VT) : Prop := ∀ (F H : Hp) (σ : L2.St) (S : SV) (fp : List Addr) (Q : SV → Bool → D → Prop) (R : VK), Good K F H σ S fp → T S Q →
  (∀ F' H' S' fp' al d v fq, Res K p F H σ S fp F' H' S' fp' al d v fq → Q S' al d → R v H') → t σ H R
structure VE (X : Cx) (K : PySem.W.Frag) (p : Bool) (e : Expr) (t : TE) (T : VT) : Prop where
  pe : PE X e t
  snd : Snd K p t T
/-- a test -/
abbrev VB := SV → (SV → Bool → Prop) → Prop
def SndB (K : PySem.W.Frag) (p : Bool) (t : TT) (T : VB) : Prop := ∀ (F H : Hp) (σ : L2.St) (S : SV) (fp : List Addr) (Q : SV → Bool → Prop) (R : Bool → Hp → Prop), Good K F H σ S fp → T S Q →
  (∀ F' H' S' fp' b, Good K F' H' σ S' fp' → Step fp F H F' H' fp' → (p = true → S' = S ∧ fp' = fp ∧ Grow F H F' H') → Q S' b → R b H') → t σ H R
structure VQ (X : Cx) (K : PySem.W.Frag) (p : Bool) (e : Expr) (t : TT) (T : VB) : Prop where
  pe : PT X e t
  snd : SndB K p t T
structure VW (X : Cx) (K : PySem.W.Frag) (p : Bool) (e : Expr) (t : TT) (T : VB) : Prop where
  pe : PW X e t
  snd : SndB K p t T
theorem VW.vq {X : Cx} {K : PySem.W.Frag} {p : Bool} {e : Expr} {t : TT} {T : VB} (h : VW X K p e t T) : VQ X K p e t T := ⟨h.pe.pt, h.snd⟩

section
variable {X : Cx} {K : PySem.W.Frag} {F F' F1 F2 G H H' H1 H2 : Hp} {fp fp' fp1 fp2 fq fq1 fq2 : List Addr} {σ : L2.St} {S S1 S2 : SV} {p p1 p2 al al1 al2 : Bool} {d d1 d2 : D} {v v1 v2 : V}
theorem Rep.scal_any (h : Rep K F H d v fq) (e : d.scal = true) : Rep K F' H' d v fq ∧ fq = [] := by
  cases d <;> first | (simp only [D.scal] at e; cases e; done) | (simp only [Rep] at h ⊢; first | exact ⟨h, h.2⟩ | (cases e))
/-- what was reckoned ahead stands behind a later part -/
theorem Res.carry (r1 : Res K p1 F H σ S fp F1 H1 S1 fp1 al1 d1 v1 fq1) (r2 : Res K p2 F1 H1 σ S1 fp1 F2 H2 S2 fp2 al2 d2 v2 fq2) (c : (p2 || al1 || d1.scal) = true) :
    Rep K F2 H2 d1 v1 fq1 ∧ (al1 = true → fq1.Nodup ∧ ∀ a ∈ fq1, F2 a = none ∧ a ∉ fp2 ∧ (a ∈ fp ∨ H a = none)) ∧ (al1 = true → al2 = true → ∀ a ∈ fq1, a ∉ fq2) := by
  have hdis : al1 = true → al2 = true → ∀ a ∈ fq1, a ∉ fq2 := fun a1 a2 a ha hb => by
    obtain ⟨_, s1⟩ := r1.sep a1
    obtain ⟨_, s2⟩ := r2.sep a2
    obtain ⟨o, e, _⟩ := r1.rep.mu a ha
    rcases (s2 a hb).2.2 with z | z
    · exact (s1 a ha).2.1 z
    · rw [e] at z; cases z
  have hsep : al1 = true → fq1.Nodup ∧ ∀ a ∈ fq1, F2 a = none ∧ a ∉ fp2 ∧ (a ∈ fp ∨ H a = none) := fun a1 => by
    obtain ⟨n1, s1⟩ := r1.sep a1
    refine ⟨n1, fun a ha => ?_⟩
    obtain ⟨o, e, _⟩ := r1.rep.mu a ha
    obtain ⟨z1, z2, z3⟩ := s1 a ha
    refine ⟨?_, fun hb => ?_, z3⟩
    · cases e2 : F2 a with
      | none => rfl
      | some u =>
        rcases r2.step.fnew a (by rw [e2]; simp) with y | y | y
        · exact absurd z1 y
        · exact absurd y z2
        · rw [e] at y; cases y
    · rcases r2.step.own a hb with y | y
      · exact z2 y
      · rw [e] at y; cases y
  refine ⟨?_, hsep, hdis⟩
  rw [Bool.or_eq_true, Bool.or_eq_true] at c
  rcases c with (c | c) | c
  · obtain ⟨_, _, g⟩ := r2.pure c
    exact r1.rep.mono r2.step.fsub fun a _ o e => g.hsub a o e
  · obtain ⟨_, s1⟩ := r1.sep c
    exact r1.rep.mono r2.step.fsub fun a ha o e => r2.step.keep a o e (s1 a ha).2.1
  · exact (r1.rep.scal_any c).1
theorem pureT (q1 : p1 = true → S1 = S ∧ fp1 = fp ∧ Grow F H F1 H1) (q2 : p2 = true → S2 = S1 ∧ fp2 = fp1 ∧ Grow F1 H1 F2 H2) (c : (p1 && p2) = true) : S2 = S ∧ fp2 = fp ∧ Grow F H F2 H2 := by
  rw [Bool.and_eq_true] at c
  obtain ⟨a1, a2, a3⟩ := q1 c.1
  obtain ⟨b1, b2, b3⟩ := q2 c.2
  exact ⟨b1.trans a1, b2.trans a2, a3.trans b3⟩
end

/-! ### what an operation on values is worth on trees -/
/-- the operands as they lie at the operation -/
structure Opd (K : PySem.W.Frag) (F H : Hp) (al : Bool) (d : D) (v : V) (fq : List Addr) : Prop where
  rep : Rep K F H d v fq
  sep : al = true → fq.Nodup ∧ ∀ a ∈ fq, F a = none
/-- the answer: new, or within what was handed in and free -/
structure Ans (K : PySem.W.Frag) (F H : Hp) (F' H' : Hp) (al : Bool) (d : D) (v : V) (fq : List Addr) (src : Addr → Prop) : Prop where
  rep : Rep K F' H' d v fq
  grow : Grow F H F' H'
  sep : al = true → fq.Nodup ∧ ∀ a ∈ fq, F' a = none ∧ (H a = none ∨ src a)
abbrev O1 := Bool → D → (Bool → D → Prop) → Prop
abbrev O2 := Bool → D → Bool → D → (Bool → D → Prop) → Prop
def Lf1 (K : PySem.W.Frag) (r : V → Hp → VK → Prop) (O : O1) : Prop := ∀ (F H : Hp) (al1 : Bool) (d1 : D) (v1 : V) (q1 : List Addr) (Q : Bool → D → Prop) (R : VK), Sub F H → Opd K F H al1 d1 v1 q1 → O al1 d1 Q →
  (∀ F' H' al d v fq, Ans K F H F' H' al d v fq (fun a => al1 = true ∧ a ∈ q1) → Q al d → R v H') → r v1 H R
def Lf2 (K : PySem.W.Frag) (r : R2) (O : O2) : Prop := ∀ (F H : Hp) (al1 : Bool) (d1 : D) (v1 : V) (q1 : List Addr) (al2 : Bool) (d2 : D) (v2 : V) (q2 : List Addr) (Q : Bool → D → Prop) (R : VK), Sub F H → Opd K F H al1 d1 v1 q1 → Opd K F H al2 d2 v2 q2 →
  (al1 = true → al2 = true → ∀ a ∈ q1, a ∉ q2) → O al1 d1 al2 d2 Q →
  (∀ F' H' al d v fq, Ans K F H F' H' al d v fq (fun a => (al1 = true ∧ a ∈ q1) ∨ (al2 = true ∧ a ∈ q2)) → Q al d → R v H') → r v1 v2 H R

def TC (d : D) : VT := fun S Q => Q S true d
def TV (i : Nat) : VT := fun S Q => match S[i]? with
  | some .unk => False
  | some d => Q S d.imm d
  | none => False
def TU (T : VT) (O : O1) : VT := fun S Q => T S fun S1 al d => O al d (Q S1)
def T2 (p2 : Bool) (Ta Tb : VT) (O : O2) : VT := fun S Q => Ta S fun S1 al1 d1 => Tb S1 fun S2 al2 d2 => (p2 || al1 || d1.scal) = true ∧ O al1 d1 al2 d2 (Q S2)
section
variable {X : Cx} {K : PySem.W.Frag} {e a b c : Expr} {pos : Pos} {p p1 p2 : Bool} {T Ta Tb : VT} {t ta tb : TE}
theorem Res.of_scal {F H : Hp} {σ : L2.St} {S : SV} {fp : List Addr} {d : D} {v : V} (g : Good K F H σ S fp) (r : ∀ F H, Rep K F H d v []) : Res K true F H σ S fp F H S fp true d v [] :=
  ⟨g, r F H, Step.refl, fun _ => ⟨List.nodup_nil, fun a ha => by cases ha⟩, fun _ => ⟨rfl, rfl, Grow.refl g.sub⟩⟩
theorem ve_c {d : D} {v : V} (h : PE X e (tC v)) (r : ∀ F H, Rep K F H d v []) : VE X K true e (tC v) (TC d) :=
  ⟨h, fun F H σ S fp Q R g q k => k F H S fp true d v [] (Res.of_scal g r) q⟩
theorem ve_int {i : Int} {j : Nat} : VE X K true (.Constant (.int i) j pos) (tC (.int i)) (TC (.int i)) := ve_c pe_int fun _ _ => by rw [Rep]; exact ⟨rfl, rfl⟩
theorem ve_bl {i : Bool} {j : Nat} : VE X K true (.Constant (.bool i) j pos) (tC (.bl i)) (TC (.bl i)) := ve_c pe_bl fun _ _ => by rw [Rep]; exact ⟨rfl, rfl⟩
theorem ve_non {j : Nat} : VE X K true (.Constant .none j pos) (tC .non) (TC .non) := ve_c pe_non fun _ _ => by rw [Rep]; exact ⟨rfl, rfl⟩
theorem ve_str {i : Str} {j : Nat} : VE X K true (.Constant (.str i) j pos) (tC (.str i)) (TC (.str i)) := ve_c pe_str fun _ _ => by rw [Rep]; exact ⟨rfl, rfl⟩
theorem ve_var (i : Nat) (h : PE X e (tVar i)) : VE X K true e (tVar i) (TV i) := by
  refine ⟨h, fun F H σ S fp Q R g q k => ?_⟩
  unfold TV at q
  cases e1 : S[i]? with
  | none => rw [e1] at q; exact q.elim
  | some d =>
    rw [e1] at q
    obtain ⟨ov, f1, f2, f3, e2, e3, r, _⟩ := g.rep.lens e1
    cases ov with
    | none => obtain ⟨rfl, _⟩ := r; exact q.elim
    | some v =>
      have q' : Q S d.imm d := by
        cases d <;> first | exact q | exact q.elim
      refine ⟨v, e2, k F H S fp d.imm d v f2 ⟨g, r, Step.refl, fun z => ?_, fun _ => ⟨rfl, rfl, Grow.refl g.sub⟩⟩ q'⟩
      have z2 : f2 = [] := Rep.ofImm (show Rep K F H d v f2 from r) z
      subst z2
      exact ⟨List.nodup_nil, fun a ha => by cases ha⟩
theorem Snd.un {r : V → Hp → VK → Prop} {O : O1} (h : Snd K p t T) (l : Lf1 K r O) : Snd K p (tUn r t) (TU T O) := fun F H σ S fp Q R g q k => by
  refine h F H σ S fp _ _ g q fun F1 H1 S1 fp1 al1 d1 v1 fq1 r1 q1 => ?_
  refine l F1 H1 al1 d1 v1 fq1 _ _ r1.good.sub ⟨r1.rep, fun z => ⟨(r1.sep z).1, fun a ha => ((r1.sep z).2 a ha).1⟩⟩ q1 fun F2 H2 al d v fq an q2 => ?_
  refine k F2 H2 S1 fp1 al d v fq ⟨r1.good.grow an.grow, an.rep, r1.step.trans an.grow.step, fun z => ⟨(an.sep z).1, fun a ha => ⟨((an.sep z).2 a ha).1, ?_⟩⟩, fun z => ?_⟩ q2
  · rcases ((an.sep z).2 a ha).2 with y | ⟨y1, y2⟩
    · refine ⟨fun hb => ?_, ?_⟩
      · obtain ⟨o, e, _⟩ := r1.good.rep.mu a hb
        rw [e] at y; cases y
      · by_cases n : a ∈ fp
        · exact .inl n
        · cases e : H a with
          | none => exact .inr rfl
          | some o => rw [r1.step.keep a o e n] at y; cases y
    · exact ((r1.sep y1).2 a y2).2
  · obtain ⟨a1, a2, a3⟩ := r1.pure z
    exact ⟨a1, a2, a3.trans an.grow⟩
theorem Snd.op2 {r : R2} {O : O2} (h1 : Snd K p1 ta Ta) (h2 : Snd K p2 tb Tb) (l : Lf2 K r O) : Snd K (p1 && p2) (tOp r ta tb) (T2 p2 Ta Tb O) := fun F H σ S fp Q R g q k => by
  refine h1 F H σ S fp _ _ g q fun F1 H1 S1 fp1 al1 d1 v1 fq1 r1 q1 => ?_
  refine h2 F1 H1 σ S1 fp1 _ _ r1.good q1 fun F2 H2 S2 fp2 al2 d2 v2 fq2 r2 q2 => ?_
  obtain ⟨c, q2⟩ := q2
  obtain ⟨m1, m2, m3⟩ := r1.carry r2 c
  refine l F2 H2 al1 d1 v1 fq1 al2 d2 v2 fq2 _ _ r2.good.sub ⟨m1, fun z => ⟨(m2 z).1, fun a ha => ((m2 z).2 a ha).1⟩⟩ ⟨r2.rep, fun z => ⟨(r2.sep z).1, fun a ha => ((r2.sep z).2 a ha).1⟩⟩ m3 q2 fun F3 H3 al d v fq an q3 => ?_
  have s12 := r1.step.trans r2.step
  refine k F3 H3 S2 fp2 al d v fq ⟨r2.good.grow an.grow, an.rep, s12.trans an.grow.step, fun z => ⟨(an.sep z).1, fun a ha => ⟨((an.sep z).2 a ha).1, ?_⟩⟩, fun z => ?_⟩ q3
  · rcases ((an.sep z).2 a ha).2 with y | ⟨y1, y2⟩ | ⟨y1, y2⟩
    · refine ⟨fun hb => ?_, ?_⟩
      · obtain ⟨o, e, _⟩ := r2.good.rep.mu a hb
        rw [e] at y; cases y
      · by_cases n : a ∈ fp
        · exact .inl n
        · cases e : H a with
          | none => exact .inr rfl
          | some o => rw [s12.keep a o e n] at y; cases y
    · exact ((m2 y1).2 a y2).2
    · obtain ⟨_, z2, z3⟩ := (r2.sep y1).2 a y2
      refine ⟨z2, ?_⟩
      rcases z3 with z3 | z3
      · exact r1.step.own a z3
      · by_cases n : a ∈ fp
        · exact .inl n
        · cases e : H a with
          | none => exact .inr rfl
          | some o => rw [r1.step.keep a o e n] at z3; cases z3
  · obtain ⟨a1, a2, a3⟩ := pureT r1.pure r2.pure z
    exact ⟨a1, a2, a3.trans an.grow⟩
theorem ve_op {op : Operator} {r : R2} {O : O2} (ho : OpR X (binaryOp op) r) (l : Lf2 K r O) (ha : VE X K p1 a ta Ta) (hb : VE X K p2 b tb Tb) : VE X K (p1 && p2) (.BinOp a op b pos) (tOp r ta tb) (T2 p2 Ta Tb O) := ⟨pe_op ho ha.pe hb.pe, Snd.op2 ha.snd hb.snd l⟩
theorem ve_un {op : UnaryOp} {r : V → Hp → VK → Prop} {O : O1} (ho : UnR X (unaryOp op) r) (l : Lf1 K r O) (ha : VE X K p a t T) : VE X K p (.UnaryOp op a pos) (tUn r t) (TU T O) := ⟨pe_un ho ha.pe, Snd.un ha.snd l⟩
theorem ve_cmp {op : CmpOp} {r : R2} {O : O2} (ho : OpR X (compareOp op) r) (l : Lf2 K r O) (ha : VE X K p1 a ta Ta) (hb : VE X K p2 b tb Tb) (hm : behindInMarks op b = false) : VE X K (p1 && p2) (.Compare a [op] [b] pos) (tOp r ta tb) (T2 p2 Ta Tb O) := ⟨pe_cmpR ho ha.pe hb.pe hm, Snd.op2 ha.snd hb.snd l⟩
/-- a bool as a test -/
def TQ (T : VT) : VB := fun S Q => T S fun S1 _ d => match d with
  | .bl b => Q S1 b
  | _ => False
theorem Snd.tst (h : Snd K p t T) : SndB K p (tTest t) (TQ T) := fun F H σ S fp Q R g q k => by
  refine h F H σ S fp _ _ g q fun F1 H1 S1 fp1 al1 d1 v1 fq1 r1 q1 => ?_
  cases d1 <;> first | exact q1.elim | skip
  rename_i b
  have e := r1.rep
  rw [Rep] at e
  exact ⟨b, e.1, k F1 H1 S1 fp1 b r1.good r1.step r1.pure q1⟩
theorem vq_cmp {op : CmpOp} {r : R2} {O : O2} (ho : OpR X (compareOp op) r) (l : Lf2 K r O) (ha : VE X K p1 a ta Ta) (hb : VE X K p2 b tb Tb) (hm : behindInMarks op b = false) : VQ X K (p1 && p2) (.Compare a [op] [b] pos) (tTest (tOp r ta tb)) (TQ (T2 p2 Ta Tb O)) := ⟨pt_cmpR ho ha.pe hb.pe hm, Snd.tst (Snd.op2 ha.snd hb.snd l)⟩
theorem vq_val (h : VE X K p e t T) (he : ∀ whole, isTrue e X.env whole = (do let v ← whole; standAt e.pos; holding [v] (truthy v)) := by intro _; rfl) : VQ X K p e (tB t) (TQ T) := ⟨pt_val h.pe he, Snd.tst h.snd⟩
end
end VL

namespace VL
open PySem PySem.Spec PyProof.Rows L2

section
variable {K : PySem.W.Frag} {F F' F1 F2 G H H' H1 H2 : Hp} {fp fp' fp1 fp2 fq fq1 fq2 : List Addr} {σ : L2.St} {S S1 S2 : SV} {p p1 p2 al al1 al2 : Bool} {d d1 d2 : D} {v v1 v2 : V}
/-- the carry, by what is known of the later part -/
theorem Res.carry' (r1 : Res K p1 F H σ S fp F1 H1 S1 fp1 al1 d1 v1 fq1) (step2 : Step fp1 F1 H1 F2 H2 fp2) (pure2 : p2 = true → S2 = S1 ∧ fp2 = fp1 ∧ Grow F1 H1 F2 H2) (c : (p2 || al1 || d1.scal) = true) :
    Rep K F2 H2 d1 v1 fq1 ∧ (al1 = true → fq1.Nodup ∧ ∀ a ∈ fq1, F2 a = none ∧ a ∉ fp2 ∧ (a ∈ fp ∨ H a = none) ∧ a ∉ fp1 ∧ ∃ o, H1 a = some o) := by
  have hsep : al1 = true → fq1.Nodup ∧ ∀ a ∈ fq1, F2 a = none ∧ a ∉ fp2 ∧ (a ∈ fp ∨ H a = none) ∧ a ∉ fp1 ∧ ∃ o, H1 a = some o := fun a1 => by
    obtain ⟨n1, s1⟩ := r1.sep a1
    refine ⟨n1, fun a ha => ?_⟩
    obtain ⟨o, e, _⟩ := r1.rep.mu a ha
    obtain ⟨z1, z2, z3⟩ := s1 a ha
    refine ⟨?_, fun hb => ?_, z3, z2, o, e⟩
    · cases e2 : F2 a with
      | none => rfl
      | some u =>
        rcases step2.fnew a (by rw [e2]; simp) with y | y | y
        · exact absurd z1 y
        · exact absurd y z2
        · rw [e] at y; cases y
    · rcases step2.own a hb with y | y
      · exact z2 y
      · rw [e] at y; cases y
  refine ⟨?_, hsep⟩
  rw [Bool.or_eq_true, Bool.or_eq_true] at c
  rcases c with (c | c) | c
  · obtain ⟨_, _, g⟩ := pure2 c
    exact r1.rep.mono step2.fsub fun a _ o e => g.hsub a o e
  · obtain ⟨_, s1⟩ := r1.sep c
    exact r1.rep.mono step2.fsub fun a ha o e => step2.keep a o e (s1 a ha).2.1
  · exact (r1.rep.scal_any c).1
theorem Step.back (s : Step fp F H F1 H1 fp1) {a : Addr} (h : a ∈ fp1 ∨ H1 a = none) : a ∈ fp ∨ H a = none := by
  rcases h with h | h
  · exact s.own a h
  · by_cases n : a ∈ fp
    · exact .inl n
    · cases e : H a with
      | none => exact .inr rfl
      | some o => rw [s.keep a o e n] at h; cases h
end

/-! ### arguments -/
inductive AK where
  | val (al : Bool) (d : D)
  | rw (i : Nat)
  | ro (i : Nat)
/-- arguments as they lie; f: what the free ones own -/
def ArgK (K : PySem.W.Frag) (F H : Hp) (σ : L2.St) : List AK → List V → List Addr → Prop
  | [], vs, f => vs = [] ∧ f = []
  | .val al d :: ks, vs, f => ∃ v vs' fq f', vs = v :: vs' ∧ Rep K F H d v fq ∧ f = (if al = true then fq else []) ++ f' ∧ ArgK K F H σ ks vs' f'
  | .rw i :: ks, vs, f => ∃ v vs', vs = v :: vs' ∧ σ[i]? = some (some v) ∧ ArgK K F H σ ks vs' f
  | .ro i :: ks, vs, f => ∃ v vs', vs = v :: vs' ∧ σ[i]? = some (some v) ∧ ArgK K F H σ ks vs' f
structure ResA (K : PySem.W.Frag) (p : Bool) (F H : Hp) (σ : L2.St) (S : SV) (fp : List Addr) (F' H' : Hp) (S' : SV) (fp' : List Addr) (ks : List AK) (vs : List V) (f : List Addr) : Prop where
  good : Good K F' H' σ S' fp'
  arg : ArgK K F' H' σ ks vs f
  step : Step fp F H F' H' fp'
  nd : f.Nodup
  sep : ∀ a ∈ f, F' a = none ∧ a ∉ fp' ∧ (a ∈ fp ∨ H a = none) ∧ ∃ o, H' a = some o
  pure : p = true → S' = S ∧ fp' = fp ∧ Grow F H F' H'
abbrev VTA := SV → (SV → List AK → Prop) → Prop
def SndA (K : PySem.W.Frag) (p : Bool) (t : TA) (T : VTA) : Prop := ∀ (F H : Hp) (σ : L2.St) (S : SV) (fp : List Addr) (Q : SV → List AK → Prop) (R : List V → Hp → Prop), Good K F H σ S fp → T S Q →
  (∀ F' H' S' fp' ks vs f, ResA K p F H σ S fp F' H' S' fp' ks vs f → Q S' ks → R vs H') → t σ H R
structure VA (X : Cx) (K : PySem.W.Frag) (p : Bool) (es : List Expr) (t : TA) (T : VTA) : Prop where
  pe : PA X es t
  snd : SndA K p t T
def TANil : VTA := fun S Q => Q S []
def TACons (p2 : Bool) (T : VT) (Tr : VTA) : VTA := fun S Q => T S fun S1 al d => Tr S1 fun S2 ks => (p2 || al || d.scal) = true ∧ Q S2 (.val (al || d.scal) d :: ks)
def okS (S : SV) (i : Nat) : Prop := match S[i]? with
  | some .unk => False
  | some _ => True
  | none => False
def TARw (i : Nat) (Tr : VTA) : VTA := fun S Q => okS S i ∧ Tr S fun S2 ks => Q S2 (.rw i :: ks)
def TARo (i : Nat) (Tr : VTA) : VTA := fun S Q => okS S i ∧ Tr S fun S2 ks => Q S2 (.ro i :: ks)
section
variable {X : Cx} {e : Expr} {es : List Expr} {p p1 p2 : Bool} {T : VT} {Tr : VTA} {K : PySem.W.Frag} {te : TE} {t : TA}
theorem va_nil : VA X K true [] tNil TANil := ⟨pa_nil, fun F H σ S fp Q R g q k => k F H S fp [] [] [] ⟨g, ⟨rfl, rfl⟩, Step.refl, List.nodup_nil, fun a ha => absurd ha (by simp), fun _ => ⟨rfl, rfl, Grow.refl g.sub⟩⟩ q⟩
theorem sepNil {F' H' : Hp} {fp fp' : List Addr} {H : Hp} : ∀ a ∈ ([] : List Addr), F' a = none ∧ a ∉ fp' ∧ (a ∈ fp ∨ H a = none) ∧ ∃ o, H' a = some o := fun a ha => by cases ha
theorem va_cons (h : VE X K p1 e te T) (hr : VA X K p2 es t Tr) (hs : starEach (e :: es) X.env = (false, eval e X.env) :: starEach es X.env := by rfl) : VA X K (p1 && p2) (e :: es) (tCons te t) (TACons p2 T Tr) := by
  obtain ⟨he, s1⟩ := h
  obtain ⟨her, s2⟩ := hr
  refine ⟨pa_cons he her hs, fun F H σ S fp Q R g q k => ?_⟩
  refine s1 F H σ S fp _ _ g q fun F1 H1 S1 fp1 al1 d1 v1 fq1 r1 q1 => ?_
  refine s2 F1 H1 σ S1 fp1 _ _ r1.good q1 fun F2 H2 S2 fp2 ks vs f r2 q2 => ?_
  obtain ⟨c, q2⟩ := q2
  obtain ⟨m1, m2⟩ := r1.carry' r2.step r2.pure c
  -- a plain one owns nothing
  have hq : ∃ fq', Rep K F2 H2 d1 v1 fq' ∧ ((al1 || d1.scal) = true → fq'.Nodup ∧ ∀ a ∈ fq', F2 a = none ∧ a ∉ fp2 ∧ (a ∈ fp ∨ H a = none) ∧ a ∉ fp1 ∧ ∃ o, H1 a = some o) := by
    by_cases z : d1.scal = true
    · obtain ⟨w, e0⟩ := m1.scal_any (F' := F2) (H' := H2) z
      subst e0
      exact ⟨_, w, fun _ => ⟨List.nodup_nil, fun a ha => by cases ha⟩⟩
    · refine ⟨fq1, m1, fun y => ?_⟩
      have : al1 = true := by simpa [z] using y
      exact m2 this
  obtain ⟨fq', w, hsep⟩ := hq
  have hk : ∀ a ∈ (if (al1 || d1.scal) = true then fq' else []), (al1 || d1.scal) = true ∧ a ∈ fq' := fun a ha => by
    by_cases z : (al1 || d1.scal) = true
    · rw [if_pos z] at ha; exact ⟨z, ha⟩
    · rw [if_neg z] at ha; cases ha
  refine k F2 H2 S2 fp2 (.val (al1 || d1.scal) d1 :: ks) (v1 :: vs) ((if (al1 || d1.scal) = true then fq' else []) ++ f) ⟨r2.good, ⟨v1, vs, fq', f, rfl, w, rfl, r2.arg⟩, r1.step.trans r2.step, ?_, fun a ha => ?_, pureT r1.pure r2.pure⟩ q2
  · rw [List.nodup_append]
    refine ⟨?_, r2.nd, fun a ha b hb => ?_⟩
    · by_cases z : (al1 || d1.scal) = true
      · rw [if_pos z]; exact (hsep z).1
      · rw [if_neg z]; exact List.nodup_nil
    · obtain ⟨z, ha⟩ := hk a ha
      rintro rfl
      obtain ⟨_, _, _, y1, o, y2⟩ := (hsep z).2 a ha
      rcases (r2.sep a hb).2.2.1 with y | y
      · exact y1 y
      · rw [y2] at y; cases y
  · rcases List.mem_append.mp ha with ha | ha
    · obtain ⟨z, ha⟩ := hk a ha
      obtain ⟨y1, y2, y3, _, _⟩ := (hsep z).2 a ha
      obtain ⟨o, e1, _⟩ := w.mu a ha
      exact ⟨y1, y2, y3, o, e1⟩
    · obtain ⟨y1, y2, y3, y4⟩ := r2.sep a ha
      exact ⟨y1, y2, r1.step.back y3, y4⟩
theorem good_slot {F H : Hp} {σ : L2.St} {S : SV} {fp : List Addr} (g : Good K F H σ S fp) {i : Nat} (h : okS S i) : ∃ v, σ[i]? = some (some v) := by
  unfold okS at h
  cases e : S[i]? with
  | none => rw [e] at h; exact h.elim
  | some d =>
    rw [e] at h
    obtain ⟨ov, f1, f2, f3, e2, e3, r, _⟩ := g.rep.lens e
    cases ov with
    | none => obtain ⟨rfl, _⟩ := r; exact h.elim
    | some v => exact ⟨v, e2⟩
theorem va_rw (i : Nat) (h : PE X e (tVar i)) (hr : VA X K p2 es t Tr) (hs : starEach (e :: es) X.env = (false, eval e X.env) :: starEach es X.env := by rfl) : VA X K p2 (e :: es) (tCons (tVar i) t) (TARw i Tr) := by
  obtain ⟨her, s2⟩ := hr
  refine ⟨pa_cons h her hs, fun F H σ S fp Q R g q k => ?_⟩
  obtain ⟨v, ev⟩ := good_slot g q.1
  exact ⟨v, ev, s2 F H σ S fp _ _ g q.2 fun F2 H2 S2 fp2 ks vs f r2 q2 => k F2 H2 S2 fp2 (.rw i :: ks) (v :: vs) f ⟨r2.good, ⟨v, vs, rfl, ev, r2.arg⟩, r2.step, r2.nd, r2.sep, r2.pure⟩ q2⟩
theorem va_ro (i : Nat) (h : PE X e (tVar i)) (hr : VA X K p2 es t Tr) (hs : starEach (e :: es) X.env = (false, eval e X.env) :: starEach es X.env := by rfl) : VA X K p2 (e :: es) (tCons (tVar i) t) (TARo i Tr) := by
  obtain ⟨her, s2⟩ := hr
  refine ⟨pa_cons h her hs, fun F H σ S fp Q R g q k => ?_⟩
  obtain ⟨v, ev⟩ := good_slot g q.1
  exact ⟨v, ev, s2 F H σ S fp _ _ g q.2 fun F2 H2 S2 fp2 ks vs f r2 q2 => k F2 H2 S2 fp2 (.ro i :: ks) (v :: vs) f ⟨r2.good, ⟨v, vs, rfl, ev, r2.arg⟩, r2.step, r2.nd, r2.sep, r2.pure⟩ q2⟩

/-! ### displays -/
/-- the trees of plain arguments -/
def AK.d : AK → D
  | .val _ d => d
  | _ => .unk
def AK.al : AK → Bool
  | .val al _ => al
  | _ => false
def AK.isVal : AK → Bool
  | .val _ _ => true
  | _ => false
theorem ArgK.repL {F H : Hp} {σ : L2.St} : ∀ {ks : List AK} {vs : List V} {f : List Addr}, ArgK K F H σ ks vs f → ks.all AK.isVal = true →
    ∃ fq, RepL K F H (ks.map AK.d) vs fq ∧ (ks.all AK.al = true → fq = f)
  | [], _, _, h, _ => ⟨[], by rw [List.map_nil, RepL]; exact ⟨h.1, rfl⟩, fun _ => h.2.symm⟩
  | .val al d :: ks, _, _, h, e => by
    obtain ⟨v, vs', fq, f', rfl, r, rfl, h⟩ := h
    obtain ⟨fq', r', e'⟩ := ArgK.repL h (by simpa [AK.isVal] using e)
    refine ⟨fq ++ fq', ?_, fun z => ?_⟩
    · rw [List.map_cons, RepL]; exact ⟨v, vs', fq, fq', rfl, rfl, r, r'⟩
    · have z' : al = true ∧ ks.all AK.al = true := by simpa [AK.al] using z
      rw [if_pos z'.1, e' z'.2]
  | .rw i :: ks, _, _, h, e => by simp [AK.isVal] at e
  | .ro i :: ks, _, _, h, e => by simp [AK.isVal] at e
theorem RepL.len {F H : Hp} : ∀ {ds : List D} {vs : List V} {fp : List Addr}, RepL K F H ds vs fp → ds.length = vs.length
  | [], _, _, h => by rw [RepL] at h; rw [h.1]; rfl
  | d :: ds, _, _, h => by
    rw [RepL] at h
    obtain ⟨v, vs', f1, f2, rfl, rfl, h1, h2⟩ := h
    rw [List.length_cons, List.length_cons, RepL.len h2]
def TLst (T : VTA) : VT := fun S Q => T S fun S1 ks => ks.all AK.isVal = true ∧ ks.length ≤ sizeLine ∧ Q S1 (ks.all AK.al) (.lst true (ks.map AK.d))
def TTup (T : VTA) : VT := fun S Q => T S fun S1 ks => ks.all AK.isVal = true ∧ ks.length ≤ sizeLine ∧ Q S1 (ks.all AK.al) (.tup (ks.map AK.d))
variable {pos : Pos}
theorem nnil_of {H : Hp} {a b : Addr} {o : HO} (h : H a = some o) (h' : H b = none) : a ≠ b := ne_of_none h h'
theorem ve_lst (h : VA X K p es t Tr) : VE X K p (.List es pos) (tLst t) (TLst Tr) := by
  obtain ⟨h1, s1⟩ := h
  refine ⟨pe_lst h1, fun F H σ S fp Q R g q k => ?_⟩
  refine s1 F H σ S fp _ _ g q fun F1 H1 S1 fp1 ks vs f r q => ?_
  obtain ⟨q1, q2, q3⟩ := q
  obtain ⟨fq, rl, ef⟩ := r.arg.repL q1
  have hl := rl.len
  rw [List.length_map] at hl
  refine ⟨by omega, fun x hx => ?_⟩
  have gr : Grow F1 H1 F1 (upd H1 x (.lst vs)) := Grow.owned r.good.sub hx
  have rl' : RepL K F1 (upd H1 x (.lst vs)) (ks.map AK.d) vs fq := rl.mono Sub.refl fun a _ o e => gr.hsub a o e
  refine k F1 _ S1 fp1 _ _ (.ref x) (x :: fq) ⟨r.good.grow gr, ?_, r.step.trans gr.step, fun z => ?_, fun z => ?_⟩ q3
  · rw [Rep]; exact ⟨x, vs, fq, rfl, rl', .inl ⟨rfl, upd_same, rfl⟩⟩
  · have e := ef z
    subst e
    refine ⟨List.nodup_cons.mpr ⟨fun hm => ?_, r.nd⟩, fun a ha => ?_⟩
    · obtain ⟨o, e, _⟩ := rl.mu x hm
      rw [hx] at e; cases e
    · rcases List.mem_cons.mp ha with rfl | ha
      · refine ⟨r.good.sub.none hx, fun hm => ?_, r.step.back (.inr hx)⟩
        obtain ⟨o, e, _⟩ := r.good.rep.mu a hm
        rw [hx] at e; cases e
      · obtain ⟨y1, y2, y3, _⟩ := r.sep a ha
        exact ⟨y1, y2, y3⟩
  · obtain ⟨a1, a2, a3⟩ := r.pure z
    exact ⟨a1, a2, a3.trans gr⟩
def tTupF (t : TA) : TE := fun σ H Q => t σ H fun xs H1 => xs.length ≤ sizeLine ∧ NewT H1 xs Q
theorem pe_tupF {x1} (h : PA X es t) : PE X (.Tuple es x1 pos) (tTupF t) := by
  refine ⟨fun pins s σ H Q I hq => ?_⟩
  exact wpAny_Tuple_spliced (L2.thn (h.run pos pins s σ H _ I hq) fun us s1 ⟨xs, H1, I1, r, z, q⟩ => ⟨by rw [← r.length]; exact z, newTup (t' := s1.toks) I1 r z (Nat.le_refl _) (fun b u e => Heap.get?_push_of_some _ e) (Heap.get?_push_size _ rfl) q⟩)
theorem ve_tup {x1} (h : VA X K p es t Tr) : VE X K p (.Tuple es x1 pos) (tTupF t) (TTup Tr) := by
  obtain ⟨h1, s1⟩ := h
  refine ⟨pe_tupF h1, fun F H σ S fp Q R g q k => ?_⟩
  refine s1 F H σ S fp _ _ g q fun F1 H1 S1 fp1 ks vs f r q => ?_
  obtain ⟨q1, q2, q3⟩ := q
  obtain ⟨fq, rl, ef⟩ := r.arg.repL q1
  have hl := rl.len
  rw [List.length_map] at hl
  refine ⟨by omega, fun x o hx hd => ?_⟩
  have gr : Grow F1 H1 (upd F1 x (.frz o (.tup vs))) (upd H1 x (.frz o (.tup vs))) := Grow.fixed r.good.sub hx
  have rl' : RepL K (upd F1 x (.frz o (.tup vs))) (upd H1 x (.frz o (.tup vs))) (ks.map AK.d) vs fq := rl.mono gr.fsub fun a _ o e => gr.hsub a o e
  refine k _ _ S1 fp1 _ _ (.ref x) fq ⟨r.good.grow gr, ?_, r.step.trans gr.step, fun z => ?_, fun z => ?_⟩ q3
  · rw [Rep]; exact ⟨x, vs, rfl, .inl ⟨o, upd_same, hd⟩, rl'⟩
  · have e := ef z
    subst e
    refine ⟨r.nd, fun a ha => ?_⟩
    obtain ⟨y1, y2, y3, o, y4⟩ := r.sep a ha
    exact ⟨gr.dis y1 y4, y2, y3⟩
  · obtain ⟨a1, a2, a3⟩ := r.pure z
    exact ⟨a1, a2, a3.trans gr⟩

/-! ### calls of what is built in, one argument or two -/
section
variable {a b : Expr} {Ta Tb : VT} {ta tb : TE} {x : Str} {id T : String} {P0 : Pos} {r : List V → Hp → VK → Prop}
theorem ve_b1 {O : O1} (hc : CallR X (.builtin id) r) (l : Lf1 K (fun v => r [v]) O) (hg : Gl X x) (hm : X.mg x = none) (hv : bootBuiltins x = some (.builtin id)) (ha : VE X K p a ta Ta) (hn : x ≠ "__name__" := by decide) (hdb : (x == ("__debug__" : Str)) = false := by decide)
    (he : starEach [a] X.env = [(false, eval a X.env)] := by rfl) : VE X K p (.Call (.Name x P0) [a] [] pos) (tUn (fun v => r [v]) ta) (TU Ta O) :=
  ⟨pe_callB hc hg hm hv (pa_cons ha.pe pa_nil he) hn hdb he rfl, Snd.un ha.snd l⟩
theorem ve_ty1 {O : O1} (hc : CallR X (.type T) r) (l : Lf1 K (fun v => r [v]) O) (hg : Gl X x) (hm : X.mg x = none) (hv : bootBuiltins x = some (.type T)) (ha : VE X K p a ta Ta) (hn : x ≠ "__name__" := by decide) (hdb : (x == ("__debug__" : Str)) = false := by decide)
    (he : starEach [a] X.env = [(false, eval a X.env)] := by rfl) : VE X K p (.Call (.Name x P0) [a] [] pos) (tUn (fun v => r [v]) ta) (TU Ta O) :=
  ⟨pe_callTy hc hg hm hv (pa_cons ha.pe pa_nil he) hn hdb he rfl, Snd.un ha.snd l⟩
theorem ve_b2 {O : O2} (hc : CallR X (.builtin id) r) (l : Lf2 K (fun v u => r [v, u]) O) (hg : Gl X x) (hm : X.mg x = none) (hv : bootBuiltins x = some (.builtin id)) (ha : VE X K p1 a ta Ta) (hb : VE X K p2 b tb Tb) (hn : x ≠ "__name__" := by decide) (hdb : (x == ("__debug__" : Str)) = false := by decide)
    (he : starEach [a, b] X.env = (false, eval a X.env) :: starEach [b] X.env := by rfl) (he2 : starEach [b] X.env = [(false, eval b X.env)] := by rfl) (hpl : (backTo pos (starEach [b] X.env)).any (·.1) = false := by rfl) : VE X K (p1 && p2) (.Call (.Name x P0) [a, b] [] pos) (tOp (fun v u => r [v, u]) ta tb) (T2 p2 Ta Tb O) :=
  ⟨pe_callB hc hg hm hv (pa_cons ha.pe (pa_cons hb.pe pa_nil he2) he) hn hdb he hpl, Snd.op2 ha.snd hb.snd l⟩
end
end
end VL

namespace VL
open PySem PySem.Spec PyProof.Rows L2

/-! ### what a def promises, over trees -/
abbrev Ct := List D → (D → List D → Prop) → Prop
def spC (K : PySem.W.Frag) (n : Nat) (C : Ct) : Sp := fun vs H Q _ => vs.length = n ∧ ∃ (F : Hp) (ds : List D) (fp : List Addr) (Qv : D → List D → Prop), Sub F H ∧ RepL K F H ds vs fp ∧ fp.Nodup ∧ (∀ a ∈ fp, F a = none) ∧
  C ds Qv ∧ ∀ (r : D) (ds' : List D) (F' H' : Hp) (v : V) (fp' fq : List Addr), Qv r ds' → Sub F' H' → RepL K F' H' ds' vs fp' → Rep K F' H' r v fq → (fp' ++ fq).Nodup → (∀ a ∈ fp' ++ fq, F' a = none) → Step fp F H F' H' (fp' ++ fq) → Q v H'

section
variable {K : PySem.W.Frag} {F F' F1 F2 G H H' H1 H2 : Hp} {fp fp' fp1 fp2 fq : List Addr} {σ : L2.St} {S S1 S2 : SV} {p p1 p2 : Bool}
theorem RepL.app : ∀ {d1 d2 : List D} {v1 v2 : List V} {f1 f2 : List Addr}, RepL K F H d1 v1 f1 → RepL K F H d2 v2 f2 → RepL K F H (d1 ++ d2) (v1 ++ v2) (f1 ++ f2)
  | [], _, _, _, _, _, h, h2 => by
    rw [RepL] at h
    obtain ⟨rfl, rfl⟩ := h
    exact h2
  | d :: ds, _, _, _, _, _, h, h2 => by
    rw [RepL] at h
    obtain ⟨v, vs', g1, g2, rfl, rfl, q1, q2⟩ := h
    rw [List.cons_append, RepL]
    exact ⟨v, _, g1, _, rfl, by simp, q1, RepL.app q2 h2⟩
theorem RepL.at : ∀ {ds : List D} {vs : List V} {fp : List Addr} {k : Nat} {d : D}, RepL K F H ds vs fp → ds[k]? = some d → ∃ v f1 f2 f3, vs[k]? = some v ∧ fp = f1 ++ (f2 ++ f3) ∧ Rep K F H d v f2
  | [], _, _, _, _, _, e => by simp at e
  | d :: ds, _, _, 0, _, h, e => by
    rw [RepL] at h
    obtain ⟨v, vs', f1, f2, rfl, rfl, h1, h2⟩ := h
    simp at e; subst e
    exact ⟨v, [], f1, f2, rfl, rfl, h1⟩
  | d :: ds, _, _, k + 1, _, h, e => by
    rw [RepL] at h
    obtain ⟨v, vs', f1, f2, rfl, rfl, h1, h2⟩ := h
    simp at e
    obtain ⟨v', g1, g2, g3, e1, rfl, r⟩ := RepL.at h2 e
    exact ⟨v', f1 ++ g1, g2, g3, by simpa using e1, by simp, r⟩
/-- behind a callee that had f (free things) for its own -/
theorem after_call {f fr fq : List Addr} {d : D} {v : V} (g : Good K F1 H1 σ S1 fp1) (hf : ∀ a ∈ f, a ∉ fp1) (st : Step f F1 H1 F' H' (fr ++ fq)) (sub : Sub F' H') (r : Rep K F' H' d v fq) (nd : (fr ++ fq).Nodup) (dis : ∀ a ∈ fr ++ fq, F' a = none) :
    Good K F' H' σ S1 fp1 ∧ fq.Nodup ∧ (∀ a ∈ fq, F' a = none ∧ a ∉ fp1) ∧ (∀ a ∈ fq, a ∈ f ∨ H1 a = none) := by
  refine ⟨⟨sub, g.rep.mono st.fsub fun a ha o e => st.keep a o e fun z => hf a z ha, g.nd, fun a ha => ?_⟩, (List.nodup_append.mp nd).2.1, fun a ha => ⟨dis a (List.mem_append_right _ ha), fun hb => ?_⟩, fun a ha => st.own a (List.mem_append_right _ ha)⟩
  · cases e : F' a with
    | none => rfl
    | some o =>
      obtain ⟨u, eu, _⟩ := g.rep.mu a ha
      rcases st.fnew a (by rw [e]; simp) with z | z | z
      · exact absurd (g.dis a ha) z
      · exact absurd ha (hf a z)
      · rw [eu] at z; cases z
  · obtain ⟨u, eu, _⟩ := g.rep.mu a hb
    rcases st.own a (List.mem_append_right _ ha) with z | z
    · exact hf a z hb
    · rw [eu] at z; cases z
/-- two steps, the second one on things that are free -/
theorem Step.free {f fr : List Addr} (a : Step fp F H F1 H1 fp1) (b : Step f F1 H1 F' H' fr) (hf : ∀ x ∈ f, x ∈ fp ∨ H x = none) : Step fp F H F' H' fp1 where
  fsub := a.fsub.trans b.fsub
  keep := fun x o h n => b.keep x o (a.keep x o h n) fun z => by
    rcases hf x z with y | y
    · exact n y
    · rw [h] at y; cases y
  fnew := fun x h => by
    rcases b.fnew x h with z | z | z
    · exact a.fnew x z
    · exact .inr (hf x z)
    · exact .inr (a.back (.inr z))
  own := a.own
/-! what holds no fixed list stands without the borrowed ones -/
mutual
theorem Rep.lent {B : List Addr} (hB : ∀ a ∈ B, ∃ o, H a = some o ∧ Mu o) (sub : Sub F H) (hG : ∀ a, a ∉ B → G a = F a) : ∀ {d : D} {v : V} {fp : List Addr}, Rep K F H d v fp → d.nofz = true → Rep K G H d v fp
  | .unk, _, _, h, e => by rw [D.nofz] at e; cases e
  | .non, _, _, h, _ => by rw [Rep] at *; exact h
  | .bl _, _, _, h, _ => by rw [Rep] at *; exact h
  | .int _, _, _, h, _ => by rw [Rep] at *; exact h
  | .str _, _, _, h, _ => by rw [Rep] at *; exact h
  | .exc _ _, _, _, h, _ => by rw [Rep] at *; exact h
  | .tup ds, _, _, h, e => by
    rw [Rep] at *; rw [D.nofz] at e
    obtain ⟨a, vs, e1, hs, h⟩ := h
    refine ⟨a, vs, e1, ?_, RepL.lent hB sub hG h e⟩
    have hn : ∀ u, F a = some u → ¬ Mu u → a ∉ B := fun u q nm z => by
      obtain ⟨o, q2, mu⟩ := hB a z
      rw [sub a u q] at q2; cases q2
      exact nm mu
    rcases hs with ⟨o, hs, hd⟩ | hs
    · exact .inl ⟨o, by rw [hG a (hn _ hs fun z => z)]; exact hs, hd⟩
    · exact .inr hs
  | .lst m ds, _, _, h, e => by
    rw [Rep] at *; rw [D.nofz, Bool.and_eq_true] at e
    obtain ⟨a, vs, fq, e1, hl, ⟨m1, h1, rfl⟩ | ⟨m1, h1, rfl, rfl⟩⟩ := h
    · exact ⟨a, vs, fq, e1, RepL.lent hB sub hG hl e.2, .inl ⟨m1, h1, rfl⟩⟩
    · rw [m1] at e; cases e.1
  | .dK m ks ds, _, _, h, e => by
    rw [Rep] at *; rw [D.nofz, Bool.and_eq_true] at e
    obtain ⟨a, vs, fq, e1, en, hl, ⟨m1, h1, rfl⟩ | ⟨m1, h1, rfl, rfl⟩⟩ := h
    · exact ⟨a, vs, fq, e1, en, RepL.lent hB sub hG hl e.2, .inl ⟨m1, h1, rfl⟩⟩
    · rw [m1] at e; cases e.1
  | .dT m ks ds, _, _, h, e => by
    rw [Rep] at *; rw [D.nofz, Bool.and_eq_true] at e
    obtain ⟨a, vs, fq, e1, en, hl, ⟨m1, h1, rfl⟩ | ⟨m1, h1, rfl, rfl⟩⟩ := h
    · exact ⟨a, vs, fq, e1, en, RepL.lent hB sub hG hl e.2, .inl ⟨m1, h1, rfl⟩⟩
    · rw [m1] at e; cases e.1
theorem RepL.lent {B : List Addr} (hB : ∀ a ∈ B, ∃ o, H a = some o ∧ Mu o) (sub : Sub F H) (hG : ∀ a, a ∉ B → G a = F a) : ∀ {ds : List D} {vs : List V} {fp : List Addr}, RepL K F H ds vs fp → nofzL ds = true → RepL K G H ds vs fp
  | [], _, _, h, _ => by rw [RepL] at *; exact h
  | d :: ds, _, _, h, e => by
    rw [RepL] at *; rw [nofzL, Bool.and_eq_true] at e
    obtain ⟨v, vs', f1, f2, e1, rfl, h1, h2⟩ := h
    exact ⟨v, vs', f1, f2, e1, rfl, Rep.lent hB sub hG h1 e.1, RepL.lent hB sub hG h2 e.2⟩
end
open Classical in
/-- what is fixed, and beside it the borrowed things -/
noncomputable def bor (B : List Addr) (F H : Hp) : Hp := fun a => if a ∈ B then H a else F a
open Classical in
/-- what is fixed behind, without the borrowed things -/
noncomputable def unbor (B : List Addr) (F F' : Hp) : Hp := fun a => if a ∈ B then F a else F' a
theorem bor_in {B : List Addr} {a : Addr} (h : a ∈ B) : bor B F H a = H a := if_pos h
theorem bor_out {B : List Addr} {a : Addr} (h : a ∉ B) : bor B F H a = F a := if_neg h
theorem unbor_in {B : List Addr} {a : Addr} (h : a ∈ B) : unbor B F F' a = F a := if_pos h
theorem unbor_out {B : List Addr} {a : Addr} (h : a ∉ B) : unbor B F F' a = F' a := if_neg h
theorem bor_sub1 {B : List Addr} (s : Sub F H) : Sub F (bor B F H) := fun a o e => by
  by_cases h : a ∈ B
  · rw [bor_in h]; exact s a o e
  · rw [bor_out h]; exact e
theorem bor_sub2 {B : List Addr} (s : Sub F H) : Sub (bor B F H) H := fun a o e => by
  by_cases h : a ∈ B
  · rw [bor_in h] at e; exact e
  · rw [bor_out h] at e; exact s a o e
/-- behind a callee that had things borrowed: B, untouched by it -/
theorem unbor_step {B f fr : List Addr} (s : Sub F H) (sub : Sub F' H') (hB : ∀ a ∈ B, F a = none ∧ a ∉ f) (st : Step f (bor B F H) H F' H' fr) : Step f F H (unbor B F F') H' fr ∧ Sub (unbor B F F') H' where
  left := by
    refine ⟨fun a o e => ?_, st.keep, fun a h => ?_, st.own⟩
    · by_cases hb : a ∈ B
      · rw [unbor_in hb]; exact e
      · rw [unbor_out hb]; exact st.fsub a o (by rw [bor_out hb]; exact e)
    · by_cases hb : a ∈ B
      · rw [unbor_in hb] at h; exact .inl h
      · rw [unbor_out hb] at h
        rcases st.fnew a h with z | z
        · rw [bor_out hb] at z; exact .inl z
        · exact .inr z
  right := fun a o e => by
    by_cases hb : a ∈ B
    · rw [unbor_in hb, (hB a hb).1] at e; cases e
    · rw [unbor_out hb] at e; exact sub a o e
end

section
variable {X : Cx} {CX : CXT} {k : Nat} {f : Addr} {fd : FuncData} {ps : List Str} {n : Nat} {C : Ct} {dvs : List V} {ds0 : List D} {ds : List Value} {E : XK} {x : Str} {P0 pos : Pos} {e : Expr} {es : List Expr} {p : Bool} {T : VTA} {t : TA} {K : PySem.W.Frag}
/-- all arguments are free -/
def TCall0 (n : Nat) (T : VTA) (C : Ct) (dd : List D) : VT := fun S Q => T S fun S1 ks => ks.all AK.isVal = true ∧ ks.all AK.al = true ∧ ks.length + dd.length = n ∧ C (ks.map AK.d ++ dd) (fun r _ => Q S1 true r)
theorem Grow.free {F H F1 H1 F' H' : Hp} {f fr fp fp1 : List Addr} (a : Grow F H F1 H1) (b : Step f F1 H1 F' H' fr) (sub : Sub F' H') (hf : ∀ x ∈ f, H x = none) : Grow F H F' H' where
  fsub := a.fsub.trans b.fsub
  hsub := fun x o h => b.keep x o (a.hsub x o h) fun z => by rw [hf x z] at h; cases h
  fnew := fun x h => by
    rcases b.fnew x h with z | z | z
    · exact a.fnew x z
    · exact .inr (hf x z)
    · refine .inr ?_
      cases e : H x with
      | none => rfl
      | some o => rw [a.hsub x o e] at z; cases z
  sub := sub
theorem Snd.call0 (h : SndA K p t T) (hd : ∀ F H, RepL K F H ds0 dvs []) : Snd K p (tCall (spC K n C) dvs E t) (TCall0 n T C ds0) := fun F H σ S fp Q R g q kk => by
  refine h F H σ S fp _ _ g q fun F1 H1 S1 fp1 ks vs fA r q => ?_
  obtain ⟨q1, q2, ql, q3⟩ := q
  obtain ⟨fq, rl, ef⟩ := r.arg.repL q1
  have ef := ef q2
  subst ef
  have rl2 : RepL K F1 H1 (ks.map AK.d ++ ds0) (vs ++ dvs) (fq ++ []) := rl.app (hd _ _)
  rw [List.append_nil] at rl2
  have hlen := rl2.len
  rw [List.length_append, List.length_map] at hlen
  refine ⟨by omega, F1, ks.map AK.d ++ ds0, fq, _, r.good.sub, rl2, r.nd, fun a ha => (r.sep a ha).1, q3, fun r' ds' F' H' v fp' fr q4 sub rl' rr nd dis st => ?_⟩
  obtain ⟨g', n', s1, s2⟩ := after_call r.good (fun a ha => (r.sep a ha).2.1) st sub rr nd dis
  refine kk F' H' S1 fp1 true r' v fr ⟨g', rr, r.step.free st fun a ha => (r.sep a ha).2.2.1, fun _ => ⟨n', fun a ha => ⟨(s1 a ha).1, (s1 a ha).2, ?_⟩⟩, fun z => ?_⟩ q4
  · rcases s2 a ha with y | y
    · exact (r.sep a y).2.2.1
    · exact r.step.back (.inr y)
  · obtain ⟨a1, a2, a3⟩ := r.pure z
    refine ⟨a1, a2, a3.free (fp := fp) (fp1 := fp1) st sub fun a ha => ?_⟩
    rcases (r.sep a ha).2.2.1 with y | y
    · have := (r.sep a ha).2.1
      rw [a2] at this
      exact absurd y this
    · exact y
/-- some are parts of what stands: all are lent, to be read -/
def TCallB (n : Nat) (T : VTA) (C : Ct) (dd : List D) : VT := fun S Q => T S fun S1 ks => ks.all AK.isVal = true ∧ ks.length + dd.length = n ∧ C (fzL (ks.map AK.d) ++ dd) (fun r _ => r.nofz = true ∧ Q S1 true r)
theorem Snd.callB (h : SndA K p t T) (hd : ∀ F H, RepL K F H ds0 dvs []) : Snd K p (tCall (spC K n C) dvs E t) (TCallB n T C ds0) := fun F H σ S fp Q R g q kk => by
  refine h F H σ S fp _ _ g q fun F1 H1 S1 fp1 ks vs fA r q => ?_
  obtain ⟨q1, ql, q3⟩ := q
  obtain ⟨B, rl, _⟩ := r.arg.repL q1
  have hB : ∀ a ∈ B, ∃ o, H1 a = some o ∧ Mu o := rl.mu
  have rl1 : RepL K (bor B F1 H1) H1 (fzL (ks.map AK.d)) vs [] := rl.fz (bor_sub1 r.good.sub) fun a ha o e => by rw [bor_in ha]; exact e
  have rl2 : RepL K (bor B F1 H1) H1 (fzL (ks.map AK.d) ++ ds0) (vs ++ dvs) ([] ++ []) := rl1.app (hd _ _)
  have hlen := rl2.len
  rw [List.length_append, fzL_len, List.length_map] at hlen
  refine ⟨by omega, bor B F1 H1, _, [], _, bor_sub2 r.good.sub, rl2, List.nodup_nil, fun a ha => absurd ha (by simp), q3, fun r' ds' F' H' v fp' fr q4 sub rl' rr nd dis st => ?_⟩
  obtain ⟨q4, q5⟩ := q4
  have stB : ∀ a ∈ B, ∃ o, H' a = some o ∧ Mu o := fun a ha => let ⟨o, e, m⟩ := hB a ha; ⟨o, st.keep a o e (by simp), m⟩
  have rr' : Rep K (unbor B F1 F') H' r' v fr := rr.lent stB sub (fun a ha => unbor_out ha) q4
  -- the state behind
  have gr : Grow F1 H1 (unbor B F1 F') H' := by
    refine ⟨fun a o e => ?_, fun a o e => st.keep a o e (by simp), fun a h => ?_, fun a o e => ?_⟩
    · by_cases hb : a ∈ B
      · rw [unbor_in hb]; exact e
      · rw [unbor_out hb]; exact st.fsub a o (by rw [bor_out hb]; exact e)
    · by_cases hb : a ∈ B
      · rw [unbor_in hb] at h; exact .inl h
      · rw [unbor_out hb] at h
        rcases st.fnew a h with z | z | z
        · rw [bor_out hb] at z; exact .inl z
        · exact absurd z (by simp)
        · exact .inr z
    · by_cases hb : a ∈ B
      · rw [unbor_in hb] at e; exact st.keep a o (r.good.sub a o e) (by simp)
      · rw [unbor_out hb] at e; exact sub a o e
  refine kk _ H' S1 fp1 true r' v fr ⟨r.good.grow gr, rr', r.step.trans gr.step, fun _ => ⟨(List.nodup_append.mp nd).2.1, fun a ha => ?_⟩, fun z => ?_⟩ q5
  · have hn : H1 a = none := by
      rcases st.own a (List.mem_append_right _ ha) with y | y
      · exact absurd y (by simp)
      · exact y
    have hnB : a ∉ B := fun z => by
      obtain ⟨o, e, _⟩ := hB a z
      rw [hn] at e; cases e
    refine ⟨by rw [unbor_out hnB]; exact dis a (List.mem_append_right _ ha), fun z => ?_, r.step.back (.inr hn)⟩
    obtain ⟨o, e, _⟩ := r.good.rep.mu a z
    rw [hn] at e; cases e
  · obtain ⟨a1, a2, a3⟩ := r.pure z
    exact ⟨a1, a2, a3.trans gr⟩
/-! one slot is lent, to be written -/
def wfA (i : Nat) (b : Bool) : List AK → Option Nat → Bool
  | [], none => true
  | [], some _ => false
  | .rw j :: ks, some 0 => decide (j = i) && wfA i b ks none
  | .rw _ :: _, _ => false
  | .val al _ :: ks, some (k + 1) => al && wfA i b ks (some k)
  | .val al _ :: ks, none => al && wfA i b ks none
  | .val _ _ :: _, some 0 => false
  | .ro j :: ks, some (k + 1) => b && decide (j ≠ i) && wfA i b ks (some k)
  | .ro j :: ks, none => b && decide (j ≠ i) && wfA i b ks none
  | .ro _ :: _, some 0 => false
def argD (S : SV) : AK → D
  | .val _ d => d
  | .rw i => S.getD i .unk
  | .ro i => fz (S.getD i .unk)
def TCall1 (n k i : Nat) (b : Bool) (T : VTA) (C : Ct) (dd : List D) : VT := fun S Q => T S fun S1 ks => wfA i b ks (some k) = true ∧ okS S1 i ∧ ks.length + dd.length = n ∧
  C (ks.map (argD S1) ++ dd) (fun r ds' => (b = true → r.nofz = true ∧ (ds'.getD k .unk).nofz = true) ∧ Q (S1.set i (ds'.getD k .unk)) true r)
theorem args_rep {F G H : Hp} {σ : L2.St} {S : SV} {i : Nat} {b : Bool} {vi : V} {f2 : List Addr} (hG : Sub F G) (hi : σ[i]? = some (some vi)) (ri : Rep K F H (S.getD i .unk) vi f2)
    (hro : b = true → ∀ j v, j ≠ i → σ[j]? = some (some v) → Rep K G H (fz (S.getD j .unk)) v []) : ∀ {ks : List AK} {vs : List V} {f : List Addr} {o : Option Nat}, ArgK K F H σ ks vs f → wfA i b ks o = true →
    (o = none → RepL K G H (ks.map (argD S)) vs f) ∧ (∀ k, o = some k → vs[k]? = some vi ∧ ∃ fa fb, f = fa ++ fb ∧ RepL K G H (ks.map (argD S)) vs (fa ++ (f2 ++ fb)))
  | [], vs, f, o, h, e => by
    obtain ⟨rfl, rfl⟩ := h
    refine ⟨fun _ => by rw [List.map_nil, RepL]; exact ⟨rfl, rfl⟩, fun k z => ?_⟩
    subst z
    simp [wfA] at e
  | .val al d :: ks, vs, f, o, h, e => by
    obtain ⟨v, vs', fq, f', rfl, r, rfl, h⟩ := h
    cases o with
    | none =>
      simp only [wfA, Bool.and_eq_true] at e
      obtain ⟨h1, _⟩ := args_rep hG hi ri hro h e.2
      refine ⟨fun _ => ?_, (fun k z => nomatch z)⟩
      rw [List.map_cons, RepL, if_pos e.1]
      exact ⟨v, vs', fq, f', rfl, rfl, r.mono hG fun _ _ _ h => h, h1 rfl⟩
    | some k0 =>
      cases k0 with
      | zero => simp [wfA] at e
      | succ k0 =>
        simp only [wfA, Bool.and_eq_true] at e
        obtain ⟨_, h1⟩ := args_rep hG hi ri hro h e.2
        refine ⟨(fun z => nomatch z), fun k z => ?_⟩
        cases z
        obtain ⟨e1, fa, fb, rfl, rl⟩ := h1 k0 rfl
        refine ⟨by rw [List.getElem?_cons_succ]; exact e1, fq ++ fa, fb, by rw [if_pos e.1]; simp, ?_⟩
        rw [List.map_cons, RepL]
        exact ⟨v, vs', fq, _, rfl, by simp, r.mono hG fun _ _ _ h => h, rl⟩
  | .rw j :: ks, vs, f, o, h, e => by
    obtain ⟨v, vs', rfl, ev, h⟩ := h
    cases o with
    | none => simp [wfA] at e
    | some k0 =>
      cases k0 with
      | succ k0 => simp [wfA] at e
      | zero =>
        simp only [wfA, Bool.and_eq_true, decide_eq_true_eq] at e
        obtain ⟨rfl, e⟩ := e
        rw [hi] at ev
        cases ev
        obtain ⟨h1, _⟩ := args_rep hG hi ri hro h e
        refine ⟨(fun z => nomatch z), fun k z => ?_⟩
        cases z
        refine ⟨rfl, [], f, rfl, ?_⟩
        rw [List.map_cons, RepL]
        exact ⟨vi, vs', f2, f, rfl, rfl, ri.mono hG fun _ _ _ h => h, h1 rfl⟩
  | .ro j :: ks, vs, f, o, h, e => by
    obtain ⟨v, vs', rfl, ev, h⟩ := h
    cases o with
    | none =>
      simp only [wfA, Bool.and_eq_true, decide_eq_true_eq] at e
      obtain ⟨h1, _⟩ := args_rep hG hi ri hro h e.2
      refine ⟨fun _ => ?_, (fun k z => nomatch z)⟩
      rw [List.map_cons, RepL]
      exact ⟨v, vs', [], f, rfl, rfl, hro e.1.1 j v e.1.2 ev, h1 rfl⟩
    | some k0 =>
      cases k0 with
      | zero => simp [wfA] at e
      | succ k0 =>
        simp only [wfA, Bool.and_eq_true, decide_eq_true_eq] at e
        obtain ⟨_, h1⟩ := args_rep hG hi ri hro h e.2
        refine ⟨(fun z => nomatch z), fun k z => ?_⟩
        cases z
        obtain ⟨e1, fa, fb, rfl, rl⟩ := h1 k0 rfl
        refine ⟨by rw [List.getElem?_cons_succ]; exact e1, fa, fb, rfl, ?_⟩
        rw [List.map_cons, RepL]
        exact ⟨v, vs', [], _, rfl, rfl, hro e.1.1 j v e.1.2 ev, rl⟩
theorem set_self {α : Type} : ∀ {l : List α} {i : Nat} {a : α}, l[i]? = some a → l.set i a = l
  | [], _, _, h => by simp at h
  | b :: l, 0, a, h => by simp at h; subst h; rfl
  | b :: l, i + 1, a, h => by
    simp at h
    rw [List.set_cons_succ, set_self h]
theorem Snd.call1 {kk i : Nat} {b : Bool} (h : SndA K p t T) (hd : ∀ F H, RepL K F H ds0 dvs []) : Snd K false (tCall (spC K n C) dvs E t) (TCall1 n kk i b T C ds0) := fun F H σ S fp Q R g q kq => by
  refine h F H σ S fp _ _ g q fun F1 H1 S1 fp1 ks vs fA r q => ?_
  obtain ⟨q1, q2, ql, q3⟩ := q
  unfold okS at q2
  cases e : S1[i]? with
  | none => rw [e] at q2; exact q2.elim
  | some d =>
  rw [e] at q2
  obtain ⟨ov, g1, g2, g3, e2, efp, rO, put⟩ := r.good.rep.lens e
  cases ov with
  | none => obtain ⟨rfl, _⟩ := rO; exact q2.elim
  | some vi =>
  have ri : Rep K F1 H1 d vi g2 := rO
  have eD : S1.getD i .unk = d := by rw [List.getD_eq_getElem?_getD, e]; rfl
  -- what is borrowed
  obtain ⟨B, hBdef⟩ : ∃ B : List Addr, B = if b = true then g1 ++ g3 else [] := ⟨_, rfl⟩
  have hBsub : ∀ a ∈ B, a ∈ g1 ++ g3 ∧ b = true := fun a ha => by
    rw [hBdef] at ha
    by_cases z : b = true
    · rw [if_pos z] at ha; exact ⟨ha, z⟩
    · rw [if_neg z] at ha; cases ha
  have nd1 := r.good.nd
  rw [efp] at nd1
  have mem1 : ∀ a, a ∈ g1 ++ g3 → a ∈ fp1 := fun a ha => by
    rw [efp]
    rcases List.mem_append.mp ha with z | z <;> simp [z]
  have dis2 : ∀ a ∈ g1 ++ g3, a ∉ g2 := fun a ha hb => by
    rw [List.nodup_append] at nd1
    obtain ⟨n1, n2, n3⟩ := nd1
    rw [List.nodup_append] at n2
    rcases List.mem_append.mp ha with z | z
    · exact n3 a z a (List.mem_append_left _ hb) rfl
    · exact n2.2.2 a hb a z rfl
  have hro : b = true → ∀ j v, j ≠ i → σ[j]? = some (some v) → Rep K (bor B F1 H1) H1 (fz (S1.getD j .unk)) v [] := fun hb j v hj ej => by
    have ru : RepS K F1 H1 (S1.set i .unk) (σ.set i (some vi)) (g1 ++ ([] ++ g3)) := put Sub.refl (fun a _ o h => h) (show Rep K F1 H1 .unk vi [] by rw [Rep])
    have hjl : j < σ.length := (List.getElem?_eq_some_iff.mp ej).1
    have hjS : j < S1.length := by rw [r.good.rep.len]; exact hjl
    have ej1 : (S1.set i .unk)[j]? = some S1[j] := by rw [List.getElem?_set_ne (Ne.symm hj)]; exact List.getElem?_eq_getElem hjS
    obtain ⟨ov', a1, a2, a3, e5, e6, r5, _⟩ := ru.lens ej1
    rw [List.getElem?_set_ne (Ne.symm hj), ej] at e5
    cases e5
    have eD2 : S1.getD j .unk = S1[j] := by rw [List.getD_eq_getElem?_getD, List.getElem?_eq_getElem hjS]; rfl
    rw [eD2]
    refine Rep.fz (bor_sub1 r.good.sub) (show Rep K F1 H1 S1[j] v a2 from r5) fun a ha o h => ?_
    have : a ∈ B := by
      rw [hBdef, if_pos hb]
      have : a ∈ g1 ++ ([] ++ g3) := by rw [e6]; simp [ha]
      simpa using this
    rw [bor_in this]; exact h
  obtain ⟨_, hA⟩ := args_rep (K := K) (F := F1) (G := bor B F1 H1) (H := H1) (σ := σ) (S := S1) (i := i) (b := b) (vi := vi) (f2 := g2) (bor_sub1 r.good.sub) e2 (by rw [eD]; exact ri) hro r.arg q1
  obtain ⟨evk, fa, fb, rfl, rl⟩ := hA kk rfl
  have rl2 : RepL K (bor B F1 H1) H1 (ks.map (argD S1) ++ ds0) (vs ++ dvs) ((fa ++ (g2 ++ fb)) ++ []) := rl.app (hd _ _)
  rw [List.append_nil] at rl2
  have hlen := rl2.len
  rw [List.length_append, List.length_map] at hlen
  have memA : ∀ a, a ∈ fa ++ (g2 ++ fb) ↔ a ∈ fa ++ fb ∨ a ∈ g2 := fun a => by
    simp only [List.mem_append]
    exact ⟨fun z => z.elim (fun y => .inl (.inl y)) fun y => y.elim .inr fun w => .inl (.inr w), fun z => z.elim (fun y => y.elim .inl fun w => .inr (.inr w)) fun y => .inr (.inl y)⟩
  have sepA := r.sep
  have g2in : ∀ a ∈ g2, a ∈ fp1 := fun a ha => by rw [efp]; simp [ha]
  have ndA : (fa ++ (g2 ++ fb)).Nodup := by
    have n0 := r.nd
    rw [List.nodup_append] at n0 ⊢
    obtain ⟨n1, n2, n3⟩ := n0
    rw [List.nodup_append] at nd1
    have n4 := (List.nodup_append.mp nd1.2.1)
    refine ⟨n1, List.nodup_append.mpr ⟨n4.1, n2, fun a ha c hc z => ?_⟩, fun a ha c hc z => ?_⟩
    · subst z; exact (sepA a (List.mem_append_right _ hc)).2.1 (g2in a ha)
    · subst z
      rcases List.mem_append.mp hc with hc | hc
      · exact (sepA a (List.mem_append_left _ ha)).2.1 (g2in a hc)
      · exact n3 a ha a hc rfl
  have hBm : ∀ a ∈ B, a ∈ fp1 ∧ a ∉ g2 := fun a ha => ⟨mem1 a (hBsub a ha).1, dis2 a (hBsub a ha).1⟩
  have disA : ∀ a ∈ fa ++ (g2 ++ fb), bor B F1 H1 a = none := fun a ha => by
    have hnB : a ∉ B := fun z => by
      rcases (memA a).mp ha with y | y
      · exact (sepA a y).2.1 (hBm a z).1
      · exact (hBm a z).2 y
    rw [bor_out hnB]
    rcases (memA a).mp ha with y | y
    · exact (sepA a y).1
    · exact r.good.dis a (g2in a y)
  refine ⟨by omega, bor B F1 H1, _, fa ++ (g2 ++ fb), _, bor_sub2 r.good.sub, rl2, ndA, disA, q3, fun r' ds' F' H' v fp' fr q4 sub rl' rr nd dis st => ?_⟩
  obtain ⟨q4, q5⟩ := q4
  have hBf : ∀ a ∈ B, F1 a = none ∧ a ∉ fa ++ (g2 ++ fb) := fun a ha => ⟨r.good.dis a (hBm a ha).1, fun z => by
    rcases (memA a).mp z with y | y
    · exact (sepA a y).2.1 (hBm a ha).1
    · exact (hBm a ha).2 y⟩
  obtain ⟨st', sub'⟩ := unbor_step r.good.sub sub hBf st
  have stB : ∀ a ∈ B, ∃ o, H' a = some o ∧ Mu o := fun a ha => let ⟨o, e, m⟩ := r.good.rep.mu a (hBm a ha).1; ⟨o, st.keep a o e (hBf a ha).2, m⟩
  -- what the slot holds now
  have hkl : kk < ds'.length := by
    have := rl'.len
    have h1 := (List.getElem?_eq_some_iff.mp evk).1
    rw [this, List.length_append]
    omega
  obtain ⟨vk, h1, h2, h3, ek, e3, rk⟩ := rl'.at (k := kk) (List.getElem?_eq_getElem hkl)
  have evk' : vk = vi := by
    have := (List.getElem?_eq_some_iff.mp evk).1
    rw [List.getElem?_append_left this, evk] at ek
    exact (Option.some.inj ek).symm
  subst evk'
  have eg : ds'.getD kk .unk = ds'[kk] := by rw [List.getD_eq_getElem?_getD, List.getElem?_eq_getElem hkl]; rfl
  rw [eg] at q4 q5
  have both : Rep K (unbor B F1 F') H' r' v fr ∧ Rep K (unbor B F1 F') H' ds'[kk] vk h2 := by
    by_cases z : b = true
    · obtain ⟨z1, z2⟩ := q4 z
      exact ⟨rr.lent stB sub (fun a ha => unbor_out ha) z1, rk.lent stB sub (fun a ha => unbor_out ha) z2⟩
    · have eB : B = [] := by rw [hBdef, if_neg z]
      have : unbor B F1 F' = F' := by funext a; exact unbor_out (by rw [eB]; simp)
      rw [this]
      exact ⟨rr, rk⟩
  obtain ⟨rr2, rk2⟩ := both
  -- the others stand
  have keepO : ∀ a ∈ g1 ++ g3, ∀ o, H1 a = some o → H' a = some o := fun a ha o e => st.keep a o e fun z => by
    rcases (memA a).mp z with y | y
    · exact (sepA a y).2.1 (mem1 a ha)
    · exact dis2 a ha y
  have newS : RepS K (unbor B F1 F') H' (S1.set i ds'[kk]) (σ.set i (some vk)) (g1 ++ (h2 ++ g3)) := put st'.fsub keepO rk2
  rw [set_self e2] at newS
  -- where the new things stand
  have ownN : ∀ a ∈ fp' ++ fr, a ∈ g2 ∨ a ∈ fa ++ fb ∨ H1 a = none := fun a ha => by
    rcases st.own a ha with z | z
    · rcases (memA a).mp z with y | y
      · exact .inr (.inl y)
      · exact .inl y
    · exact .inr (.inr z)
  have notO : ∀ a ∈ fp' ++ fr, a ∉ g1 ++ g3 := fun a ha hb => by
    rcases ownN a ha with z | z | z
    · exact dis2 a hb z
    · exact (sepA a z).2.1 (mem1 a hb)
    · obtain ⟨o, e, _⟩ := r.good.rep.mu a (mem1 a hb)
      rw [z] at e; cases e
  have hm2 : ∀ a ∈ h2, a ∈ fp' := fun a ha => by rw [e3]; simp [ha]
  have nd2 := List.nodup_append.mp nd
  have ndh2 : h2.Nodup := by
    have := nd2.1
    rw [e3] at this
    exact (List.nodup_append.mp (List.nodup_append.mp this).2.1).1
  have unO : ∀ a ∈ fp' ++ fr, unbor B F1 F' a = none := fun a ha => by
    have hnB : a ∉ B := fun z => notO a ha (hBsub a z).1
    rw [unbor_out hnB]; exact dis a ha
  have newNd : (g1 ++ (h2 ++ g3)).Nodup := by
    rw [List.nodup_append] at nd1
    obtain ⟨n1, n2, n3⟩ := nd1
    rw [List.nodup_append] at n2
    obtain ⟨n4, n5, n6⟩ := n2
    refine List.nodup_append.mpr ⟨n1, List.nodup_append.mpr ⟨ndh2, n5, fun a ha c hc z => ?_⟩, fun a ha c hc z => ?_⟩
    · subst z; exact notO a (List.mem_append_left _ (hm2 a ha)) (List.mem_append_right _ hc)
    · subst z
      rcases List.mem_append.mp hc with hc | hc
      · exact notO a (List.mem_append_left _ (hm2 a hc)) (List.mem_append_left _ ha)
      · exact n3 a ha a (List.mem_append_right _ hc) rfl
  have newGood : Good K (unbor B F1 F') H' σ (S1.set i ds'[kk]) (g1 ++ (h2 ++ g3)) := by
    refine ⟨sub', newS, newNd, fun a ha => ?_⟩
    have hO : a ∈ g1 ++ g3 → unbor B F1 F' a = none := fun hb => by
      cases ez : unbor B F1 F' a with
      | none => rfl
      | some o =>
        obtain ⟨u, eu, _⟩ := r.good.rep.mu a (mem1 a hb)
        rcases st'.fnew a (by rw [ez]; simp) with z | z | z
        · exact absurd (r.good.dis a (mem1 a hb)) z
        · rcases (memA a).mp z with y | y
          · exact absurd (mem1 a hb) (sepA a y).2.1
          · exact absurd y (dis2 a hb)
        · rw [eu] at z; cases z
    rcases List.mem_append.mp ha with z | z
    · exact hO (List.mem_append_left _ z)
    · rcases List.mem_append.mp z with z | z
      · exact unO a (List.mem_append_left _ (hm2 a z))
      · exact hO (List.mem_append_right _ z)
  have backA : ∀ a, a ∈ fa ++ (g2 ++ fb) → a ∈ fp ∨ H a = none := fun a ha => by
    rcases (memA a).mp ha with y | y
    · exact (sepA a y).2.2.1
    · exact r.step.own a (g2in a y)
  have backN : ∀ a ∈ fp' ++ fr, a ∈ fp ∨ H a = none := fun a ha => by
    rcases st.own a ha with z | z
    · exact backA a z
    · exact r.step.back (.inr z)
  have newStep : Step fp F H (unbor B F1 F') H' (g1 ++ (h2 ++ g3)) := by
    have s1 := r.step.free st' backA
    refine ⟨s1.fsub, s1.keep, s1.fnew, fun a ha => ?_⟩
    rcases List.mem_append.mp ha with z | z
    · exact r.step.own a (mem1 a (List.mem_append_left _ z))
    · rcases List.mem_append.mp z with z | z
      · exact backN a (List.mem_append_left _ (hm2 a z))
      · exact r.step.own a (mem1 a (List.mem_append_right _ z))
  refine kq _ H' _ _ true r' v fr ⟨newGood, rr2, newStep, fun _ => ⟨nd2.2.1, fun a ha => ⟨unO a (List.mem_append_right _ ha), fun z => ?_, backN a (List.mem_append_right _ ha)⟩⟩, fun z => nomatch z⟩ q5
  rcases List.mem_append.mp z with z | z
  · exact notO a (List.mem_append_right _ ha) (List.mem_append_left _ z)
  · rcases List.mem_append.mp z with z | z
    · exact nd2.2.2 a (hm2 a z) a ha rfl
    · exact notO a (List.mem_append_right _ ha) (List.mem_append_right _ z)
/-! the calls as rules -/
theorem ve_call0 (Fn : FnOk X.prog X.w X.K X.mg X.base CX k f fd ps (spC K n C)) (hr : Room k X.A) (hg : Gl X x) (hm : X.mg x = some (.ref f)) (hk : PySem.W.keepIn X.K (.ref f) = true) (hb : Binds X.K fd ps ds) (hdv : Vals dvs ds) (hx : Passes CX X E)
    (hd : ∀ F H, RepL K F H ds0 dvs []) (ha : VA X K p (e :: es) t T) (hdb : (x == ("__debug__" : Str)) = false := by decide) (he : starEach (e :: es) X.env = (false, eval e X.env) :: starEach es X.env := by rfl) (hpl : (backTo pos (starEach es X.env)).any (·.1) = false := by rfl) :
    VE X K p (.Call (.Name x P0) (e :: es) [] pos) (tCall (spC K n C) dvs E t) (TCall0 n T C ds0) := ⟨pe_call Fn hr hg hm hk hb hdv hx ha.pe hdb he hpl, Snd.call0 ha.snd hd⟩
theorem ve_callB (Fn : FnOk X.prog X.w X.K X.mg X.base CX k f fd ps (spC K n C)) (hr : Room k X.A) (hg : Gl X x) (hm : X.mg x = some (.ref f)) (hk : PySem.W.keepIn X.K (.ref f) = true) (hb : Binds X.K fd ps ds) (hdv : Vals dvs ds) (hx : Passes CX X E)
    (hd : ∀ F H, RepL K F H ds0 dvs []) (ha : VA X K p (e :: es) t T) (hdb : (x == ("__debug__" : Str)) = false := by decide) (he : starEach (e :: es) X.env = (false, eval e X.env) :: starEach es X.env := by rfl) (hpl : (backTo pos (starEach es X.env)).any (·.1) = false := by rfl) :
    VE X K p (.Call (.Name x P0) (e :: es) [] pos) (tCall (spC K n C) dvs E t) (TCallB n T C ds0) := ⟨pe_call Fn hr hg hm hk hb hdv hx ha.pe hdb he hpl, Snd.callB ha.snd hd⟩
theorem ve_call1 (kk i : Nat) (b : Bool) (Fn : FnOk X.prog X.w X.K X.mg X.base CX k f fd ps (spC K n C)) (hr : Room k X.A) (hg : Gl X x) (hm : X.mg x = some (.ref f)) (hk : PySem.W.keepIn X.K (.ref f) = true) (hb : Binds X.K fd ps ds) (hdv : Vals dvs ds) (hx : Passes CX X E)
    (hd : ∀ F H, RepL K F H ds0 dvs []) (ha : VA X K p (e :: es) t T) (hdb : (x == ("__debug__" : Str)) = false := by decide) (he : starEach (e :: es) X.env = (false, eval e X.env) :: starEach es X.env := by rfl) (hpl : (backTo pos (starEach es X.env)).any (·.1) = false := by rfl) :
    VE X K false (.Call (.Name x P0) (e :: es) [] pos) (tCall (spC K n C) dvs E t) (TCall1 n kk i b T C ds0) := ⟨pe_call Fn hr hg hm hk hb hdv hx ha.pe hdb he hpl, Snd.call1 ha.snd hd⟩
end
end VL

namespace VL
open PySem PySem.Spec PyProof.Rows L2

/-! ### statements -/
structure VD where
  nx : SV → Prop
  rt : D → SV → Prop
  bk : SV → Prop := fun _ => False
  ct : SV → Prop := fun _ => False
  /-- what is raised, by its class -/
  xc : Str → SV → Prop := fun _ _ => False
abbrev VTS := VD → SV → Prop
def Pin (pin : List Nat) (σ σ' : L2.St) : Prop := σ'.length = σ.length ∧ ∀ i ∈ pin, σ'[i]? = σ[i]?
/-- the weakest wish of what is raised here -/
def XW (X : Cx) : WX := fun cls d σ H => ∀ u s', XE X (fun c' d' σ' H' => c' = cls ∧ d' = d ∧ σ' = σ ∧ H' = H) u s' → X.xe u s'
theorem takes_XW {X : Cx} : Takes X (XW X) := fun u s' ⟨a, B, sI, pins, σ, H, cls, d, e, I, nb, up, sky, na, os, ag, w⟩ => w u s' ⟨a, B, sI, pins, σ, H, cls, d, e, I, nb, up, sky, na, os, ag, rfl, rfl, rfl, rfl⟩
theorem XW_of {X : Cx} {W : WX} (t : Takes X W) {cls : Value} {d : Option Addr} {σ : L2.St} {H : Hp} (w : W cls d σ H) : XW X cls d σ H := fun u s' ⟨a, B, sI, pins, σ', H', cls', d', e, I, nb, up, sky, na, os, ag, e1, e2, e3, e4⟩ => t u s' ⟨a, B, sI, pins, σ', H', cls', d', e, I, nb, up, sky, na, os, ag, by rw [e1, e2, e3, e4]; exact w⟩
structure Lk (X : Cx) (K : PySem.W.Frag) (pin : List Nat) (F H : Hp) (σ : L2.St) (fp : List Addr) (W : VD) (M : Ends) : Prop where
  nx : ∀ (F' H' : Hp) (σ' : L2.St) (S' : SV) (fp' : List Addr), Good K F' H' σ' S' fp' → Step fp F H F' H' fp' → Pin pin σ σ' → W.nx S' → M.nx σ' H'
  bk : ∀ (F' H' : Hp) (σ' : L2.St) (S' : SV) (fp' : List Addr), Good K F' H' σ' S' fp' → Step fp F H F' H' fp' → Pin pin σ σ' → W.bk S' → M.bk σ' H'
  ct : ∀ (F' H' : Hp) (σ' : L2.St) (S' : SV) (fp' : List Addr), Good K F' H' σ' S' fp' → Step fp F H F' H' fp' → Pin pin σ σ' → W.ct S' → M.ct σ' H'
  rt : ∀ (F' H' : Hp) (σ' : L2.St) (S' : SV) (fp' : List Addr) (d : D) (v : V) (fq : List Addr), Good K F' H' σ' S' fp' → Step fp F H F' H' fp' → Pin pin σ σ' → Rep K F' H' d v fq → fq.Nodup → (∀ a ∈ fq, F' a = none ∧ a ∉ fp' ∧ (a ∈ fp ∨ H a = none)) → W.rt d S' → M.rt v H'
  xc : ∀ (F' H' : Hp) (σ' : L2.St) (S' : SV) (fp' : List Addr) (x : Str) (c : Addr), Good K F' H' σ' S' fp' → Step fp F H F' H' fp' → Pin pin σ σ' → W.xc x S' → X.mg x = some (.ref c) → XW X (.ref c) none σ' H'
def SndS (X : Cx) (K : PySem.W.Frag) (pin : List Nat) (t : TS) (T : VTS) : Prop := ∀ (F H : Hp) (σ : L2.St) (S : SV) (fp : List Addr) (W : VD) (M : Ends), Good K F H σ S fp → T W S → Lk X K pin F H σ fp W M → t M σ H
structure VS (X : Cx) (K : PySem.W.Frag) (pin : List Nat) (st : Stmt) (T : VTS) : Prop where
  ex : ∃ t, PS X st t ∧ SndS X K pin t T
structure VSs (X : Cx) (K : PySem.W.Frag) (pin : List Nat) (st : List Stmt) (T : VTS) : Prop where
  ex : ∃ t, PSs X st t ∧ SndS X K pin t T
theorem Pin.refl {pin : List Nat} {σ : L2.St} : Pin pin σ σ := ⟨rfl, fun _ _ => rfl⟩
theorem Pin.trans {pin : List Nat} {σ σ1 σ2 : L2.St} (a : Pin pin σ σ1) (b : Pin pin σ1 σ2) : Pin pin σ σ2 := ⟨b.1.trans a.1, fun i h => (b.2 i h).trans (a.2 i h)⟩
section
variable {X : Cx} {K : PySem.W.Frag} {pin : List Nat} {F F' F1 F2 G H H' H1 H2 : Hp} {fp fp' fp1 fp2 fq : List Addr} {σ σ1 : L2.St} {S S1 S2 : SV} {p p1 p2 : Bool} {V' W' : VD} {M N : Ends}
theorem Lk.on (l : Lk X K pin F H σ fp V' M) (s : Step fp F H F1 H1 fp1) (q : Pin pin σ σ1) : Lk X K pin F1 H1 σ1 fp1 V' M where
  nx := fun F' H' σ' S' fp' g s' p' => l.nx F' H' σ' S' fp' g (s.trans s') (q.trans p')
  bk := fun F' H' σ' S' fp' g s' p' => l.bk F' H' σ' S' fp' g (s.trans s') (q.trans p')
  ct := fun F' H' σ' S' fp' g s' p' => l.ct F' H' σ' S' fp' g (s.trans s') (q.trans p')
  rt := fun F' H' σ' S' fp' d v fq g s' p' r n z => l.rt F' H' σ' S' fp' d v fq g (s.trans s') (q.trans p') r n fun a ha => ⟨(z a ha).1, (z a ha).2.1, s.back (z a ha).2.2⟩
  xc := fun F' H' σ' S' fp' x c g s' p' => l.xc F' H' σ' S' fp' x c g (s.trans s') (q.trans p')
/-- another thing is wanted next -/
theorem Lk.next (l : Lk X K pin F H σ fp V' M) {n : SV → Prop} {m : L2.St → Hp → Prop} (h : ∀ (F' H' : Hp) (σ' : L2.St) (S' : SV) (fp' : List Addr), Good K F' H' σ' S' fp' → Step fp F H F' H' fp' → Pin pin σ σ' → n S' → m σ' H') :
    Lk X K pin F H σ fp { V' with nx := n } { M with nx := m } := ⟨h, l.bk, l.ct, l.rt, l.xc⟩
end
section
variable {X : Cx} {pin : List Nat} {st : Stmt} {rest : List Stmt} {T U : VTS} {e : Expr} {Te : VT} {te : TE} {tb : TT} {pos : Pos} {p : Bool} {K : PySem.W.Frag}
def TNext : VTS := fun V S => V.nx S
def TSeq (T U : VTS) : VTS := fun V S => T { V with nx := U V } S
theorem vs_nil : VSs X K pin [] TNext := ⟨_, pss_nil, fun F H σ S fp V M g q l => l.nx F H σ S fp g Step.refl Pin.refl q⟩
theorem vs_cons (h1 : VS X K pin st T) (h2 : VSs X K pin rest U) : VSs X K pin (st :: rest) (TSeq T U) := by
  obtain ⟨t, a1, s1⟩ := h1.ex
  obtain ⟨u, a2, s2⟩ := h2.ex
  exact ⟨_, pss_cons a1 a2, fun F H σ S fp V M g q l => s1 F H σ S fp { V with nx := U V } { M with nx := u M } g q (l.next fun F' H' σ' S' fp' g' s' p' q' => s2 F' H' σ' S' fp' V M g' q' (l.on s' p'))⟩
theorem vs_one (h1 : VS X K pin st T) : VSs X K pin [st] T := let ⟨t, a1, s1⟩ := h1.ex; ⟨_, pss_one a1, s1⟩
theorem vs_pass : VS X K pin (.Pass pos) TNext := ⟨_, ps_pass, fun F H σ S fp V M g q l => l.nx F H σ S fp g Step.refl Pin.refl q⟩
def TBrk : VTS := fun V S => V.bk S
def TCnt : VTS := fun V S => V.ct S
theorem vs_break : VS X K pin (.Break pos) TBrk := ⟨_, ps_break, fun F H σ S fp V M g q l => l.bk F H σ S fp g Step.refl Pin.refl q⟩
theorem vs_continue : VS X K pin (.Continue pos) TCnt := ⟨_, ps_continue, fun F H σ S fp V M g q l => l.ct F H σ S fp g Step.refl Pin.refl q⟩
def TNever : VTS := fun _ _ => False
theorem vs_never : VS X K pin st TNever := ⟨_, ps_never, fun F H σ S fp V M g q l => q.elim⟩
theorem vss_never : VSs X K pin rest TNever := ⟨_, pss_never, fun F H σ S fp V M g q l => q.elim⟩
def TDrop (T : VT) : VTS := fun V S => T S fun S1 _ _ => V.nx S1
theorem vs_expr (h : VE X K p e te Te) (hs : swapsWith e none pos.line X.env = pure false := by rfl) : VS X K pin (.Expr e pos) (TDrop Te) := by
  obtain ⟨a, s⟩ := h
  exact ⟨_, ps_expr a hs, fun F H σ S fp V M g q l => s F H σ S fp _ _ g q fun F' H' S' fp' al d v fq r q' => l.nx F' H' σ S' fp' r.good r.step Pin.refl q'⟩
def TRet (T : VT) : VTS := fun V S => T S fun S1 al d => al = true ∧ V.rt d S1
theorem vs_ret (h : VE X K p e te Te) : VS X K pin (.Return (some e) pos) (TRet Te) := by
  obtain ⟨a, s⟩ := h
  exact ⟨_, ps_ret a, fun F H σ S fp V M g q l => s F H σ S fp _ _ g q fun F' H' S' fp' al d v fq r q' => l.rt F' H' σ S' fp' d v fq r.good r.step Pin.refl r.rep (r.sep q'.1).1 (r.sep q'.1).2 q'.2⟩
def TRetN : VTS := fun V S => V.rt .non S
theorem vs_retN : VS X K pin (.Return none pos) TRetN := ⟨_, ps_retN, fun F H σ S fp V M g q l => l.rt F H σ S fp .non .non [] g Step.refl Pin.refl (by rw [Rep]; exact ⟨rfl, rfl⟩) List.nodup_nil (fun a ha => absurd ha (by simp)) q⟩
def TIf (Tc : VB) (T U : VTS) : VTS := fun V S => Tc S fun S1 b => (b = true → T V S1) ∧ (b = false → U V S1)
theorem vs_if {c : Expr} {a b : List Stmt} {Tc : VB} (hc : VQ X K p c tb Tc) (ha : VSs X K pin a T) (hb : VSs X K pin b U) : VS X K pin (.If c a b pos) (TIf Tc T U) := by
  obtain ⟨a0, s0⟩ := hc
  obtain ⟨t, a1, s1⟩ := ha.ex
  obtain ⟨u, a2, s2⟩ := hb.ex
  refine ⟨_, ps_if a0 a1 a2, fun F H σ S fp V M g q l => s0 F H σ S fp _ _ g q fun F' H' S' fp' b g' st' _ q' => ?_⟩
  cases b with
  | true => rw [if_pos rfl]; exact s1 F' H' σ S' fp' V M g' (q'.1 rfl) (l.on st' Pin.refl)
  | false => rw [if_neg Bool.false_ne_true]; exact s2 F' H' σ S' fp' V M g' (q'.2 rfl) (l.on st' Pin.refl)
/-- while: an invariant with a number that falls -/
def TWhile (Tc : VB) (T : VTS) : VTS := fun V S => ∃ I : Nat → SV → Prop, (∃ n, I n S) ∧ ∀ n S1, I n S1 → Tc S1 fun S2 b => (b = true → T { nx := fun S3 => ∃ m, m < n ∧ I m S3, ct := fun S3 => ∃ m, m < n ∧ I m S3, bk := V.nx, rt := V.rt, xc := V.xc } S2) ∧ (b = false → V.nx S2)
theorem vs_while {c : Expr} {body : List Stmt} {Tc : VB} (hp : PassesOwn (model X.prog X.w) X.A X.env X.xe) (hc : VQ X K p c tb Tc) (hb : VSs X K pin body T) : VS X K pin (.While c body [] pos) (TWhile Tc T) := by
  obtain ⟨a0, s0⟩ := hc
  obtain ⟨t, a1, s1⟩ := hb.ex
  refine ⟨_, ps_while hp a0 a1, fun F H σ S fp V M g q l => ?_⟩
  obtain ⟨I, ⟨n0, i0⟩, turn⟩ := q
  refine ⟨fun n σ1 H1 => ∃ F1 S1 fp1, Good K F1 H1 σ1 S1 fp1 ∧ Step fp F H F1 H1 fp1 ∧ Pin pin σ σ1 ∧ I n S1, ⟨n0, F, S, fp, g, Step.refl, Pin.refl, i0⟩, ?_⟩
  rintro n σ1 H1 ⟨F1, S1, fp1, g1, st1, p1, i1⟩
  refine s0 F1 H1 σ1 S1 fp1 _ _ g1 (turn n S1 i1) fun F2 H2 S2 fp2 b g2 st2 _ q2 => ?_
  cases b with
  | true =>
    rw [if_pos rfl]
    refine ⟨fun σ3 H3 => ∃ F3 S3 fp3, Good K F3 H3 σ3 S3 fp3 ∧ Step fp F H F3 H3 fp3 ∧ Pin pin σ σ3 ∧ ∃ m, m < n ∧ I m S3, fun σ3 H3 ⟨F3, S3, fp3, g3, st3, p3, m, hm, i3⟩ => ⟨m, hm, F3, S3, fp3, g3, st3, p3, i3⟩, ?_⟩
    have l2 := l.on (st1.trans st2) p1
    refine s1 F2 H2 σ1 S2 fp2 _ _ g2 (q2.1 rfl) ⟨fun F' H' σ' S' fp' g' s' p' q' => ?_, l2.nx, fun F' H' σ' S' fp' g' s' p' q' => ?_, l2.rt, l2.xc⟩
    · exact ⟨F', S', fp', g', (st1.trans st2).trans s', p1.trans p', q'⟩
    · exact ⟨F', S', fp', g', (st1.trans st2).trans s', p1.trans p', q'⟩
  | false =>
    rw [if_neg Bool.false_ne_true]
    exact (l.on (st1.trans st2) p1).nx F2 H2 σ1 S2 fp2 g2 Step.refl Pin.refl (q2.2 rfl)

/-! ### targets -/
abbrev VTG := D → SV → (SV → Prop) → Prop
abbrev VTGs := List D → SV → (SV → Prop) → Prop
def SndG (K : PySem.W.Frag) (pin : List Nat) (t : TG) (T : VTG) : Prop := ∀ (F H : Hp) (σ : L2.St) (S : SV) (fp : List Addr) (d : D) (v : V) (fq : List Addr) (Q : SV → Prop) (R : L2.St → Hp → Prop), Good K F H σ S fp → Rep K F H d v fq → fq.Nodup → (∀ a ∈ fq, F a = none ∧ a ∉ fp) → T d S Q →
  (∀ (F' H' : Hp) (σ' : L2.St) (S' : SV) (fp' : List Addr), Good K F' H' σ' S' fp' → Step (fq ++ fp) F H F' H' fp' → Pin pin σ σ' → Q S' → R σ' H') → t v σ H R
structure VG (X : Cx) (K : PySem.W.Frag) (pin : List Nat) (tg : Expr) (t : TG) (T : VTG) : Prop where
  pe : PG X tg t
  snd : SndG K pin t T
def SndGs (K : PySem.W.Frag) (pin : List Nat) (t : TGs) (T : VTGs) : Prop := ∀ (F H : Hp) (σ : L2.St) (S : SV) (fp : List Addr) (ds : List D) (vs : List V) (fq : List Addr) (Q : SV → Prop) (R : L2.St → Hp → Prop), Good K F H σ S fp → RepL K F H ds vs fq → fq.Nodup → (∀ a ∈ fq, F a = none ∧ a ∉ fp) → T ds S Q →
  (∀ (F' H' : Hp) (σ' : L2.St) (S' : SV) (fp' : List Addr), Good K F' H' σ' S' fp' → Step (fq ++ fp) F H F' H' fp' → Pin pin σ σ' → Q S' → R σ' H') → t vs σ H R
structure VGs (X : Cx) (K : PySem.W.Frag) (pin : List Nat) (tg : List Expr) (t : TGs) (T : VTGs) : Prop where
  pe : PGs X tg t
  snd : SndGs K pin t T
/-- a slot is given a new tree -/
def put (S : SV) (i : Nat) (d : D) : SV := S.set i d
theorem Good.put {F H : Hp} {σ : L2.St} {S : SV} {fp fq : List Addr} {d : D} {v : V} {i : Nat} (g : Good K F H σ S fp) (hi : i < S.length) (r : Rep K F H d v fq) (n : fq.Nodup) (z : ∀ a ∈ fq, F a = none ∧ a ∉ fp) :
    ∃ fp', Good K F H (σ.set i (some v)) (S.set i d) fp' ∧ ∀ a ∈ fp', a ∈ fq ∨ a ∈ fp := by
  obtain ⟨ov, f1, f2, f3, e1, rfl, ro, pt⟩ := g.rep.lens (List.getElem?_eq_getElem hi)
  have nd := g.nd
  rw [List.nodup_append] at nd
  obtain ⟨n1, n2, n3⟩ := nd
  rw [List.nodup_append] at n2
  refine ⟨f1 ++ (fq ++ f3), ⟨g.sub, pt Sub.refl (fun a _ o e => e) (show RepO K F H d (some v) fq from r), ?_, fun a ha => ?_⟩, fun a ha => ?_⟩
  · refine List.nodup_append.mpr ⟨n1, List.nodup_append.mpr ⟨n, n2.2.1, fun a ha b hb e => ?_⟩, fun a ha b hb e => ?_⟩
    · subst e; exact (z a ha).2 (by simp [hb])
    · subst e
      rcases List.mem_append.mp hb with hb | hb
      · exact (z a hb).2 (by simp [ha])
      · exact n3 a ha a (List.mem_append_right _ hb) rfl
  · rcases List.mem_append.mp ha with ha | ha
    · exact g.dis a (by simp [ha])
    · rcases List.mem_append.mp ha with ha | ha
      · exact (z a ha).1
      · exact g.dis a (by simp [ha])
  · rcases List.mem_append.mp ha with ha | ha
    · exact .inr (by simp [ha])
    · rcases List.mem_append.mp ha with ha | ha
      · exact .inl ha
      · exact .inr (by simp [ha])
theorem Pin.set {pin : List Nat} {σ : L2.St} {i : Nat} {v : Option V} (h : i ∉ pin) : Pin pin σ (σ.set i v) := ⟨List.length_set, fun j hj => List.getElem?_set_ne (fun (e : i = j) => h (by rw [e]; exact hj))⟩
def TGName (i : Nat) : VTG := fun d S Q => i < S.length ∧ Q (S.set i d)
theorem SndG.name {i : Nat} (hp : i ∉ pin) : SndG K pin (gName i) (TGName i) := fun F H σ S fp d v fq Q R g r n z q k => by
  obtain ⟨fp', g', m⟩ := g.put q.1 r n z
  refine k F H _ _ fp' g' ⟨Sub.refl, fun a o e _ => e, fun a h => .inl h, fun a ha => .inl (List.mem_append.mpr (m a ha))⟩ (Pin.set hp) q.2
theorem vg_name {x : Str} (i : Nat) (hp : i ∉ pin) (h : PG X (.Name x pos) (gName i)) : VG X K pin (.Name x pos) (gName i) (TGName i) := ⟨h, SndG.name hp⟩
def TGNil : VTGs := fun ds S Q => ds = [] ∧ Q S
def TGCons (T : VTG) (U : VTGs) : VTGs := fun ds S Q => match ds with
  | d :: r => T d S fun S1 => U r S1 Q
  | [] => False
theorem vgs_nil : VGs X K pin [] gNil TGNil := ⟨pgs_nil, fun F H σ S fp ds vs fq Q R g r n z q k => by
  obtain ⟨rfl, q⟩ := q
  rw [RepL] at r
  obtain ⟨rfl, rfl⟩ := r
  exact ⟨rfl, k F H σ S fp g Step.refl Pin.refl q⟩⟩
theorem vgs_cons {tg : Expr} {tgs : List Expr} {T : VTG} {U : VTGs} {gt : TG} {gu : TGs} (h1 : VG X K pin tg gt T) (h2 : VGs X K pin tgs gu U) (hs : (assignEach (tg :: tgs) X.env).map (·.2) = assign tg X.env :: (assignEach tgs X.env).map (·.2) := by rfl) : VGs X K pin (tg :: tgs) (gCons gt gu) (TGCons T U) := by
  obtain ⟨a1, s1⟩ := h1
  obtain ⟨a2, s2⟩ := h2
  refine ⟨pgs_cons a1 a2 hs, fun F H σ S fp ds vs fq Q R g r n z q k => ?_⟩
  cases ds with
  | nil => exact q.elim
  | cons d ds =>
    rw [RepL] at r
    obtain ⟨v, vs', f1, f2, rfl, rfl, r1, r2⟩ := r
    obtain ⟨n1, n2, n3⟩ := List.nodup_append.mp n
    refine ⟨v, vs', rfl, s1 F H σ S fp d v f1 _ _ g r1 n1 (fun a ha => z a (List.mem_append_left _ ha)) q fun F1 H1 σ1 S1 fp1 g1 st1 p1 q1 => ?_⟩
    -- the rest of the parts stand
    have hin : ∀ a ∈ f2, a ∉ f1 ++ fp := fun a ha hb => by
      rcases List.mem_append.mp hb with y | y
      · exact n3 a y a ha rfl
      · exact (z a (List.mem_append_right _ ha)).2 y
    have r2' : RepL K F1 H1 ds vs' f2 := r2.mono st1.fsub fun a ha o e => st1.keep a o e (hin a ha)
    refine s2 F1 H1 σ1 S1 fp1 ds vs' f2 _ _ g1 r2' n2 (fun a ha => ?_) q1 fun F2 H2 σ2 S2 fp2 g2 st2 p2 q2 => ?_
    · obtain ⟨o, e, _⟩ := r2.mu a ha
      refine ⟨?_, fun hb => ?_⟩
      · cases e2 : F1 a with
        | none => rfl
        | some u =>
          rcases st1.fnew a (by rw [e2]; simp) with y | y | y
          · exact absurd (z a (List.mem_append_right _ ha)).1 y
          · exact absurd y (hin a ha)
          · rw [e] at y; cases y
      · rcases st1.own a hb with y | y
        · exact hin a ha y
        · rw [e] at y; cases y
    · refine k F2 H2 σ2 S2 fp2 g2 ⟨st1.fsub.trans st2.fsub, fun a o e hn => ?_, fun a h => ?_, fun a ha => ?_⟩ (p1.trans p2) q2
      · have h1 : a ∉ f1 ++ fp := fun y => hn (by rcases List.mem_append.mp y with y | y <;> simp [y])
        refine st2.keep a o (st1.keep a o e h1) fun y => ?_
        rcases List.mem_append.mp y with y | y
        · exact hn (by simp [y])
        · rcases st1.own a y with w | w
          · exact h1 w
          · rw [e] at w; cases w
      · rcases st2.fnew a h with y | y | y
        · rcases st1.fnew a y with w | w | w
          · exact .inl w
          · exact .inr (.inl (by rcases List.mem_append.mp w with w | w <;> simp [w]))
          · exact .inr (.inr w)
        · rcases List.mem_append.mp y with y | y
          · exact .inr (.inl (by simp [y]))
          · rcases st1.own a y with w | w
            · exact .inr (.inl (by rcases List.mem_append.mp w with w | w <;> simp [w]))
            · exact .inr (.inr w)
        · rcases st1.back (.inr y) with w | w
          · exact .inr (.inl (by rcases List.mem_append.mp w with w | w <;> simp [w]))
          · exact .inr (.inr w)
      · rcases st2.own a ha with y | y
        · rcases List.mem_append.mp y with y | y
          · exact .inl (by simp [y])
          · rcases st1.own a y with w | w
            · exact .inl (by rcases List.mem_append.mp w with w | w <;> simp [w])
            · exact .inr w
        · rcases st1.back (.inr y) with w | w
          · exact .inl (by rcases List.mem_append.mp w with w | w <;> simp [w])
          · exact .inr w
def TGTup (n : Nat) (T : VTGs) : VTG := fun d S Q => match d with
  | .tup ds => ds.length = n ∧ T ds S Q
  | _ => False
theorem vg_tup {es : List Expr} {k n : Nat} {T : VTGs} {gt : TGs} (hK : X.K = K) (hc : X.calm = true) (h : VGs X K pin es gt T) (hn : (assignEach es X.env).length = n := by rfl) (hst : (assignEach es X.env).findIdx? (·.1) = none := by rfl) : VG X K pin (.Tuple es k pos) (gTup K n gt) (TGTup n T) := by
  obtain ⟨a1, s1⟩ := h
  subst hK
  refine ⟨pg_tup hc a1 hn hst, fun F H σ S fp d v fq Q R g r nd z q k => ?_⟩
  cases d with
  | tup ds =>
    rw [Rep] at r
    obtain ⟨a, vs, rfl, hs, rl⟩ := r
    refine ⟨a, vs, rfl, g.sub.seqT hs.sq, by rw [← rl.len]; exact q.1, s1 F H σ S fp ds vs fq _ _ g rl nd z q.2 k⟩
  | _ => exact q.elim
/-- target = value -/
def TAsg (T : VT) (G : VTG) : VTS := fun V S => T S fun S1 al d => al = true ∧ G d S1 V.nx
theorem SndS.asg {g : TG} {G : VTG} (h : Snd K p te Te) (hg : SndG K pin g G) : SndS X K pin (tAsg te g) (TAsg Te G) := fun F H σ S fp V M gd q l => by
  refine h F H σ S fp _ _ gd q fun F1 H1 S1 fp1 al d v fq r q1 => ?_
  obtain ⟨n, z⟩ := r.sep q1.1
  refine hg F1 H1 σ S1 fp1 d v fq _ _ r.good r.rep n (fun a ha => ⟨(z a ha).1, (z a ha).2.1⟩) q1.2 fun F2 H2 σ2 S2 fp2 g2 st2 p2 q2 => ?_
  have hb : ∀ a, a ∈ fq ++ fp1 → a ∈ fp ∨ H a = none := fun a ha => by
    rcases List.mem_append.mp ha with y | y
    · exact (z a y).2.2
    · exact r.step.own a y
  refine l.nx F2 H2 σ2 S2 fp2 g2 ⟨r.step.fsub.trans st2.fsub, fun a o e hn => ?_, fun a hh => ?_, fun a ha => ?_⟩ p2 q2
  · refine st2.keep a o (r.step.keep a o e hn) fun y => ?_
    rcases hb a y with w | w
    · exact hn w
    · rw [e] at w; cases w
  · rcases st2.fnew a hh with y | y | y
    · exact r.step.fnew a y
    · exact .inr (hb a y)
    · exact .inr (r.step.back (.inr y))
  · rcases st2.own a ha with y | y
    · exact hb a y
    · exact r.step.back (.inr y)
theorem vs_asg {tg : Expr} {G : VTG} {g : TG} (he : VE X K p e te Te) (hg : VG X K pin tg g G) (hs : swapsWithSole [tg] e pos.line X.env = pure false := by rfl) (hw : swappedStores [tg] e X.env = pure none := by rfl)
    (h1 : (assignEach [tg] X.env).map (·.2) = [assign tg X.env] := by rfl) : VS X K pin (.Assign [tg] e pos) (TAsg Te G) :=
  ⟨_, ps_asg he.pe hg.pe hs hw h1, SndS.asg he.snd hg.snd⟩
theorem vs_set {x : Str} (i : Nat) {pos' : Pos} (hp : i ∉ pin) (he : VE X K p e te Te) (h : PE X e te → PS X (.Assign [.Name x pos'] e pos) (tAsg te (gName i))) : VS X K pin (.Assign [.Name x pos'] e pos) (TAsg Te (TGName i)) :=
  ⟨_, h he.pe, SndS.asg he.snd (SndG.name hp)⟩
end
/-! ### moves -/
section
variable {X : Cx} {K : PySem.W.Frag} {e : Expr} {p : Bool}
/-- the slot's tree is taken out of it -/
def TTake (i : Nat) : VT := fun S Q => okS S i ∧ Q (S.set i .unk) true (S.getD i .unk)
theorem ve_take (i : Nat) (h : PE X e (tVar i)) : VE X K false e (tVar i) (TTake i) := by
  refine ⟨h, fun F H σ S fp Q R g q k => ?_⟩
  obtain ⟨q0, q⟩ := q
  obtain ⟨v, ev⟩ := good_slot g q0
  have hi : i < S.length := by rw [g.rep.len]; exact (List.getElem?_eq_some_iff.mp ev).1
  obtain ⟨ov, f1, f2, f3, e1, efp, ro, pt⟩ := g.rep.lens (List.getElem?_eq_getElem hi)
  rw [ev] at e1
  cases e1
  have eD : S.getD i .unk = S[i] := by rw [List.getD_eq_getElem?_getD, List.getElem?_eq_getElem hi]; rfl
  rw [eD] at q
  have nd := g.nd
  rw [efp, List.nodup_append] at nd
  obtain ⟨n1, n2, n3⟩ := nd
  rw [List.nodup_append] at n2
  have ru : RepS K F H (S.set i .unk) (σ.set i (some v)) (f1 ++ ([] ++ f3)) := pt Sub.refl (fun a _ o e => e) (show Rep K F H .unk v [] by rw [Rep])
  rw [set_self ev, List.nil_append] at ru
  have sub : ∀ a ∈ f1 ++ f3, a ∈ fp := fun a ha => by rw [efp]; rcases List.mem_append.mp ha with y | y <;> simp [y]
  refine ⟨v, ev, k F H _ (f1 ++ f3) true S[i] v f2 ⟨⟨g.sub, ru, List.nodup_append.mpr ⟨n1, n2.2.1, fun a ha b hb => n3 a ha b (List.mem_append_right _ hb)⟩, fun a ha => g.dis a (sub a ha)⟩, ro, ⟨Sub.refl, fun a o e _ => e, fun a h => .inl h, fun a ha => .inl (sub a ha)⟩, fun _ => ⟨n2.1, fun a ha => ⟨g.dis a (by rw [efp]; simp [ha]), fun hb => ?_, .inl (by rw [efp]; simp [ha])⟩⟩, (fun z => nomatch z)⟩ q⟩
  rcases List.mem_append.mp hb with y | y
  · exact n3 a y a (List.mem_append_left _ ha) rfl
  · exact n2.2.2 a ha a y rfl
/-- the slot's tree is fixed from now on -/
def TFrz (i : Nat) : VT := fun S Q => okS S i ∧ Q (S.set i (fz (S.getD i .unk))) true (fz (S.getD i .unk))
theorem good_frz {F H : Hp} {σ : L2.St} {S : SV} {fp : List Addr} (g : Good K F H σ S fp) {i : Nat} (q0 : okS S i) : ∃ v F' fp', σ[i]? = some (some v) ∧ Good K F' H σ (S.set i (fz (S.getD i .unk))) fp' ∧ Step fp F H F' H fp' ∧ Rep K F' H (fz (S.getD i .unk)) v [] := by
  obtain ⟨v, ev⟩ := good_slot g q0
  have hi : i < S.length := by rw [g.rep.len]; exact (List.getElem?_eq_some_iff.mp ev).1
  obtain ⟨ov, f1, f2, f3, e1, efp, ro, pt⟩ := g.rep.lens (List.getElem?_eq_getElem hi)
  rw [ev] at e1
  cases e1
  have eD : S.getD i .unk = S[i] := by rw [List.getD_eq_getElem?_getD, List.getElem?_eq_getElem hi]; rfl
  rw [eD]
  have nd := g.nd
  rw [efp, List.nodup_append] at nd
  obtain ⟨n1, n2, n3⟩ := nd
  rw [List.nodup_append] at n2
  have rf : Rep K (bor f2 F H) H (fz S[i]) v [] := Rep.fz (bor_sub1 g.sub) (show Rep K F H S[i] v f2 from ro) fun a ha o e => by rw [bor_in ha]; exact e
  have ru : RepS K (bor f2 F H) H (S.set i (fz S[i])) (σ.set i (some v)) (f1 ++ ([] ++ f3)) := pt (bor_sub1 g.sub) (fun a _ o e => e) rf
  rw [set_self ev, List.nil_append] at ru
  have sub : ∀ a ∈ f1 ++ f3, a ∈ fp ∧ a ∉ f2 := fun a ha => by
    refine ⟨by rw [efp]; rcases List.mem_append.mp ha with y | y <;> simp [y], fun hb => ?_⟩
    rcases List.mem_append.mp ha with y | y
    · exact n3 a y a (List.mem_append_left _ hb) rfl
    · exact n2.2.2 a hb a y rfl
  refine ⟨v, bor f2 F H, f1 ++ f3, ev, ⟨bor_sub2 g.sub, ru, List.nodup_append.mpr ⟨n1, n2.2.1, fun a ha b hb => n3 a ha b (List.mem_append_right _ hb)⟩, fun a ha => ?_⟩, ⟨bor_sub1 g.sub, fun a o e _ => e, fun a h => ?_, fun a ha => .inl (sub a ha).1⟩, rf⟩
  · rw [bor_out (sub a ha).2]; exact g.dis a (sub a ha).1
  · by_cases hb : a ∈ f2
    · exact .inr (.inl (by rw [efp]; simp [hb]))
    · rw [bor_out hb] at h; exact .inl h
theorem ve_frz (i : Nat) (h : PE X e (tVar i)) : VE X K false e (tVar i) (TFrz i) := by
  refine ⟨h, fun F H σ S fp Q R g q k => ?_⟩
  obtain ⟨q0, q⟩ := q
  obtain ⟨v, F', fp', ev, g', st, r⟩ := good_frz g q0
  exact ⟨v, ev, k F' H _ fp' true _ v [] ⟨g', r, st, fun _ => ⟨List.nodup_nil, fun a ha => absurd ha (by simp)⟩, (fun z => nomatch z)⟩ q⟩
end
end VL

namespace VL
open PySem PySem.Spec PyProof.Rows L2

/-! ### what is walked -/
/-- J walks the trees of items, as long as F stays fixed -/
def ItOk (K : PySem.W.Frag) (J : It) (F : Hp) (items : List D) : Prop := ∀ (F' H' : Hp), Sub F F' → Sub F' H' →
  (∀ (i : Nat) (d : D), items[i]? = some d → J.go i H' ∧ ∀ x H'', J.yld i H' x H'' → ∃ F'', Grow F' H' F'' H'' ∧ Rep K F'' H'' d x []) ∧ (∀ i : Nat, items.length ≤ i → J.stop i H')
abbrev VTI := SV → (SV → List D → Prop) → Prop
def SndI (K : PySem.W.Frag) (p : Bool) (t : TI) (T : VTI) : Prop := ∀ (F H : Hp) (σ : L2.St) (S : SV) (fp : List Addr) (Q : SV → List D → Prop) (R : It → Hp → Prop), Good K F H σ S fp → T S Q →
  (∀ F' H' S' fp' J items, Good K F' H' σ S' fp' → Step fp F H F' H' fp' → (p = true → S' = S ∧ fp' = fp ∧ Grow F H F' H') → ItOk K J F' items → Q S' items → R J H') → t σ H R
structure VI (X : Cx) (K : PySem.W.Frag) (p : Bool) (tg e : Expr) (t : TI) (T : VTI) : Prop where
  pe : PI X tg e t
  snd : SndI K p t T
def iSeq (K : PySem.W.Frag) (tl : TE) : TI := fun σ H R => tl σ H fun x H1 => ∃ a, x = .ref a ∧ (((∃ xs, SqL K H1 a xs) ∧ R (Itl K a) H1) ∨ ((∃ xs, SqT K H1 a xs) ∧ R (Itt K a) H1))
theorem pi_seq {X : Cx} {tg l : Expr} {tl : TE} (hl : PE X l tl) : PI X tg l (iSeq X.K tl) := by
  refine ⟨fun pins s σ H R I h => ?_⟩
  refine thn (hl.run pins s σ H _ I h) fun v s1 ⟨x, H1, I1, r1, q1⟩ => ?_
  obtain ⟨a, e, q⟩ := q1
  subst e
  cases r1
  rcases q with ⟨⟨xs, hq⟩, q⟩ | ⟨⟨xs, hq⟩, q⟩
  · obtain ⟨its, rv, p, hz⟩ := I1.list hq
    refine wpAny_pyIter_list p.isList ?_
    refine ⟨s1.heap.objs.size, [s1.heap.objs.size], _, _, H1, rfl, I1.kept (t' := s1.toks) fun b o e => Heap.get?_push_of_some _ e, turn_list a _, ⟨_, Heap.get?_push_size _ rfl, rfl, rfl⟩, fun b hb => ?_, q⟩
    have e : b = s1.heap.objs.size := by simpa using hb
    subst e
    exact I1.fpOk (Nat.le_refl _) (I1.hok.fresh (Nat.le_refl _))
  · obtain ⟨its, rv, p, hz⟩ := I1.tuple hq
    refine wpAny_pyIter_tuple (show s1.heap.IsTuple a its.toArray from p) ?_
    refine ⟨s1.heap.objs.size, [s1.heap.objs.size], _, _, H1, rfl, I1.kept (t' := s1.toks) fun b o e => Heap.get?_push_of_some _ e, turn_tuple a _, ⟨_, Heap.get?_push_size _ rfl, rfl, rfl⟩, fun b hb => ?_, q⟩
    have e : b = s1.heap.objs.size := by simpa using hb
    subst e
    exact I1.fpOk (Nat.le_refl _) (I1.hok.fresh (Nat.le_refl _))
def TISeq (T : VT) : VTI := fun S Q => T S fun S1 al d => al = true ∧ match d with
  | .lst _ xs => Q S1 (fzL xs)
  | .tup xs => Q S1 (fzL xs)
  | _ => False
/-- free things are fixed from now on -/
theorem Res.fix {K : PySem.W.Frag} {p : Bool} {F H F1 H1 : Hp} {σ : L2.St} {S S1 : SV} {fp fp1 fq : List Addr} {d : D} {v : V} (r : Res K p F H σ S fp F1 H1 S1 fp1 true d v fq) :
    Good K (bor fq F1 H1) H1 σ S1 fp1 ∧ Step fp F H (bor fq F1 H1) H1 fp1 ∧ Rep K (bor fq F1 H1) H1 (fz d) v [] ∧ (p = true → S1 = S ∧ fp1 = fp ∧ Grow F H (bor fq F1 H1) H1) := by
  obtain ⟨n, z⟩ := r.sep rfl
  have fn : ∀ a, bor fq F1 H1 a ≠ none → F1 a ≠ none ∨ (a ∈ fp ∨ H a = none) ∧ a ∉ fp1 := fun a h => by
    by_cases hb : a ∈ fq
    · exact .inr ⟨(z a hb).2.2, (z a hb).2.1⟩
    · rw [bor_out hb] at h; exact .inl h
  refine ⟨⟨bor_sub2 r.good.sub, r.good.rep.mono (bor_sub1 r.good.sub) fun _ _ _ h => h, r.good.nd, fun a ha => ?_⟩, ⟨r.step.fsub.trans (bor_sub1 r.good.sub), r.step.keep, fun a h => ?_, r.step.own⟩,
    Rep.fz (bor_sub1 r.good.sub) r.rep fun a ha o e => by rw [bor_in ha]; exact e, fun hp => ?_⟩
  · rw [bor_out fun hb => (z a hb).2.1 ha]; exact r.good.dis a ha
  · rcases fn a h with y | y
    · exact r.step.fnew a y
    · exact .inr y.1
  · obtain ⟨a1, a2, a3⟩ := r.pure hp
    refine ⟨a1, a2, a3.fsub.trans (bor_sub1 r.good.sub), a3.hsub, fun a h => ?_, bor_sub2 r.good.sub⟩
    rcases fn a h with y | ⟨y | y, w⟩
    · exact a3.fnew a y
    · rw [a2] at w; exact absurd y w
    · exact .inr y
theorem RepL.at0 {K : PySem.W.Frag} {F H : Hp} {ds : List D} {vs : List V} {k : Nat} {d : D} (r : RepL K F H ds vs []) (e : ds[k]? = some d) : ∃ v, vs[k]? = some v ∧ Rep K F H d v [] := by
  obtain ⟨v, f1, f2, f3, e1, e2, r1⟩ := r.at e
  have : f2 = [] := by
    have := congrArg List.length e2
    simp only [List.length_nil, List.length_append] at this
    exact List.length_eq_zero_iff.mp (by omega)
  subst this
  exact ⟨v, e1, r1⟩
theorem itok_list {K : PySem.W.Frag} {F H : Hp} {a : Addr} {vs : List V} {ds : List D} (h : SqL K F a vs) (r : RepL K F H ds vs []) : ItOk K (Itl K a) F ds := fun F' H' s1 s2 => by
  have hs : SqL K H' a vs := (s1.trans s2).seqL h
  refine ⟨fun i d e => ?_, fun i hi => ⟨vs, hs, by rw [← r.len]; exact hi⟩⟩
  obtain ⟨v, ev, rv⟩ := r.at0 e
  refine ⟨⟨vs, v, hs, ev⟩, fun x H'' y => ?_⟩
  obtain ⟨rfl, y⟩ := y
  have := y vs hs
  rw [ev] at this
  cases this
  exact ⟨F', Grow.refl s2, rv.mono s1 fun b hb => absurd hb (by simp)⟩
theorem itok_tup {K : PySem.W.Frag} {F H : Hp} {a : Addr} {vs : List V} {ds : List D} (h : SqT K F a vs) (r : RepL K F H ds vs []) : ItOk K (Itt K a) F ds := fun F' H' s1 s2 => by
  have hs : SqT K H' a vs := (s1.trans s2).seqT h
  refine ⟨fun i d e => ?_, fun i hi => ⟨vs, hs, by rw [← r.len]; exact hi⟩⟩
  obtain ⟨v, ev, rv⟩ := r.at0 e
  refine ⟨⟨vs, v, hs, ev⟩, fun x H'' y => ?_⟩
  obtain ⟨rfl, y⟩ := y
  have := y vs hs
  rw [ev] at this
  cases this
  exact ⟨F', Grow.refl s2, rv.mono s1 fun b hb => absurd hb (by simp)⟩
section
variable {X : Cx} {K : PySem.W.Frag} {p : Bool} {tg e : Expr} {te : TE} {Te : VT}
theorem vi_seq (hK : X.K = K) (h : VE X K p e te Te) : VI X K p tg e (iSeq K te) (TISeq Te) := by
  subst hK
  refine ⟨pi_seq h.pe, fun F H σ S fp Q R g q k => h.snd F H σ S fp _ _ g q fun F1 H1 S1 fp1 al d v fq r q1 => ?_⟩
  obtain ⟨ea, q1⟩ := q1
  subst ea
  obtain ⟨g', st', rf, pu⟩ := r.fix
  cases d <;> first | exact q1.elim | skip
  · rename_i xs
    rw [fz, Rep] at rf
    obtain ⟨a, vs, rfl, hs, rl⟩ := rf
    exact ⟨a, rfl, .inr ⟨⟨vs, g'.sub.seqT hs.sq⟩, k _ H1 S1 fp1 _ _ g' st' pu (itok_tup hs.sq rl) q1⟩⟩
  · rename_i m xs
    rw [fz, Rep] at rf
    obtain ⟨a, vs, fq', rfl, rl, hs | ⟨_, hs, _, rfl⟩⟩ := rf
    · exact nomatch hs.1
    · exact ⟨a, rfl, .inl ⟨⟨vs, g'.sub.seqL hs⟩, k _ H1 S1 fp1 _ _ g' st' pu (itok_list hs rl) q1⟩⟩
def rng (lo : Int) (n : Nat) : List D := (List.range n).map fun k => .int (lo + (k : Nat))
theorem itok_rng {lo : Int} {n : Nat} {F : Hp} : ItOk K (Itr lo n) F (rng lo n) := fun F' H' s1 s2 => by
  refine ⟨fun i d e => ?_, fun i hi => show n ≤ i by simpa [rng] using hi⟩
  unfold rng at e
  rw [List.getElem?_map] at e
  cases e1 : (List.range n)[i]? with
  | none => rw [e1] at e; cases e
  | some k =>
    rw [e1] at e
    obtain ⟨hl, e2⟩ := List.getElem?_eq_some_iff.mp e1
    rw [List.getElem_range] at e2
    subst e2
    cases e
    refine ⟨show i < n by simpa using hl, fun x H'' y => ?_⟩
    obtain ⟨rfl, rfl⟩ := y
    exact ⟨F', Grow.refl s2, by rw [Rep]; exact ⟨rfl, rfl⟩⟩
def TIR1 (T : VT) : VTI := fun S Q => T S fun S1 _ d => match d with
  | .int j => (-(2 ^ 62) ≤ j ∧ j < 2 ^ 62) ∧ Q S1 (rng 0 j.toNat)
  | _ => False
variable {a b : Expr} {Ta Tb : VT} {ta tb : TE} {P0 pos : Pos} {p1 p2 : Bool}
theorem vi_range1 (hg : Gl X "range") (hm : X.mg "range" = none) (h : VE X K p a te Te) (hs : starEach [a] X.env = [(false, eval a X.env)] := by rfl) : VI X K p tg (.Call (.Name "range" P0) [a] [] pos) (iRng1 (tCons te tNil)) (TIR1 Te) := by
  refine ⟨pi_range1 hg hm (pa_cons h.pe pa_nil hs) hs, fun F H σ S fp Q R g q k => h.snd F H σ S fp _ _ g q fun F1 H1 S1 fp1 al d v fq r q1 => ?_⟩
  cases d <;> first | exact q1.elim | skip
  rename_i j
  have e := r.rep
  rw [Rep] at e
  refine ⟨j, by rw [e.1], q1.1.1, q1.1.2, k F1 H1 S1 fp1 _ _ r.good r.step r.pure itok_rng q1.2⟩
def TIR2 (Ta Tb : VT) : VTI := fun S Q => Ta S fun S1 _ d1 => Tb S1 fun S2 _ d2 => match d1, d2 with
  | .int i, .int j => (-(2 ^ 62) ≤ i ∧ i < 2 ^ 62 ∧ -(2 ^ 62) ≤ j ∧ j < 2 ^ 62) ∧ Q S2 (rng i (j - i).toNat)
  | _, _ => False
theorem vi_range2 (hg : Gl X "range") (hm : X.mg "range" = none) (h1 : VE X K p1 a ta Ta) (h2 : VE X K p2 b tb Tb) (hs : starEach [a, b] X.env = [(false, eval a X.env), (false, eval b X.env)] := by rfl) (hs2 : starEach [b] X.env = [(false, eval b X.env)] := by rfl) :
    VI X K (p1 && p2) tg (.Call (.Name "range" P0) [a, b] [] pos) (iRng2 (tCons ta (tCons tb tNil))) (TIR2 Ta Tb) := by
  refine ⟨pi_range2 hg hm (pa_cons h1.pe (pa_cons h2.pe pa_nil hs2) (by rw [hs, hs2])) hs hs2, fun F H σ S fp Q R g q k => h1.snd F H σ S fp _ _ g q fun F1 H1 S1 fp1 al1 d1 v1 fq1 r1 q1 => h2.snd F1 H1 σ S1 fp1 _ _ r1.good q1 fun F2 H2 S2 fp2 al2 d2 v2 fq2 r2 q2 => ?_⟩
  cases d1 <;> first | exact q2.elim | skip
  cases d2 <;> first | exact q2.elim | skip
  rename_i i j
  have e1 := r1.rep
  have e2 := r2.rep
  rw [Rep] at e1 e2
  refine ⟨i, j, by rw [e1.1, e2.1], q2.1, k F2 H2 S2 fp2 _ _ r2.good (r1.step.trans r2.step) (pureT r1.pure r2.pure) itok_rng q2.2⟩
end

/-! ### for -/
def forT (G : VTG) (T : VTS) (W : VD) : List D → SV → Prop
  | [], S => W.nx S
  | x :: xs, S => G x S fun S1 => T { nx := forT G T W xs, ct := forT G T W xs, bk := W.nx, rt := W.rt, xc := W.xc } S1
def TFor (Ti : VTI) (G : VTG) (T : VTS) : VTS := fun W S => Ti S fun S1 items => forT G T W items S1
section
variable {X : Cx} {K : PySem.W.Frag} {pin : List Nat} {p : Bool} {tg iter : Expr} {body : List Stmt} {wi : TI} {Ti : VTI} {g : TG} {G : VTG} {T : VTS} {pos : Pos}
theorem vs_for (hp : PassesOwn (model X.prog X.w) X.A X.env X.xe) (hc : X.calm = true) (hi : VI X K p tg iter wi Ti) (hg : VG X K pin tg g G) (hb : VSs X K pin body T) (hs : ∀ x, foldedSetIterable iter X.env x = pure x := by intro _; rfl) :
    VS X K pin (.For tg iter body [] pos) (TFor Ti G T) := by
  obtain ⟨t, a1, s1⟩ := hb.ex
  refine ⟨_, ps_for hp hc hi.pe hg.pe a1 hs, fun F H σ S fp V M gd q l => ?_⟩
  refine hi.snd F H σ S fp _ _ gd q fun F1 H1 S1 fp1 J items g1 st1 _ it q1 => ?_
  refine ⟨fun i m σ2 H2 => ∃ F2 S2 fp2, Good K F2 H2 σ2 S2 fp2 ∧ Step fp F H F2 H2 fp2 ∧ Sub F1 F2 ∧ Pin pin σ σ2 ∧ m = items.length - i ∧ i ≤ items.length ∧ forT G T V (items.drop i) S2, ⟨items.length, F1, S1, fp1, g1, st1, Sub.refl, Pin.refl, by simp, Nat.zero_le _, by simpa using q1⟩, ?_⟩
  rintro i m σ2 H2 ⟨F2, S2, fp2, g2, st2, sb2, p2, rfl, hi', q2⟩
  obtain ⟨go, stop⟩ := it F2 H2 sb2 g2.sub
  by_cases hlt : i < items.length
  · obtain ⟨go1, go2⟩ := go i _ (List.getElem?_eq_getElem hlt)
    rw [List.drop_eq_getElem_cons hlt] at q2
    refine .inr ⟨go1, fun σ3 H3 => ∃ F3 S3 fp3, Good K F3 H3 σ3 S3 fp3 ∧ Step fp F H F3 H3 fp3 ∧ Sub F1 F3 ∧ Pin pin σ σ3 ∧ forT G T V (items.drop (i + 1)) S3, fun σ3 H3 ⟨F3, S3, fp3, g3, st3, sb3, p3, q3⟩ => ⟨items.length - (i + 1), by omega, F3, S3, fp3, g3, st3, sb3, p3, rfl, hlt, q3⟩, fun x H3 y => ?_⟩
    obtain ⟨F3, gr, rx⟩ := go2 x H3 y
    have g3 := g2.grow gr
    have st3 := st2.trans (gr.step (fp := fp2))
    refine hg.snd F3 H3 σ2 S2 fp2 _ x [] _ _ g3 rx List.nodup_nil (fun a ha => absurd ha (by simp)) q2 fun F4 H4 σ4 S4 fp4 g4 st4 p4 q4 => ?_
    have st4' := st3.trans (show Step fp2 F3 H3 F4 H4 fp4 from st4)
    have sb4 : Sub F1 F4 := (sb2.trans gr.fsub).trans st4.fsub
    have p4' := p2.trans p4
    have l4 := l.on st4' p4'
    refine s1 F4 H4 σ4 S4 fp4 _ _ g4 q4 ⟨fun F' H' σ' S' fp' g' s' p' q' => ?_, l4.nx, fun F' H' σ' S' fp' g' s' p' q' => ?_, l4.rt, l4.xc⟩
    · exact ⟨F', S', fp', g', st4'.trans s', sb4.trans s'.fsub, p4'.trans p', q'⟩
    · exact ⟨F', S', fp', g', st4'.trans s', sb4.trans s'.fsub, p4'.trans p', q'⟩
  · have e : items.drop i = [] := List.drop_eq_nil_of_le (by omega)
    rw [e] at q2
    exact .inl ⟨stop i (by omega), (l.on st2 p2).nx F2 H2 σ2 S2 fp2 g2 Step.refl Pin.refl q2⟩
end

/-! ### a def keeps its promise -/
/-- the parameters as they are behind the body: those that may have been set anew are not told -/
def fin (pin : List Nat) (n : Nat) (S : SV) : List D := (List.range n).map fun i => if i ∈ pin then S.getD i .unk else .unk
theorem start_app (N : List Str) (vs : List V) : start N vs = vs.map some ++ List.replicate (N.length - vs.length) none := rfl
def begin (N n : Nat) (ds : List D) : SV := ds ++ List.replicate (N - n) .unk
theorem RepS.fin {K : PySem.W.Frag} {F H : Hp} : ∀ {vs : List V} {S : SV} {σ : L2.St} {fp : List Addr} {pin : List Nat}, RepS K F H S σ fp → (∀ i ∈ pin, i < vs.length → σ[i]? = some (vs[i]?)) → vs.length ≤ S.length →
    ∃ fp', RepL K F H (VL.fin pin vs.length S) vs fp' ∧ fp'.Sublist fp
  | [], S, σ, fp, pin, r, h, hl => ⟨[], by
      show RepL K F H (VL.fin pin 0 S) [] []
      unfold VL.fin
      rw [List.range_zero, List.map_nil, RepL]
      exact ⟨rfl, rfl⟩, List.nil_sublist _⟩
  | v :: vs, [], σ, fp, pin, r, h, hl => by simp at hl
  | v :: vs, d :: S, σ, fp, pin, r, h, hl => by
    obtain ⟨ov, σ', f1, f2, rfl, rfl, h1, h2⟩ := r
    obtain ⟨fp', rl, sl⟩ := RepS.fin (vs := vs) (pin := (List.range vs.length).filter fun i => i + 1 ∈ pin) h2 (fun i hi hl => by
      have hm : i + 1 ∈ pin := by simpa using (List.mem_filter.mp hi).2
      have := h (i + 1) hm (by rw [List.length_cons]; omega)
      simpa using this) (by rw [List.length_cons, List.length_cons] at hl; omega)
    have e2 : VL.fin pin (vs.length + 1) (d :: S) = (if 0 ∈ pin then d else .unk) :: VL.fin ((List.range vs.length).filter fun i => i + 1 ∈ pin) vs.length S := by
      unfold VL.fin
      rw [List.range_succ_eq_map, List.map_cons, List.map_map]
      congr 1
      apply List.map_congr_left
      intro i hi
      have hi' : i < vs.length := List.mem_range.mp hi
      simp [hi']
    rw [List.length_cons, e2]
    by_cases z : 0 ∈ pin
    · have := h 0 z (by simp)
      simp at this
      subst this
      rw [if_pos z]
      exact ⟨f1 ++ fp', by rw [RepL]; exact ⟨v, vs, f1, fp', rfl, rfl, h1, rl⟩, sl.append_left f1⟩
    · rw [if_neg z]
      refine ⟨fp', by rw [RepL]; exact ⟨v, vs, [], fp', rfl, rfl, by rw [Rep], rl⟩, ?_⟩
      exact sl.trans (List.sublist_append_right _ _)
section
variable {P : Program} {w : World} {K : PySem.W.Frag} {mg : Str → Option Value} {base : Heap}
/-- THE RULE for a def: the body's reading over trees -/
theorem fn_ok {x qual : Str} {st : Stmt} {f : Addr} {fd : FuncData} {N ps : List Str} {k : Nat} {C : Ct} (pin : List Nat) (Fn : Fun K x qual st f fd) (Sc : FnScope N ps (defScope st))
    (hbody : ∀ (cdv : Value) (A : Around) (outer : List Env) (s : Shared) (H : Hp) (E : XK), Room k (A.deeper (envOfC qual (defScope st) s.heap.objs.size f cdv)) →
      ∃ T, VSs (cxOf CX0 P w K mg base N qual (defScope st) f cdv A outer s H E).nox K pin (defBody st) T ∧ ∀ ds Qv, ds.length = ps.length → C ds Qv → T { nx := fun S => Qv .non (fin pin ps.length S), rt := fun r S => Qv r (fin pin ps.length S) } (begin N.length ps.length ds)) :
    FnOk P w K mg base CX0 (k + 1) f fd ps (spC K ps.length C) := by
  refine Fn.ok Sc (fun vs H Q E h => h.1) (fun cdv A outer s H vs Q E hr h => ?_)
  obtain ⟨hlv, F, ds, fp, Qv, sub, rl, nd, dis, hC, fin'⟩ := h
  obtain ⟨T, hb, hT⟩ := hbody cdv A outer s H E hr
  obtain ⟨t, h1, s1⟩ := hb.ex
  have hld : ds.length = ps.length := rl.len.trans hlv
  have hpl : ps.length ≤ N.length := by
    have := congrArg List.length Sc.pre
    rw [List.length_take] at this
    omega
  have rs : RepS K F H (begin N.length ps.length ds) (start N vs) (fp ++ []) := by
    unfold begin
    rw [start_app, hlv]
    exact RepS.app (RepS.ofL rl) (RepS.nones _)
  rw [List.append_nil] at rs
  refine ⟨t, h1, s1 F H (start N vs) _ fp { nx := fun S => Qv .non (fin pin ps.length S), rt := fun r S => Qv r (fin pin ps.length S) } _ ⟨sub, rs, nd, dis⟩ (hT ds Qv hld hC) ?_⟩
  have hpin : ∀ σ' : L2.St, Pin pin (start N vs) σ' → ∀ i ∈ pin, i < vs.length → σ'[i]? = some (vs[i]?) := fun σ' hp i hi hl => by
    rw [hp.2 i hi, start_app, List.getElem?_append_left (by simpa using hl), List.getElem?_map, List.getElem?_eq_getElem hl]
    rfl
  have body : ∀ (F' H' : Hp) (σ' : L2.St) (S' : SV) (fp' : List Addr) (d : D) (v : V) (fq : List Addr), Good K F' H' σ' S' fp' → Step fp F H F' H' fp' → Pin pin (start N vs) σ' → Rep K F' H' d v fq → fq.Nodup → (∀ a ∈ fq, F' a = none ∧ a ∉ fp' ∧ (a ∈ fp ∨ H a = none)) →
      Qv d (fin pin ps.length S') → Q v H' := fun F' H' σ' S' fp' d v fq g' st' p' r' n' z' q' => by
    have hS : vs.length ≤ S'.length := by
      rw [g'.rep.len, p'.1, ← rs.len]
      unfold begin
      rw [List.length_append]
      omega
    · obtain ⟨fr, rl', sl⟩ := g'.rep.fin (hpin σ' p') hS
      rw [hlv] at rl'
      have hsub : ∀ a ∈ fr, a ∈ fp' := fun a ha => sl.subset ha
      refine fin' d _ F' H' v fr fq q' g'.sub rl' r' (List.nodup_append.mpr ⟨g'.nd.sublist sl, n', fun a ha b hb e => ?_⟩) (fun a ha => ?_) ⟨st'.fsub, st'.keep, st'.fnew, fun a ha => ?_⟩
      · subst e; exact (z' a hb).2.1 (hsub a ha)
      · rcases List.mem_append.mp ha with y | y
        · exact g'.dis a (hsub a y)
        · exact (z' a y).1
      · rcases List.mem_append.mp ha with y | y
        · exact st'.own a (hsub a y)
        · exact (z' a y).2.2
  refine ⟨fun F' H' σ' S' fp' g' st' p' q' => ?_, fun _ _ _ _ _ _ _ _ q' => q'.elim, fun _ _ _ _ _ _ _ _ q' => q'.elim, fun F' H' σ' S' fp' d v fq g' st' p' r' n' z' q' => body F' H' σ' S' fp' d v fq g' st' p' r' n' z' q', fun _ _ _ _ _ _ _ _ _ _ q' _ => q'.elim⟩
  exact body F' H' σ' S' fp' .non .non [] g' st' p' (by rw [Rep]; exact ⟨rfl, rfl⟩) List.nodup_nil (fun a ha => absurd ha (by simp)) q'
end
end VL

namespace VL
open PySem PySem.Spec PyProof.Rows L2

section
variable {K : PySem.W.Frag} {F H : Hp}
theorem Opd.int {al : Bool} {i : Int} {v : V} {fq : List Addr} (o : Opd K F H al (.int i) v fq) : v = .int i := by have := o.rep; rw [Rep] at this; exact this.1
theorem Opd.bl {al : Bool} {i : Bool} {v : V} {fq : List Addr} (o : Opd K F H al (.bl i) v fq) : v = .bl i := by have := o.rep; rw [Rep] at this; exact this.1
theorem Opd.str {al : Bool} {i : Str} {v : V} {fq : List Addr} (o : Opd K F H al (.str i) v fq) : v = .str i := by have := o.rep; rw [Rep] at this; exact this.1
theorem Opd.non {al : Bool} {v : V} {fq : List Addr} (o : Opd K F H al .non v fq) : v = .non := by have := o.rep; rw [Rep] at this; exact this.1
theorem Ans.scal {d : D} {v : V} {src : Addr → Prop} (s : Sub F H) (r : Rep K F H d v []) : Ans K F H F H true d v [] src := ⟨r, Grow.refl s, fun _ => ⟨List.nodup_nil, fun a ha => absurd ha (by simp)⟩⟩
theorem Ans.int {i : Int} {src : Addr → Prop} (s : Sub F H) : Ans K F H F H true (.int i) (.int i) [] src := Ans.scal s (by rw [Rep]; exact ⟨rfl, rfl⟩)
theorem Ans.bl {i : Bool} {src : Addr → Prop} (s : Sub F H) : Ans K F H F H true (.bl i) (.bl i) [] src := Ans.scal s (by rw [Rep]; exact ⟨rfl, rfl⟩)
theorem Ans.str {i : Str} {src : Addr → Prop} (s : Sub F H) : Ans K F H F H true (.str i) (.str i) [] src := Ans.scal s (by rw [Rep]; exact ⟨rfl, rfl⟩)
theorem Ans.non {src : Addr → Prop} (s : Sub F H) : Ans K F H F H true .non .non [] src := Ans.scal s (by rw [Rep]; exact ⟨rfl, rfl⟩)
theorem Lf2.or {r r' : R2} {O O' : O2} (h : Lf2 K r O) (h' : Lf2 K r' O') : Lf2 K (fun x y H Q => r x y H Q ∨ r' x y H Q) (fun a1 d1 a2 d2 Q => O a1 d1 a2 d2 Q ∨ O' a1 d1 a2 d2 Q) := fun F H al1 d1 v1 q1 al2 d2 v2 q2 Q R s o1 o2 dj q k => by
  rcases q with q | q
  · exact .inl (h F H al1 d1 v1 q1 al2 d2 v2 q2 Q R s o1 o2 dj q k)
  · exact .inr (h' F H al1 d1 v1 q1 al2 d2 v2 q2 Q R s o1 o2 dj q k)
end
/-! ### ints -/
def oI (C : Int → Int → Prop) (f : Int → Int → Int) : O2 := fun _ d1 _ d2 Q => match d1, d2 with
  | .int i, .int j => C i j ∧ Q true (.int (f i j))
  | _, _ => False
def oB (f : Int → Int → Bool) : O2 := fun _ d1 _ d2 Q => match d1, d2 with
  | .int i, .int j => Q true (.bl (f i j))
  | _, _ => False
section
variable {K : PySem.W.Frag}
theorem lf_I {C : Int → Int → Prop} {f : Int → Int → Int} : Lf2 K (rI C fun i j => .int (f i j)) (oI C f) := fun F H al1 d1 v1 q1 al2 d2 v2 q2 Q R s o1 o2 _ q k => by
  cases d1 <;> first | exact q.elim | skip
  cases d2 <;> first | exact q.elim | skip
  exact ⟨_, _, o1.int, o2.int, q.1, k F H true _ _ [] (Ans.int s) q.2⟩
theorem lf_I0 {f : Int → Int → Int} : Lf2 K (rI0 fun i j => .int (f i j)) (oI (fun _ _ => True) f) := fun F H al1 d1 v1 q1 al2 d2 v2 q2 Q R s o1 o2 _ q k => by
  cases d1 <;> first | exact q.elim | skip
  cases d2 <;> first | exact q.elim | skip
  exact ⟨_, _, o1.int, o2.int, k F H true _ _ [] (Ans.int s) q.2⟩
theorem lf_B0 {f : Int → Int → Bool} : Lf2 K (rI0 fun i j => .bl (f i j)) (oB f) := fun F H al1 d1 v1 q1 al2 d2 v2 q2 Q R s o1 o2 _ q k => by
  cases d1 <;> first | exact q.elim | skip
  cases d2 <;> first | exact q.elim | skip
  exact ⟨_, _, o1.int, o2.int, k F H true _ _ [] (Ans.bl s) q⟩
end
/-! ### lists put together -/
def rCatL (K : PySem.W.Frag) : R2 := fun x y H Q => ∃ l b xs zs, x = .ref l ∧ y = .ref b ∧ SqL K H l xs ∧ SqL K H b zs ∧ xs.length + zs.length ≤ sizeLine ∧ ∀ p, H p = none → Q (.ref p) (upd H p (.lst (xs ++ zs)))
theorem op_catL {X : Cx} : OpR X (binaryOp .Add) (rCatL X.K) := by
  intro pins s σ H x y v u Q I rx ry h
  obtain ⟨l, b, xs, zs, rfl, rfl, hH, hB, hz, q⟩ := h
  cases rx
  cases ry
  obtain ⟨its, r, hl, _⟩ := I.list hH
  obtain ⟨its2, r2, hl2, _⟩ := I.list hB
  obtain ⟨⟨cls, dd, data, sl⟩, n, ho, hc, _, hd⟩ := hl
  obtain ⟨⟨cls2, dd2, data2, sl2⟩, n2, ho2, hc2, _, hd2⟩ := hl2
  simp only at hc hd hc2 hd2
  subst hc hd hc2 hd2
  have e : its.toArray ++ its2.toArray = (its ++ its2).toArray := by simp
  have l1 := r.length
  have l2 := r2.length
  refine concat_meets ⟨_, ho, rfl⟩ ⟨_, ho2, rfl⟩ noFill_list_add seq_list_add PySem.F.slot_list_add PySem.F.entry_list_add (PySem.F.args_list_add_2 _ _) (list_addW l b its.toArray its2.toArray n n2 dd dd2 sl sl2 (by rw [List.size_toArray, List.size_toArray]; omega)) ⟨ho, ho2, ?_⟩
  rw [e]
  exact ⟨.ref _, _, I.lnew (t' := s.toks) (r.append r2) (by rw [List.length_append]; omega), rfl, q _ I.fresh⟩
theorem fz_lst {K : PySem.W.Frag} {F H : Hp} {m : Bool} {xs : List D} {v : V} {fq : List Addr} (s : Sub F H) (r : Rep K F H (.lst m xs) v fq) : ∃ a vs fi, v = .ref a ∧ SqL K H a vs ∧ RepL K F H xs vs fi ∧ (∀ b ∈ fi, b ∈ fq) ∧ (fq.Nodup → fi.Nodup) := by
  rw [Rep] at r
  obtain ⟨a, vs, fi, rfl, rl, ⟨_, h, rfl⟩ | ⟨_, h, rfl, rfl⟩⟩ := r
  · exact ⟨a, vs, fi, rfl, SqL.of h, rl, fun b hb => List.mem_cons_of_mem _ hb, fun n => (List.nodup_cons.mp n).2⟩
  · exact ⟨a, vs, [], rfl, s.seqL h, rl, fun b hb => hb, fun n => n⟩
/-- int + int, str + str, list + list, tuple + tuple -/
def oAdd : O2 := fun a1 d1 a2 d2 Q => match d1, d2 with
  | .int i, .int j => Q true (.int (i + j))
  | .str i, .str j => i.length + j.length ≤ sizeLine ∧ Q true (.str (i ++ j))
  | .lst _ xs, .lst _ ys => xs.length + ys.length ≤ sizeLine ∧ Q ((a1 || immL xs) && (a2 || immL ys)) (.lst true (xs ++ ys))
  | .tup xs, .tup ys => xs.length + ys.length ≤ sizeLine ∧ Q ((a1 || immL xs) && (a2 || immL ys)) (.tup (xs ++ ys))
  | _, _ => False
def rCatN (K : PySem.W.Frag) : R2 := fun x y H Q => ∃ a b xs ys, x = .ref a ∧ y = .ref b ∧ SqT K H a xs ∧ SqT K H b ys ∧ xs.length + ys.length ≤ sizeLine ∧
  (xs = [] → Q (.ref b) H) ∧ (xs ≠ [] → ys = [] → Q (.ref a) H) ∧ (xs ≠ [] → ys ≠ [] → NewT H (xs ++ ys) Q)
theorem op_catN {X : Cx} : OpR X (binaryOp .Add) (rCatN X.K) := fun pins s σ H x y v u Q I rx ry h => by
  obtain ⟨a, b, xs, ys, rfl, rfl, ha, hb, hz, q0, q1, q2⟩ := h
  obtain ⟨its, r1, p1, _⟩ := I.tuple ha
  obtain ⟨jts, r2, p2, _⟩ := I.tuple hb
  cases rx
  cases ry
  by_cases hx : xs = []
  · subst hx
    cases r1
    exact cat_tup0 p1 p2 ⟨.ref b, H, I, rfl, q0 rfl⟩
  · refine HT.cat_tup p1 p2 (fun z => hx (r1.nil_iff.mp z)) (fun z => ⟨.ref a, H, I, rfl, q1 hx (r2.nil_iff.mp z)⟩) (fun z => ?_) (by rw [← r1.length, ← r2.length]; exact hz)
    exact newTup (t' := s.toks) I (r1.append r2) (by rw [List.length_append]; exact hz) (Nat.le_refl _) (fun b ob e => Heap.get?_push_of_some _ e) (Heap.get?_push_size _ rfl) (q2 hx fun w => z (r2.nil_iff.mpr w))
def rAdd (K : PySem.W.Frag) : R2 := fun x y H Q => rI0 (fun i j => .int (i + j)) x y H Q ∨ (∃ i j, x = .str i ∧ y = .str j ∧ i.length + j.length ≤ sizeLine ∧ Q (.str (i ++ j)) H) ∨ rCatL K x y H Q ∨ rCatN K x y H Q
theorem op_addA {X : Cx} : OpR X (binaryOp .Add) (rAdd X.K) := OpR.or op_add (OpR.or op_add_str (OpR.or op_catL op_catN))
/-- two lists of parts, side by side, both free -/
theorem both_free {K : PySem.W.Frag} {F H : Hp} {xs ys : List D} {vs us : List V} {f1 f2 q1 q2 : List Addr} {a1 a2 : Bool} (r1 : RepL K F H xs vs f1) (r2 : RepL K F H ys us f2) (m1 : ∀ b ∈ f1, b ∈ q1) (m2 : ∀ b ∈ f2, b ∈ q2)
    (n1 : a1 = true → f1.Nodup ∧ ∀ a ∈ q1, F a = none) (n2 : a2 = true → f2.Nodup ∧ ∀ a ∈ q2, F a = none) (dj : a1 = true → a2 = true → ∀ a ∈ q1, a ∉ q2) (c : ((a1 || immL xs) && (a2 || immL ys)) = true) :
    (f1 ++ f2).Nodup ∧ ∀ a ∈ f1 ++ f2, F a = none ∧ ((a1 = true ∧ a ∈ q1) ∨ (a2 = true ∧ a ∈ q2)) := by
  rw [Bool.and_eq_true, Bool.or_eq_true, Bool.or_eq_true] at c
  have c1 : f1 = [] ∨ a1 = true := c.1.elim .inr fun z => .inl (r1.ofImm z)
  have c2 : f2 = [] ∨ a2 = true := c.2.elim .inr fun z => .inl (r2.ofImm z)
  refine ⟨List.nodup_append.mpr ⟨?_, ?_, fun a ha b hb e => ?_⟩, fun a ha => ?_⟩
  · rcases c1 with z | z
    · rw [z]; exact List.nodup_nil
    · exact (n1 z).1
  · rcases c2 with z | z
    · rw [z]; exact List.nodup_nil
    · exact (n2 z).1
  · subst e
    rcases c1 with z | z
    · rw [z] at ha; cases ha
    · rcases c2 with y | y
      · rw [y] at hb; cases hb
      · exact dj z y a (m1 a ha) (m2 a hb)
  · rcases List.mem_append.mp ha with ha | ha
    · rcases c1 with z | z
      · rw [z] at ha; cases ha
      · exact ⟨(n1 z).2 a (m1 a ha), .inl ⟨z, m1 a ha⟩⟩
    · rcases c2 with z | z
      · rw [z] at ha; cases ha
      · exact ⟨(n2 z).2 a (m2 a ha), .inr ⟨z, m2 a ha⟩⟩
theorem tup_parts {K : PySem.W.Frag} {F H : Hp} {xs : List D} {v : V} {fq : List Addr} (r : Rep K F H (.tup xs) v fq) : ∃ a vs, v = .ref a ∧ SqT K F a vs ∧ RepL K F H xs vs fq := by rw [Rep] at r; obtain ⟨a, vs, e, h, l⟩ := r; exact ⟨a, vs, e, h.sq, l⟩
theorem tup_partsN {K : PySem.W.Frag} {F H : Hp} {xs : List D} {v : V} {fq : List Addr} (r : Rep K F H (.tup xs) v fq) : ∃ a vs, v = .ref a ∧ TupN K F a vs ∧ RepL K F H xs vs fq := by rw [Rep] at r; exact r
theorem lf_add {K : PySem.W.Frag} : Lf2 K (rAdd K) oAdd := fun F H al1 d1 v1 q1 al2 d2 v2 q2 Q R s o1 o2 dj q k => by
  cases d1 <;> cases d2 <;> first | exact q.elim | skip
  · exact .inl ⟨_, _, o1.int, o2.int, k F H true _ _ [] (Ans.int s) q⟩
  · exact .inr (.inl ⟨_, _, o1.str, o2.str, q.1, k F H true _ _ [] (Ans.str s) q.2⟩)
  · rename_i xs ys
    obtain ⟨a, vs, rfl, h1, rl1⟩ := tup_partsN o1.rep
    obtain ⟨b, us, rfl, h2, rl2⟩ := tup_partsN o2.rep
    have e1 := rl1.len
    have e2 := rl2.len
    have key : ∀ {F' H' : Hp} {x : Addr}, Grow F H F' H' → TupN K F' x (vs ++ us) → R (.ref x) H' := fun {F' H' x} gr hx => by
      have ra : Rep K F' H' (.tup (xs ++ ys)) (.ref x) (q1 ++ q2) := by
        rw [Rep]
        exact ⟨x, _, rfl, hx, (rl1.mono gr.fsub fun a _ o e => gr.hsub a o e).app (rl2.mono gr.fsub fun a _ o e => gr.hsub a o e)⟩
      refine k F' H' _ _ _ (q1 ++ q2) ⟨ra, gr, fun c => ?_⟩ q.2
      obtain ⟨n, z⟩ := both_free rl1 rl2 (fun b hb => hb) (fun b hb => hb) (fun z => o1.sep z) (fun z => o2.sep z) dj c
      refine ⟨n, fun a ha => ?_⟩
      have : ∃ o, H a = some o := by
        rcases List.mem_append.mp ha with y | y
        · obtain ⟨o, e, _⟩ := rl1.mu a y; exact ⟨o, e⟩
        · obtain ⟨o, e, _⟩ := rl2.mu a y; exact ⟨o, e⟩
      obtain ⟨o, e⟩ := this
      exact ⟨gr.dis (z a ha).1 e, .inr (z a ha).2⟩
    refine .inr (.inr (.inr ⟨a, b, vs, us, rfl, rfl, s.seqT h1.sq, s.seqT h2.sq, by rw [← e1, ← e2]; exact q.1, fun z => ?_, fun _ z => ?_, fun _ _ p o hp hd => ?_⟩))
    · subst z
      exact key (Grow.refl s) (by simpa using h2)
    · subst z
      exact key (Grow.refl s) (by simpa using h1)
    · exact key (Grow.fixed s hp) (.inl ⟨o, upd_same, hd⟩)
  · rename_i m xs m' ys
    obtain ⟨a, vs, f1, rfl, h1, rl1, m1, n1⟩ := fz_lst s o1.rep
    obtain ⟨b, us, f2, rfl, h2, rl2, m2, n2⟩ := fz_lst s o2.rep
    have e1 := rl1.len
    have e2 := rl2.len
    refine .inr (.inr (.inl ⟨a, b, vs, us, rfl, rfl, h1, h2, by rw [← e1, ← e2]; exact q.1, fun p hp => ?_⟩))
    have gr : Grow F H F (upd H p (.lst (vs ++ us))) := Grow.owned s hp
    have ra : Rep K F (upd H p (.lst (vs ++ us))) (.lst true (xs ++ ys)) (.ref p) (p :: (f1 ++ f2)) := by
      rw [Rep]
      exact ⟨p, _, f1 ++ f2, rfl, (rl1.mono gr.fsub fun a _ o e => gr.hsub a o e).app (rl2.mono gr.fsub fun a _ o e => gr.hsub a o e), .inl ⟨rfl, upd_same, rfl⟩⟩
    refine k F _ _ _ _ _ ⟨ra, gr, fun c => ?_⟩ q.2
    obtain ⟨n, z⟩ := both_free rl1 rl2 m1 m2 (fun z => ⟨n1 (o1.sep z).1, (o1.sep z).2⟩) (fun z => ⟨n2 (o2.sep z).1, (o2.sep z).2⟩) dj c
    have hne : ∀ a ∈ f1 ++ f2, ∃ o, H a = some o := fun a ha => by
      rcases List.mem_append.mp ha with y | y
      · obtain ⟨o, e, _⟩ := rl1.mu a y; exact ⟨o, e⟩
      · obtain ⟨o, e, _⟩ := rl2.mu a y; exact ⟨o, e⟩
    refine ⟨List.nodup_cons.mpr ⟨fun hm => ?_, n⟩, fun a ha => ?_⟩
    · obtain ⟨o, e⟩ := hne p hm
      rw [hp] at e; cases e
    · rcases List.mem_cons.mp ha with rfl | ha
      · exact ⟨s.none hp, .inl hp⟩
      · exact ⟨(z a ha).1, .inr (z a ha).2⟩
/-! ### an item -/
def oIx : O2 := fun a1 d1 _ d2 Q => match d1, d2 with
  | .lst _ xs, .int i => match atI xs i with
    | some d => Q (d.imm || a1) d
    | none => False
  | .tup xs, .int i => match atI xs i with
    | some d => Q (d.imm || a1) d
    | none => False
  | .str z, .int i => z.length ≤ sizeLine ∧ match atI z.cps.toList i with
    | some c => Q true (.str ⟨#[c]⟩)
    | none => False
  | _, _ => False
theorem RepL.atI {K : PySem.W.Frag} {F H : Hp} {ds : List D} {vs : List V} {fp : List Addr} {i : Int} {d : D} (r : RepL K F H ds vs fp) (e : atI ds i = some d) : ∃ v f1 f2 f3, L2.atI vs i = some v ∧ fp = f1 ++ (f2 ++ f3) ∧ Rep K F H d v f2 := by
  unfold L2.atI at e ⊢
  rw [← r.len]
  cases h : ixN ds.length i with
  | none => rw [h] at e; cases e
  | some j =>
    rw [h] at e
    exact r.at e
theorem item_ans {K : PySem.W.Frag} {F H : Hp} {al1 : Bool} {d d1 : D} {v v1 : V} {f1 f2 f3 fp q1 : List Addr} (s : Sub F H) (o1 : Opd K F H al1 d1 v1 q1) (e : fp = f1 ++ (f2 ++ f3)) (m : ∀ b ∈ fp, b ∈ q1) (n : q1.Nodup → fp.Nodup) (r : Rep K F H d v f2) : Ans K F H F H (d.imm || al1) d v f2 (fun a => (al1 = true ∧ a ∈ q1) ∨ False) := by
  refine ⟨r, Grow.refl s, fun c => ?_⟩
  rw [Bool.or_eq_true] at c
  rcases c with c | c
  · rw [r.ofImm c]
    exact ⟨List.nodup_nil, fun a ha => absurd ha (by simp)⟩
  · obtain ⟨nd, z⟩ := o1.sep c
    have nf := n nd
    rw [e] at nf
    have mf : ∀ b ∈ f2, b ∈ q1 := fun b hb => m b (by rw [e]; simp [hb])
    exact ⟨(List.nodup_append.mp (List.nodup_append.mp nf).2.1).1, fun a ha => ⟨z a (mf a ha), .inr (.inl ⟨c, mf a ha⟩)⟩⟩
theorem Ans.src {K : PySem.W.Frag} {F H F' H' : Hp} {al : Bool} {d : D} {v : V} {fq : List Addr} {s1 s2 : Addr → Prop} (a : Ans K F H F' H' al d v fq s1) (h : ∀ x, s1 x → s2 x) : Ans K F H F' H' al d v fq s2 := ⟨a.rep, a.grow, fun c => ⟨(a.sep c).1, fun x hx => ⟨((a.sep c).2 x hx).1, ((a.sep c).2 x hx).2.imp_right (h x)⟩⟩⟩
theorem lf_ix {K : PySem.W.Frag} : Lf2 K (rIx K) oIx := fun F H al1 d1 v1 q1 al2 d2 v2 q2 Q R s o1 o2 dj q k => by
  cases d1 <;> first | exact q.elim | skip
  · cases d2 <;> first | exact q.elim | skip
    rename_i z i
    obtain ⟨hz, q⟩ := q
    cases e : L2.atI z.cps.toList i with
    | none => simp only [e] at q
    | some c =>
      simp only [e] at q
      exact .inr (.inr ⟨z, i, c, o1.str, o2.int, hz, e, k F H true _ _ [] (Ans.str s) q⟩)
  · cases d2 <;> first | exact q.elim | skip
    rename_i xs i
    cases e : L2.atI xs i with
    | none => simp only [oIx, e] at q
    | some d =>
      simp only [oIx, e] at q
      obtain ⟨a, vs, rfl, h1, rl1⟩ := tup_parts o1.rep
      obtain ⟨v, f1, f2, f3, ev, ef, r⟩ := rl1.atI e
      exact .inr (.inl ⟨a, vs, i, v, rfl, o2.int, s.seqT h1, ev, k F H _ d v f2 ((item_ans s o1 ef (fun b hb => hb) (fun n => n) r).src fun x hx => hx.imp_right False.elim) q⟩)
  · cases d2 <;> first | exact q.elim | skip
    rename_i m xs i
    cases e : L2.atI xs i with
    | none => simp only [oIx, e] at q
    | some d =>
      simp only [oIx, e] at q
      obtain ⟨a, vs, fi, rfl, h1, rl1, m1, n1⟩ := fz_lst s o1.rep
      obtain ⟨v, f1, f2, f3, ev, ef, r⟩ := rl1.atI e
      exact .inl ⟨a, vs, i, v, rfl, o2.int, h1, ev, k F H _ d v f2 ((item_ans s o1 ef m1 n1 r).src fun x hx => hx.imp_right False.elim) q⟩
section
variable {X : Cx} {K : PySem.W.Frag} {a b c e : Expr} {pos : Pos} {p p1 p2 p3 : Bool} {Ta Tb Tc Te : VT} {ta tb tc te : TE}
theorem ve_ix (hK : X.K = K) (ha : VE X K p1 a ta Ta) (hb : VE X K p2 b tb Tb) (hs : PlainIx b) : VE X K (p1 && p2) (.Subscript a b pos) (tOp (rIx K) ta tb) (T2 p2 Ta Tb oIx) := by
  subst hK
  exact ⟨pe_ix ix_seq ha.pe hb.pe hs, Snd.op2 ha.snd hb.snd lf_ix⟩
theorem ve_add (hK : X.K = K) (ha : VE X K p1 a ta Ta) (hb : VE X K p2 b tb Tb) : VE X K (p1 && p2) (.BinOp a .Add b pos) (tOp (rAdd K) ta tb) (T2 p2 Ta Tb oAdd) := by
  subst hK
  exact ve_op op_addA lf_add ha hb
theorem ve_sub (ha : VE X K p1 a ta Ta) (hb : VE X K p2 b tb Tb) : VE X K (p1 && p2) (.BinOp a .Sub b pos) (tOp (rI0 fun i j => .int (i - j)) ta tb) (T2 p2 Ta Tb (oI (fun _ _ => True) fun i j => i - j)) := ve_op op_sub lf_I0 ha hb
theorem ve_mulW (ha : VE X K p1 a ta Ta) (hb : VE X K p2 b tb Tb) : VE X K (p1 && p2) (.BinOp a .Mult b pos) (tOp (rI CMulW fun i j => .int (i * j)) ta tb) (T2 p2 Ta Tb (oI CMulW fun i j => i * j)) := ve_op op_mulW lf_I ha hb
theorem ve_fdiv (ha : VE X K p1 a ta Ta) (hb : VE X K p2 b tb Tb) : VE X K (p1 && p2) (.BinOp a .FloorDiv b pos) (tOp (rI CDivW fun i j => .int (i / j)) ta tb) (T2 p2 Ta Tb (oI CDivW fun i j => i / j)) := ve_op op_fdivW lf_I ha hb
theorem ve_mod (ha : VE X K p1 a ta Ta) (hb : VE X K p2 b tb Tb) : VE X K (p1 && p2) (.BinOp a .Mod b pos) (tOp (rI (fun _ j => 0 < j) fun i j => .int (i % j)) ta tb) (T2 p2 Ta Tb (oI (fun _ j => 0 < j) fun i j => i % j)) := ve_op op_mod lf_I ha hb
theorem ve_pow (ha : VE X K p1 a ta Ta) (hb : VE X K p2 b tb Tb) : VE X K (p1 && p2) (.BinOp a .Pow b pos) (tOp (rI CPow fun i j => .int (i ^ j.toNat)) ta tb) (T2 p2 Ta Tb (oI CPow fun i j => i ^ j.toNat)) := ve_op op_pow lf_I ha hb
def oNeg : O1 := fun _ d Q => match d with
  | .int i => Q true (.int (-i))
  | _ => False
theorem ve_neg (ha : VE X K p a ta Ta) : VE X K p (.UnaryOp .USub a pos) (tUn (rU fun i => .int (-i)) ta) (TU Ta oNeg) := ve_un un_neg (fun F H al1 d1 v1 q1 Q R s o1 q k => by
  cases d1 <;> first | exact q.elim | skip
  exact ⟨_, o1.int, k F H true _ _ [] (Ans.int s) q⟩) ha
/-! order of ints -/
theorem ve_lt (ha : VE X K p1 a ta Ta) (hb : VE X K p2 b tb Tb) : VE X K (p1 && p2) (.Compare a [.Lt] [b] pos) (tOp (rI0 fun i j => .bl (decide (i < j))) ta tb) (T2 p2 Ta Tb (oB fun i j => decide (i < j))) := ve_cmp op_lt lf_B0 ha hb (nomark _)
theorem ve_le (ha : VE X K p1 a ta Ta) (hb : VE X K p2 b tb Tb) : VE X K (p1 && p2) (.Compare a [.LtE] [b] pos) (tOp (rI0 fun i j => .bl (decide (i ≤ j))) ta tb) (T2 p2 Ta Tb (oB fun i j => decide (i ≤ j))) := ve_cmp op_le lf_B0 ha hb (nomark _)
theorem ve_gt (ha : VE X K p1 a ta Ta) (hb : VE X K p2 b tb Tb) : VE X K (p1 && p2) (.Compare a [.Gt] [b] pos) (tOp (rI0 fun i j => .bl (decide (j < i))) ta tb) (T2 p2 Ta Tb (oB fun i j => decide (j < i))) := ve_cmp op_gt lf_B0 ha hb (nomark _)
theorem ve_ge (ha : VE X K p1 a ta Ta) (hb : VE X K p2 b tb Tb) : VE X K (p1 && p2) (.Compare a [.GtE] [b] pos) (tOp (rI0 fun i j => .bl (decide (j ≤ i))) ta tb) (T2 p2 Ta Tb (oB fun i j => decide (j ≤ i))) := ve_cmp op_ge lf_B0 ha hb (nomark _)
theorem vq_lt (ha : VE X K p1 a ta Ta) (hb : VE X K p2 b tb Tb) : VQ X K (p1 && p2) (.Compare a [.Lt] [b] pos) (tTest (tOp (rI0 fun i j => .bl (decide (i < j))) ta tb)) (TQ (T2 p2 Ta Tb (oB fun i j => decide (i < j)))) := vq_cmp op_lt lf_B0 ha hb (nomark _)
theorem vq_le (ha : VE X K p1 a ta Ta) (hb : VE X K p2 b tb Tb) : VQ X K (p1 && p2) (.Compare a [.LtE] [b] pos) (tTest (tOp (rI0 fun i j => .bl (decide (i ≤ j))) ta tb)) (TQ (T2 p2 Ta Tb (oB fun i j => decide (i ≤ j)))) := vq_cmp op_le lf_B0 ha hb (nomark _)
theorem vq_gt (ha : VE X K p1 a ta Ta) (hb : VE X K p2 b tb Tb) : VQ X K (p1 && p2) (.Compare a [.Gt] [b] pos) (tTest (tOp (rI0 fun i j => .bl (decide (j < i))) ta tb)) (TQ (T2 p2 Ta Tb (oB fun i j => decide (j < i)))) := vq_cmp op_gt lf_B0 ha hb (nomark _)
theorem vq_ge (ha : VE X K p1 a ta Ta) (hb : VE X K p2 b tb Tb) : VQ X K (p1 && p2) (.Compare a [.GtE] [b] pos) (tTest (tOp (rI0 fun i j => .bl (decide (j ≤ i))) ta tb)) (TQ (T2 p2 Ta Tb (oB fun i j => decide (j ≤ i)))) := vq_cmp op_ge lf_B0 ha hb (nomark _)
/-! not, and, or -/
def TNotV (T : VT) : VT := fun S Q => T S fun S1 _ d => match d with
  | .bl b => Q S1 true (.bl (!b))
  | _ => False
theorem ve_not (ha : VE X K p a ta Ta) : VE X K p (.UnaryOp .Not a pos) (tNotV ta) (TNotV Ta) := ⟨pe_not ha.pe, fun F H σ S fp Q R g q k => by
  refine ha.snd F H σ S fp _ _ g q fun F1 H1 S1 fp1 al d v fq r q1 => ?_
  cases d <;> first | exact q1.elim | skip
  rename_i b
  have e := r.rep
  rw [Rep] at e
  refine ⟨b, e.1, k F1 H1 S1 fp1 true (.bl (!b)) _ [] ⟨r.good, by rw [Rep]; exact ⟨rfl, rfl⟩, r.step, fun _ => ⟨List.nodup_nil, fun a ha => absurd ha (by simp)⟩, r.pure⟩ q1⟩⟩
def TAndV (Ta Tb : VT) : VT := fun S Q => Ta S fun S1 _ d => match d with
  | .bl b => (b = true → Tb S1 Q) ∧ (b = false → Q S1 true (.bl false))
  | _ => False
def TOrV (Ta Tb : VT) : VT := fun S Q => Ta S fun S1 _ d => match d with
  | .bl b => (b = false → Tb S1 Q) ∧ (b = true → Q S1 true (.bl true))
  | _ => False
theorem Res.then {F H F1 H1 F2 H2 : Hp} {σ : L2.St} {S S1 S2 : SV} {fp fp1 fp2 fq : List Addr} {al : Bool} {d : D} {v : V} (st : Step fp F H F1 H1 fp1) (pu : p1 = true → S1 = S ∧ fp1 = fp ∧ Grow F H F1 H1) (r : Res K p2 F1 H1 σ S1 fp1 F2 H2 S2 fp2 al d v fq) : Res K (p1 && p2) F H σ S fp F2 H2 S2 fp2 al d v fq :=
  ⟨r.good, r.rep, st.trans r.step, fun z => ⟨(r.sep z).1, fun a ha => ⟨((r.sep z).2 a ha).1, ((r.sep z).2 a ha).2.1, st.back ((r.sep z).2 a ha).2.2⟩⟩, pureT pu r.pure⟩
theorem Res.weak {F H F1 H1 : Hp} {σ : L2.St} {S S1 : SV} {fp fp1 fq : List Addr} {al : Bool} {d : D} {v : V} (r : Res K p1 F H σ S fp F1 H1 S1 fp1 al d v fq) : Res K (p1 && p2) F H σ S fp F1 H1 S1 fp1 al d v fq :=
  ⟨r.good, r.rep, r.step, r.sep, fun z => r.pure (by rw [Bool.and_eq_true] at z; exact z.1)⟩
theorem ve_and {rest : List Expr} (ha : VE X K p1 a ta Ta) (hb : VE X K p2 (.BoolOp .And (b :: rest) pos) tb Tb) : VE X K (p1 && p2) (.BoolOp .And (a :: b :: rest) pos) (tAndV ta tb) (TAndV Ta Tb) := ⟨pe_and ha.pe hb.pe, fun F H σ S fp Q R g q k => by
  refine ha.snd F H σ S fp _ _ g q fun F1 H1 S1 fp1 al d v fq r q1 => ?_
  cases d <;> first | exact q1.elim | skip
  rename_i b
  have e := r.rep
  rw [Rep] at e
  refine ⟨b, e.1, ?_⟩
  cases b with
  | true => rw [if_pos rfl]; exact hb.snd F1 H1 σ S1 fp1 _ _ r.good (q1.1 rfl) fun F2 H2 S2 fp2 al d v fq r2 q2 => k F2 H2 S2 fp2 al d v fq (r2.then r.step r.pure) q2
  | false =>
    rw [if_neg Bool.false_ne_true]
    exact k F1 H1 S1 fp1 true _ _ [] ⟨r.good, by rw [Rep]; exact ⟨rfl, rfl⟩, r.step, fun _ => ⟨List.nodup_nil, fun a ha => absurd ha (by simp)⟩, fun z => r.pure (by rw [Bool.and_eq_true] at z; exact z.1)⟩ (q1.2 rfl)⟩
theorem ve_or {rest : List Expr} (ha : VE X K p1 a ta Ta) (hb : VE X K p2 (.BoolOp .Or (b :: rest) pos) tb Tb) : VE X K (p1 && p2) (.BoolOp .Or (a :: b :: rest) pos) (tOrV ta tb) (TOrV Ta Tb) := ⟨pe_or ha.pe hb.pe, fun F H σ S fp Q R g q k => by
  refine ha.snd F H σ S fp _ _ g q fun F1 H1 S1 fp1 al d v fq r q1 => ?_
  cases d <;> first | exact q1.elim | skip
  rename_i b
  have e := r.rep
  rw [Rep] at e
  refine ⟨b, e.1, ?_⟩
  cases b with
  | false => rw [if_neg Bool.false_ne_true]; exact hb.snd F1 H1 σ S1 fp1 _ _ r.good (q1.1 rfl) fun F2 H2 S2 fp2 al d v fq r2 q2 => k F2 H2 S2 fp2 al d v fq (r2.then r.step r.pure) q2
  | true =>
    rw [if_pos rfl]
    exact k F1 H1 S1 fp1 true _ _ [] ⟨r.good, by rw [Rep]; exact ⟨rfl, rfl⟩, r.step, fun _ => ⟨List.nodup_nil, fun a ha => absurd ha (by simp)⟩, fun z => r.pure (by rw [Bool.and_eq_true] at z; exact z.1)⟩ (q1.2 rfl)⟩
theorem ve_one {op : BoolOp} (ha : VE X K p a ta Ta) : VE X K p (.BoolOp op [a] pos) ta Ta := ⟨pe_one ha.pe, ha.snd⟩
/-! .. as tests -/
variable {Ua Ub : VB} {ua ub uc : TT}
def TNotB (T : VB) : VB := fun S Q => T S fun S1 b => Q S1 (!b)
theorem vq_not (ha : VQ X K p a ua Ua) : VQ X K p (.UnaryOp .Not a pos) (tNot ua) (TNotB Ua) := ⟨pt_not ha.pe, fun F H σ S fp Q R g q k => ha.snd F H σ S fp _ _ g q fun F1 H1 S1 fp1 b g1 st pu q1 => k F1 H1 S1 fp1 (!b) g1 st pu q1⟩
def TAndB (Ta Tb : VB) : VB := fun S Q => Ta S fun S1 b => (b = true → Tb S1 Q) ∧ (b = false → Q S1 false)
def TOrB (Ta Tb : VB) : VB := fun S Q => Ta S fun S1 b => (b = false → Tb S1 Q) ∧ (b = true → Q S1 true)
theorem vw_and1 (ha : VQ X K p a ua Ua) : VW X K p (.BoolOp .And [a] pos) ua Ua := ⟨pw_and1 ha.pe, ha.snd⟩
theorem vw_or1 (ha : VQ X K p a ua Ua) : VW X K p (.BoolOp .Or [a] pos) ua Ua := ⟨pw_or1 ha.pe, ha.snd⟩
theorem vw_and {rest : List Expr} (ha : VQ X K p1 a ua Ua) (hb : VW X K p2 (.BoolOp .And (b :: rest) pos) ub Ub) : VW X K (p1 && p2) (.BoolOp .And (a :: b :: rest) pos) (tAnd ua ub) (TAndB Ua Ub) := ⟨pw_and ha.pe hb.pe, fun F H σ S fp Q R g q k => by
  refine ha.snd F H σ S fp _ _ g q fun F1 H1 S1 fp1 b g1 st1 pu1 q1 => ?_
  cases b with
  | true => rw [if_pos rfl]; exact hb.snd F1 H1 σ S1 fp1 _ _ g1 (q1.1 rfl) fun F2 H2 S2 fp2 b g2 st2 pu2 q2 => k F2 H2 S2 fp2 b g2 (st1.trans st2) (pureT pu1 pu2) q2
  | false => rw [if_neg Bool.false_ne_true]; exact k F1 H1 S1 fp1 false g1 st1 (fun z => pu1 (by rw [Bool.and_eq_true] at z; exact z.1)) (q1.2 rfl)⟩
theorem vw_or {rest : List Expr} (ha : VQ X K p1 a ua Ua) (hb : VW X K p2 (.BoolOp .Or (b :: rest) pos) ub Ub) : VW X K (p1 && p2) (.BoolOp .Or (a :: b :: rest) pos) (tOr ua ub) (TOrB Ua Ub) := ⟨pw_or ha.pe hb.pe, fun F H σ S fp Q R g q k => by
  refine ha.snd F H σ S fp _ _ g q fun F1 H1 S1 fp1 b g1 st1 pu1 q1 => ?_
  cases b with
  | false => rw [if_neg Bool.false_ne_true]; exact hb.snd F1 H1 σ S1 fp1 _ _ g1 (q1.1 rfl) fun F2 H2 S2 fp2 b g2 st2 pu2 q2 => k F2 H2 S2 fp2 b g2 (st1.trans st2) (pureT pu1 pu2) q2
  | true => rw [if_pos rfl]; exact k F1 H1 S1 fp1 true g1 st1 (fun z => pu1 (by rw [Bool.and_eq_true] at z; exact z.1)) (q1.2 rfl)⟩
/-! two plain names at once -/
def TPar (i j : Nat) (T : VTA) : VTS := fun W S => T S fun S1 ks => match ks with
  | [.val a1 d1, .val a2 d2] => a1 = true ∧ a2 = true ∧ i < S1.length ∧ j < S1.length ∧ W.nx ((S1.set i d1).set j d2)
  | _ => False
theorem vs_par {pin : List Nat} {i j : Nat} {x y : Str} {es : TA} {T : VTA} {px py pt : Pos} {kt k2 pt2} (hpi : i ∉ pin) (hpj : j ∉ pin) (hij : i ≠ j) (hA : VA X K p [a, b] es T)
    (h : PA X [a, b] es → PS X (.Assign [.Tuple [.Name x px, .Name y py] kt pt] (.Tuple [a, b] k2 pt2) pos) (tPar i j es)) : VS X K pin (.Assign [.Tuple [.Name x px, .Name y py] kt pt] (.Tuple [a, b] k2 pt2) pos) (TPar i j T) := by
  refine ⟨_, h hA.pe, fun F H σ S fp V M g q l => ?_⟩
  refine hA.snd F H σ S fp _ _ g q fun F1 H1 S1 fp1 ks vs f r q1 => ?_
  unfold TPar at q1
  match ks, q1 with
  | [.val a1 d1, .val a2 d2], q1 =>
    obtain ⟨rfl, rfl, hi, hj, q1⟩ := q1
    obtain ⟨v, vs', fq, f', rfl, rv, rfl, h2⟩ := r.arg
    obtain ⟨u, vs'', fq2, f'', rfl, ru, rfl, h3⟩ := h2
    obtain ⟨rfl, rfl⟩ := h3
    simp only [if_true, List.append_nil] at r
    have nd := List.nodup_append.mp r.nd
    obtain ⟨fp2, g2, m2⟩ := r.good.put hi rv nd.1 (fun a ha => ⟨(r.sep a (List.mem_append_left _ ha)).1, (r.sep a (List.mem_append_left _ ha)).2.1⟩)
    have hz : ∀ a ∈ fq2, F1 a = none ∧ a ∉ fp2 := fun a ha => ⟨(r.sep a (List.mem_append_right _ ha)).1, fun hb => by
      rcases m2 a hb with y | y
      · exact nd.2.2 a y a ha rfl
      · exact (r.sep a (List.mem_append_right _ ha)).2.1 y⟩
    obtain ⟨fp3, g3, m3⟩ := g2.put (by rw [List.length_set]; exact hj) ru nd.2.1 hz
    refine ⟨v, u, rfl, l.nx F1 H1 _ _ fp3 g3 ⟨r.step.fsub, r.step.keep, r.step.fnew, fun a ha => ?_⟩ ((Pin.set hpi).trans (Pin.set hpj)) q1⟩
    rcases m3 a ha with y | y
    · exact (r.sep a (List.mem_append_right _ y)).2.2.1
    · rcases m2 a y with y | y
      · exact (r.sep a (List.mem_append_left _ y)).2.2.1
      · exact r.step.own a y
end
end VL

namespace VL
open PySem PySem.Spec PyProof.Rows L2

/-! ### == and != -/
mutual
def toPy : D → PyData
  | .unk => .dict [] | .non => .none | .bl b => .bool b | .int i => .int i | .str x => .str x | .exc _ _ => .dict []
  | .tup xs => .tuple (toPyL xs)
  | .lst _ xs => .list (toPyL xs)
  | .dK _ _ _ => .dict [] | .dT _ _ _ => .dict []
def toPyL : List D → List PyData
  | [] => []
  | d :: ds => toPy d :: toPyL ds
end
section
variable {K : PySem.W.Frag} {F H : Hp}
mutual
theorem Rep.dp (s : Sub F H) : ∀ {d : D} {v : V} {fp : List Addr}, Rep K F H d v fp → (toPy d).canLay0 = true → Dp K H v (toPy d)
  | .unk, _, _, h, e => by rw [toPy] at e; simp [PyData.canLay0] at e
  | .non, _, _, h, _ => by rw [Rep] at h; rw [toPy, h.1]; exact .non
  | .bl b, _, _, h, _ => by rw [Rep] at h; rw [toPy, h.1]; exact .bl b
  | .int i, _, _, h, _ => by rw [Rep] at h; rw [toPy, h.1]; exact .int i
  | .str x, _, _, h, _ => by rw [Rep] at h; rw [toPy, h.1]; exact .str x
  | .exc _ _, _, _, h, e => by rw [toPy] at e; simp [PyData.canLay0] at e
  | .tup ds, _, _, h, e => by
    rw [Rep] at h; rw [toPy] at e ⊢
    obtain ⟨a, vs, rfl, hs, h⟩ := h
    exact .tup (s.seqT hs.sq) (RepL.dp s h (by rw [PyData.canLay0] at e; exact e))
  | .lst m ds, _, _, h, e => by
    rw [Rep] at h; rw [toPy] at e ⊢
    obtain ⟨a, vs, fq, rfl, hl, ⟨m1, h1, rfl⟩ | ⟨m1, h1, rfl, rfl⟩⟩ := h
    · exact .lst (SqL.of h1) (RepL.dp s hl (by rw [PyData.canLay0] at e; exact e))
    · exact .lst (s.seqL h1) (RepL.dp s hl (by rw [PyData.canLay0] at e; exact e))
  | .dK m ks ds, _, _, h, e => by rw [toPy] at e; simp [PyData.canLay0] at e
  | .dT m ks ds, _, _, h, e => by rw [toPy] at e; simp [PyData.canLay0] at e
theorem RepL.dp (s : Sub F H) : ∀ {ds : List D} {vs : List V} {fp : List Addr}, RepL K F H ds vs fp → PyData.canLayAll0 (toPyL ds) = true → DpAll K H vs (toPyL ds)
  | [], _, _, h, _ => by rw [RepL] at h; rw [toPyL, h.1]; exact .nil
  | d :: ds, _, _, h, e => by
    rw [RepL] at h
    rw [toPyL, PyData.canLayAll0, Bool.and_eq_true] at e
    obtain ⟨v, vs', f1, f2, rfl, rfl, h1, h2⟩ := h
    rw [toPyL]
    exact .cons (Rep.dp s h1 e.1) (RepL.dp s h2 e.2)
end
end
def oEqB (neg : Bool) : O2 := fun _ d1 _ d2 Q => match d1, d2 with
  | .int i, .int j => Q true (.bl (neg != decide (i = j)))
  | .str i, .str j => Q true (.bl (neg != decide (i = j)))
  | .bl i, .bl j => Q true (.bl (neg != decide (i = j)))
  | .non, .non => Q true (.bl (neg != true))
  | .non, .int _ => Q true (.bl (neg != false))
  | .int _, .non => Q true (.bl (neg != false))
  | .int _, .str _ => Q true (.bl (neg != false))
  | .str _, .int _ => Q true (.bl (neg != false))
  | _, _ => SeqAt.shaped (toPy d1) = true ∧ SeqAt.shaped (toPy d2) = true ∧ Q true (.bl (neg != PyData.eqv (toPy d1) (toPy d2)))
def rEqA (K : PySem.W.Frag) : R2 := fun x y H Q => rEq x y H Q ∨ rEqD K x y H Q
def rNeA (K : PySem.W.Frag) : R2 := fun x y H Q => rNe x y H Q ∨ rNeD K x y H Q
theorem lf_eq {K : PySem.W.Frag} : Lf2 K (rEqA K) (oEqB false) := fun F H al1 d1 v1 q1 al2 d2 v2 q2 Q R s o1 o2 dj q k => by
  have deep : SeqAt.shaped (toPy d1) = true ∧ SeqAt.shaped (toPy d2) = true ∧ Q true (.bl (false != PyData.eqv (toPy d1) (toPy d2))) → rEqA K v1 v2 H R := fun h => by
    refine .inr ⟨_, _, o1.rep.dp s (SeqAt.canLay_of_shaped h.1), o2.rep.dp s (SeqAt.canLay_of_shaped h.2.1), h.1, h.2.1, ?_⟩
    exact k F H true _ _ [] (Ans.bl s) (by simpa using h.2.2)
  cases d1 <;> cases d2 <;> first
    | exact deep q
    | (refine .inl ⟨?_, ?_⟩
       · first | (rw [o1.int, o2.int]; rfl) | (rw [o1.str, o2.str]; rfl) | (rw [o1.bl, o2.bl]; rfl) | (rw [o1.non, o2.non]; rfl) | (rw [o1.non, o2.int]; rfl) | (rw [o1.int, o2.non]; rfl) | (rw [o1.int, o2.str]; rfl) | (rw [o1.str, o2.int]; rfl)
       · refine k F H true _ _ [] (Ans.bl s) ?_
         first
          | (rw [o1.int, o2.int]; simpa [oEqB] using q)
          | (rw [o1.str, o2.str]; simpa [oEqB] using q)
          | (rw [o1.bl, o2.bl]; simpa [oEqB] using q)
          | (rw [o1.non, o2.non]; simpa [oEqB] using q)
          | (rw [o1.non, o2.int]; simpa [oEqB] using q)
          | (rw [o1.int, o2.non]; simpa [oEqB] using q)
          | (rw [o1.int, o2.str]; simpa [oEqB] using q)
          | (rw [o1.str, o2.int]; simpa [oEqB] using q))
theorem lf_ne {K : PySem.W.Frag} : Lf2 K (rNeA K) (oEqB true) := fun F H al1 d1 v1 q1 al2 d2 v2 q2 Q R s o1 o2 dj q k => by
  have deep : SeqAt.shaped (toPy d1) = true ∧ SeqAt.shaped (toPy d2) = true ∧ Q true (.bl (true != PyData.eqv (toPy d1) (toPy d2))) → rNeA K v1 v2 H R := fun h => by
    refine .inr ⟨_, _, o1.rep.dp s (SeqAt.canLay_of_shaped h.1), o2.rep.dp s (SeqAt.canLay_of_shaped h.2.1), h.1, h.2.1, ?_⟩
    exact k F H true _ _ [] (Ans.bl s) (by simpa using h.2.2)
  cases d1 <;> cases d2 <;> first
    | exact deep q
    | (refine .inl ⟨?_, ?_⟩
       · first | (rw [o1.int, o2.int]; rfl) | (rw [o1.str, o2.str]; rfl) | (rw [o1.bl, o2.bl]; rfl) | (rw [o1.non, o2.non]; rfl) | (rw [o1.non, o2.int]; rfl) | (rw [o1.int, o2.non]; rfl) | (rw [o1.int, o2.str]; rfl) | (rw [o1.str, o2.int]; rfl)
       · refine k F H true _ _ [] (Ans.bl s) ?_
         first
          | (rw [o1.int, o2.int]; simpa [oEqB] using q)
          | (rw [o1.str, o2.str]; simpa [oEqB] using q)
          | (rw [o1.bl, o2.bl]; simpa [oEqB] using q)
          | (rw [o1.non, o2.non]; simpa [oEqB] using q)
          | (rw [o1.non, o2.int]; simpa [oEqB] using q)
          | (rw [o1.int, o2.non]; simpa [oEqB] using q)
          | (rw [o1.int, o2.str]; simpa [oEqB] using q)
          | (rw [o1.str, o2.int]; simpa [oEqB] using q))
section
variable {X : Cx} {K : PySem.W.Frag} {a b c e : Expr} {pos : Pos} {p p1 p2 p3 : Bool} {Ta Tb Tc Te : VT} {ta tb tc te : TE}
theorem ve_eq (hK : X.K = K) (hu : X.A.units + 64 < cLine) (ha : VE X K p1 a ta Ta) (hb : VE X K p2 b tb Tb) : VE X K (p1 && p2) (.Compare a [.Eq] [b] pos) (tOp (rEqA K) ta tb) (T2 p2 Ta Tb (oEqB false)) := by
  subst hK; exact ve_cmp (OpR.or op_eq (op_eqD hu)) lf_eq ha hb (nomark _)
theorem ve_ne (hK : X.K = K) (hu : X.A.units + 64 < cLine) (ha : VE X K p1 a ta Ta) (hb : VE X K p2 b tb Tb) : VE X K (p1 && p2) (.Compare a [.NotEq] [b] pos) (tOp (rNeA K) ta tb) (T2 p2 Ta Tb (oEqB true)) := by
  subst hK; exact ve_cmp (OpR.or op_ne (op_neD hu)) lf_ne ha hb (nomark _)
theorem vq_eq (hK : X.K = K) (hu : X.A.units + 64 < cLine) (ha : VE X K p1 a ta Ta) (hb : VE X K p2 b tb Tb) : VQ X K (p1 && p2) (.Compare a [.Eq] [b] pos) (tTest (tOp (rEqA K) ta tb)) (TQ (T2 p2 Ta Tb (oEqB false))) := by
  subst hK; exact vq_cmp (OpR.or op_eq (op_eqD hu)) lf_eq ha hb (nomark _)
theorem vq_ne (hK : X.K = K) (hu : X.A.units + 64 < cLine) (ha : VE X K p1 a ta Ta) (hb : VE X K p2 b tb Tb) : VQ X K (p1 && p2) (.Compare a [.NotEq] [b] pos) (tTest (tOp (rNeA K) ta tb)) (TQ (T2 p2 Ta Tb (oEqB true))) := by
  subst hK; exact vq_cmp (OpR.or op_ne (op_neD hu)) lf_ne ha hb (nomark _)
/-! is None -/
def oIsN (neg : Bool) : O1 := fun _ d Q => match d with
  | .unk => False
  | .non => Q true (.bl (neg != true))
  | _ => Q true (.bl (neg != false))
def D.isNon : D → Bool
  | .non => true
  | _ => false
theorem Rep.isN {F H : Hp} {d : D} {v : V} {fq : List Addr} (r : Rep K F H d v fq) (h : d ≠ .unk) : decide (v = .non) = d.isNon := by
  cases d
  · exact absurd rfl h
  · rw [Rep] at r; obtain ⟨rfl, _⟩ := r; rfl
  · rw [Rep] at r; obtain ⟨rfl, _⟩ := r; rfl
  · rw [Rep] at r; obtain ⟨rfl, _⟩ := r; rfl
  · rw [Rep] at r; obtain ⟨rfl, _⟩ := r; rfl
  · rw [Rep] at r; obtain ⟨rfl, _⟩ := r; rfl
  · rw [Rep] at r; obtain ⟨a, vs, rfl, _⟩ := r; rfl
  · rw [Rep] at r; obtain ⟨a, vs, _, rfl, _⟩ := r; rfl
  · rw [Rep] at r; obtain ⟨a, vs, _, rfl, _⟩ := r; rfl
  · rw [Rep] at r; obtain ⟨a, vs, _, rfl, _⟩ := r; rfl
theorem lf_isN : Lf1 K (fun x H Q => Q (.bl (decide (x = .non))) H) (oIsN false) := fun F H al1 d1 v1 q1 Q R s o1 q k => by
  show R (.bl (decide (v1 = .non))) H
  by_cases h : d1 = .unk
  · subst h; exact q.elim
  · rw [o1.rep.isN h]
    refine k F H true (.bl d1.isNon) _ [] (Ans.bl s) ?_
    cases d1 <;> first | exact absurd rfl h | exact q
theorem lf_notN : Lf1 K (fun x H Q => Q (.bl (!decide (x = .non))) H) (oIsN true) := fun F H al1 d1 v1 q1 Q R s o1 q k => by
  show R (.bl (!decide (v1 = .non))) H
  by_cases h : d1 = .unk
  · subst h; exact q.elim
  · rw [o1.rep.isN h]
    refine k F H true (.bl (!d1.isNon)) _ [] (Ans.bl s) ?_
    cases d1 <;> first | exact absurd rfl h | exact q
theorem ve_isN {j pos'} (ha : VE X K p a ta Ta) : VE X K p (.Compare a [.Is] [.Constant .none j pos'] pos) (tIsN ta) (TU Ta (oIsN false)) := ⟨pe_cmp (pc_isN ha.pe), Snd.un ha.snd lf_isN⟩
theorem ve_notN {j pos'} (ha : VE X K p a ta Ta) : VE X K p (.Compare a [.IsNot] [.Constant .none j pos'] pos) (tNotN ta) (TU Ta (oIsN true)) := ⟨pe_cmp (pc_notN ha.pe), Snd.un ha.snd lf_notN⟩
theorem vq_isN {j pos'} (ha : VE X K p a ta Ta) : VQ X K p (.Compare a [.Is] [.Constant .none j pos'] pos) (tB (tIsN ta)) (TQ (TU Ta (oIsN false))) := ⟨pt_cmp (pc_isN ha.pe), Snd.tst (Snd.un ha.snd lf_isN)⟩
theorem vq_notN {j pos'} (ha : VE X K p a ta Ta) : VQ X K p (.Compare a [.IsNot] [.Constant .none j pos'] pos) (tB (tNotN ta)) (TQ (TU Ta (oIsN true))) := ⟨pt_cmp (pc_notN ha.pe), Snd.tst (Snd.un ha.snd lf_notN)⟩

/-! ### built-in functions -/
def oAbs : O1 := fun _ d Q => match d with
  | .int i => Q true (.int (if i < 0 then -i else i))
  | _ => False
theorem lf_abs : Lf1 K (fun v H Q => ∃ i, [v] = [.int i] ∧ Q (.int (if i < 0 then -i else i)) H) oAbs := fun F H al1 d1 v1 q1 Q R s o1 q k => by
  cases d1 <;> first | exact q.elim | skip
  exact ⟨_, by rw [o1.int], k F H true _ _ [] (Ans.int s) q⟩
variable {P0 : Pos}
theorem ve_abs (hg : Gl X "abs") (hm : X.mg "abs" = none) (ha : VE X K p a ta Ta) (he : starEach [a] X.env = [(false, eval a X.env)] := by rfl) : VE X K p (.Call (.Name "abs" P0) [a] [] pos) (tUn (fun v H Q => ∃ i, [v] = [.int i] ∧ Q (.int (if i < 0 then -i else i)) H) ta) (TU Ta oAbs) :=
  ve_b1 call_abs lf_abs hg hm (by decide +kernel) ha (by decide) (by decide) he
def oMax2 : O2 := oI (fun _ _ => True) fun i j => if j > i then j else i
def oMin2 : O2 := oI (fun _ _ => True) fun i j => if j < i then j else i
theorem lf_mm (f : Int → Int → Int) : Lf2 K (fun v u H Q => ∃ i j, [v, u] = [.int i, .int j] ∧ Q (.int (f i j)) H) (oI (fun _ _ => True) f) := fun F H al1 d1 v1 q1 al2 d2 v2 q2 Q R s o1 o2 _ q k => by
  cases d1 <;> first | exact q.elim | skip
  cases d2 <;> first | exact q.elim | skip
  exact ⟨_, _, by rw [o1.int, o2.int], k F H true _ _ [] (Ans.int s) q.2⟩
theorem ve_max2 (hc : X.calm = true) (hg : Gl X "max") (hm : X.mg "max" = none) (ha : VE X K p1 a ta Ta) (hb : VE X K p2 b tb Tb) (he : starEach [a, b] X.env = (false, eval a X.env) :: starEach [b] X.env := by rfl) (he2 : starEach [b] X.env = [(false, eval b X.env)] := by rfl) (hpl : (backTo pos (starEach [b] X.env)).any (·.1) = false := by rfl) :
    VE X K (p1 && p2) (.Call (.Name "max" P0) [a, b] [] pos) (tOp (fun v u H Q => ∃ i j, [v, u] = [.int i, .int j] ∧ Q (.int (if j > i then j else i)) H) ta tb) (T2 p2 Ta Tb oMax2) :=
  ve_b2 (call_max2 hc) (lf_mm _) hg hm (by decide +kernel) ha hb (by decide) (by decide) he he2 hpl
theorem ve_min2 (hc : X.calm = true) (hg : Gl X "min") (hm : X.mg "min" = none) (ha : VE X K p1 a ta Ta) (hb : VE X K p2 b tb Tb) (he : starEach [a, b] X.env = (false, eval a X.env) :: starEach [b] X.env := by rfl) (he2 : starEach [b] X.env = [(false, eval b X.env)] := by rfl) (hpl : (backTo pos (starEach [b] X.env)).any (·.1) = false := by rfl) :
    VE X K (p1 && p2) (.Call (.Name "min" P0) [a, b] [] pos) (tOp (fun v u H Q => ∃ i j, [v, u] = [.int i, .int j] ∧ Q (.int (if j < i then j else i)) H) ta tb) (T2 p2 Ta Tb oMin2) :=
  ve_b2 (call_min2 hc) (lf_mm _) hg hm (by decide +kernel) ha hb (by decide) (by decide) he he2 hpl
/-- divmod: any dividend, a divisor of less than 9000 bits -/
def oDm : O2 := fun _ d1 _ d2 Q => match d1, d2 with
  | .int i, .int j => CDivW i j ∧ Q true (.tup [.int (i / j), .int (i % j)])
  | _, _ => False
theorem call_divmodN {X : Cx} : CallR X (.builtin "divmod") (fun xs H Q => ∃ i j, xs = [.int i, .int j] ∧ CDivP i j ∧ NewT H [.int (i / j), .int (i % j)] Q) := fun pins s σ H xs us Q I r h => by
  obtain ⟨i, j, rfl, ⟨h1, h2⟩, q⟩ := h
  obtain ⟨u, w, rfl, ⟨t, rfl⟩, ⟨t', rfl⟩⟩ := vals2 r
  refine divmod_int (by omega) ?_ (.inl h2)
  rw [Int.fdiv_eq_ediv_of_nonneg i (by omega), Int.fmod_eq_emod_of_nonneg i (by omega)]
  exact newTup (vs := [.int (i / j), .int (i % j)]) (us := [.int (i / j) s.toks, .int (i % j) (s.toks + 1)]) I (.cons ⟨_, rfl⟩ (.cons ⟨_, rfl⟩ .nil)) (by show 2 ≤ sizeLine; decide) (Nat.le_refl _) (fun b o e => Heap.get?_push_of_some _ e) (Heap.get?_push_size s.heap rfl) q
theorem lf_dm : Lf2 K (fun v u H Q => ∃ i j, [v, u] = [.int i, .int j] ∧ CDivP i j ∧ NewT H [.int (i / j), .int (i % j)] Q) oDm := fun F H al1 d1 v1 q1 al2 d2 v2 q2 Q R s o1 o2 _ q k => by
  cases d1 <;> first | exact q.elim | skip
  cases d2 <;> first | exact q.elim | skip
  rename_i i j
  refine ⟨i, j, by rw [o1.int, o2.int], ⟨q.1.1, PyProof.noPylong_of_log2 q.1.2⟩, fun x o hx hd => ?_⟩
  refine k _ _ true _ _ [] ⟨?_, Grow.fixed s hx, fun _ => ⟨List.nodup_nil, fun a ha => absurd ha (by simp)⟩⟩ q.2
  rw [Rep]
  refine ⟨x, _, rfl, .inl ⟨o, upd_same, hd⟩, ?_⟩
  rw [RepL]
  refine ⟨_, _, [], [], rfl, rfl, by rw [Rep]; exact ⟨rfl, rfl⟩, ?_⟩
  rw [RepL]
  exact ⟨_, _, [], [], rfl, rfl, by rw [Rep]; exact ⟨rfl, rfl⟩, by rw [RepL]; exact ⟨rfl, rfl⟩⟩
theorem ve_divmod (hg : Gl X "divmod") (hm : X.mg "divmod" = none) (ha : VE X K p1 a ta Ta) (hb : VE X K p2 b tb Tb) (he : starEach [a, b] X.env = (false, eval a X.env) :: starEach [b] X.env := by rfl) (he2 : starEach [b] X.env = [(false, eval b X.env)] := by rfl) (hpl : (backTo pos (starEach [b] X.env)).any (·.1) = false := by rfl) :
    VE X K (p1 && p2) (.Call (.Name "divmod" P0) [a, b] [] pos) (tOp (fun v u H Q => ∃ i j, [v, u] = [.int i, .int j] ∧ CDivP i j ∧ NewT H [.int (i / j), .int (i % j)] Q) ta tb) (T2 p2 Ta Tb oDm) :=
  ve_b2 call_divmodN lf_dm hg hm (by decide +kernel) ha hb (by decide) (by decide) he he2 hpl
/-- len -/
def oLen : O1 := fun _ d Q => match d with
  | .str x => x.length ≤ sizeLine ∧ Q true (.int x.length)
  | .tup xs => Q true (.int xs.length)
  | .lst _ xs => Q true (.int xs.length)
  | .dK _ ks _ => Q true (.int ks.length)
  | _ => False
def rLen (K : PySem.W.Frag) : List V → Hp → VK → Prop := fun xs H Q => (∃ x n, xs = [x] ∧ LenV K x H n ∧ Q (.int n) H) ∨ (∃ a kvs, xs = [V.ref a] ∧ Rd H a (.dK kvs) ∧ Q (.int kvs.length) H)
theorem lf_len : Lf1 K (fun v => rLen K [v]) oLen := fun F H al1 d1 v1 q1 Q R s o1 q k => by
  cases d1 <;> first | exact q.elim | skip
  · rename_i x
    exact .inl ⟨_, x.length, rfl, by rw [o1.str]; exact ⟨q.1, rfl⟩, k F H true _ _ [] (Ans.int s) q.2⟩
  · rename_i xs
    obtain ⟨a, vs, rfl, h1, rl⟩ := tup_parts o1.rep
    exact .inl ⟨_, vs.length, rfl, .inr ⟨vs, s.seqT h1, rfl⟩, by rw [← rl.len]; exact k F H true _ _ [] (Ans.int s) q⟩
  · rename_i m xs
    obtain ⟨a, vs, fi, rfl, h1, rl, _, _⟩ := fz_lst s o1.rep
    exact .inl ⟨_, vs.length, rfl, .inl ⟨vs, h1, rfl⟩, by rw [← rl.len]; exact k F H true _ _ [] (Ans.int s) q⟩
  · rename_i m ks ds
    have r := o1.rep
    rw [Rep] at r
    obtain ⟨a, vs, fi, rfl, el, rl, h⟩ := r
    have hr : Rd H a (.dK (ks.zip vs)) := h.elim (fun z => .inl z.2.1) fun z => s.rd z.2.1
    refine .inr ⟨a, _, rfl, hr, ?_⟩
    have : (ks.zip vs).length = ks.length := by rw [List.length_zip, ← rl.len, el]; omega
    rw [this]
    exact k F H true _ _ [] (Ans.int s) q
theorem call_lenR {X : Cx} : CallR X (.builtin "len") (fun xs H Q => ∃ a kvs, xs = [V.ref a] ∧ Rd H a (.dK kvs) ∧ Q (.int kvs.length) H) := by
  intro pins s σ H xs us Q I r h
  obtain ⟨a, kvs, rfl, ha, q⟩ := h
  obtain ⟨u, rfl, ru⟩ := vals1 r
  cases ru
  exact d_len I ha fun t s' I' => ⟨.int kvs.length, H, I', ⟨t, rfl⟩, q⟩
theorem ve_len (hK : X.K = K) (hg : Gl X "len") (hm : X.mg "len" = none) (ha : VE X K p a ta Ta) (he : starEach [a] X.env = [(false, eval a X.env)] := by rfl) : VE X K p (.Call (.Name "len" P0) [a] [] pos) (tUn (fun v => rLen K [v]) ta) (TU Ta oLen) := by
  subst hK
  exact ve_b1 (CallR.or call_len call_lenR) lf_len hg hm (by decide +kernel) ha (by decide) (by decide) he
/-! isinstance -/
inductive Ty where
  | int | bool | str | tuple | list | dict | none
  deriving DecidableEq
def Ty.nm : Ty → String
  | .int => "int" | .bool => "bool" | .str => "str" | .tuple => "tuple" | .list => "list" | .dict => "dict" | .none => "NoneType"
def Ty.sub (a b : Ty) : Bool := decide (a = b) || (decide (a = .bool) && decide (b = .int))
def D.ty : D → Option Ty
  | .unk => Option.none | .non => some .none | .bl _ => some .bool | .int _ => some .int | .str _ => some .str | .exc _ _ => Option.none | .tup _ => some .tuple | .lst _ _ => some .list | .dK _ _ _ => some .dict | .dT _ _ _ => some .dict
theorem kit_sub {K : PySem.W.Frag} (a b : Ty) (h : b ≠ .none) : PySem.W.kitOne K (.type a.nm) (.type b.nm) = some (a.sub b) := by
  apply kit_ty
  cases b <;> first | exact absurd rfl h | (cases a <;> decide +kernel)
theorem Rep.tyx {F H : Hp} {d : D} {v : V} {fq : List Addr} (s : Sub F H) (r : Rep K F H d v fq) {t : Ty} (h : d.ty = some t) : TyX K H v (.type t.nm) := by
  cases d <;> (simp only [D.ty] at h) <;> first | (cases h; done) | skip
  all_goals cases h
  · rw [Rep] at r; rw [r.1]; exact .base .non
  · rw [Rep] at r; rw [r.1]; exact .base (.bl _)
  · rw [Rep] at r; rw [r.1]; exact .base (.int _)
  · rw [Rep] at r; rw [r.1]; exact .base (.str _)
  · obtain ⟨a, vs, rfl, h1, rl⟩ := tup_parts r
    rcases h1 with (h1 | ⟨o, h1⟩) | ⟨o, its, n, h1, h2, _⟩
    · exact .base (.tup (s _ _ h1))
    · exact .fTuple (s _ _ h1)
    · exact .kTuple h1 h2
  · obtain ⟨a, vs, fi, rfl, h1, rl, _, _⟩ := fz_lst s r
    rcases h1 with (h1 | ⟨o, h1⟩) | ⟨o, its, n, h1, h2, _⟩
    · exact .base (.lst h1)
    · exact .base (.frz h1)
    · exact .kList h1 h2
  · rw [Rep] at r
    obtain ⟨a, vs, fi, rfl, el, rl, ⟨_, h, rfl⟩ | ⟨_, h, _⟩⟩ := r
    · exact .base (.dK h)
    · rcases s.rd h with h | ⟨o, h⟩
      · exact .base (.dK h)
      · exact .fDict h
  · rw [Rep] at r
    obtain ⟨a, vs, fi, rfl, el, rl, ⟨_, h, rfl⟩ | ⟨_, h, _⟩⟩ := r
    · exact .base (.dT h)
    · exact .base (.dT (s _ _ h))
def oIsi (b : Ty) : O1 := fun _ d Q => match d.ty with
  | some t => Q true (.bl (t.sub b))
  | Option.none => False
theorem lf_isi (b : Ty) (hb : b ≠ .none) : Lf1 K (fun v => rIsi K [v, .ty b.nm]) (oIsi b) := fun F H al1 d1 v1 q1 Q R s o1 q k => by
  unfold oIsi at q
  cases e : d1.ty with
  | none => rw [e] at q; exact q.elim
  | some t =>
    rw [e] at q
    exact ⟨_, _, _, _, t.sub b, rfl, .ty _, o1.rep.tyx s e, kit_sub t b hb, k F H true _ _ [] (Ans.bl s) q⟩
theorem ve_isi (hK : X.K = K) (b : Ty) {nx : Str} {pb : Pos} (hb : b ≠ .none) (hg : Gl X "isinstance") (hm : X.mg "isinstance" = none) (ha : VE X K p a ta Ta) (hp : PE X (.Name nx pb) (tC (.ty b.nm)))
    (he : starEach [a, .Name nx pb] X.env = (false, eval a X.env) :: starEach [.Name nx pb] X.env := by rfl) (he2 : starEach [.Name nx pb] X.env = [(false, eval (.Name nx pb) X.env)] := by rfl) (hpl : (backTo pos (starEach [.Name nx pb] X.env)).any (·.1) = false := by rfl) :
    VE X K p (.Call (.Name "isinstance" P0) [a, .Name nx pb] [] pos) (tUn (fun v => rIsi K [v, .ty b.nm]) ta) (TU Ta (oIsi b)) := by
  subst hK
  exact ⟨pe_callB call_isi hg hm (by decide +kernel) (pa_cons ha.pe (pa_cons hp pa_nil he2) he) (by decide) (by decide) he hpl, Snd.un ha.snd (lf_isi b hb)⟩
def oIsi2 (b c : Ty) : O1 := fun _ d Q => match d.ty with
  | some t => Q true (.bl (t.sub b || t.sub c))
  | Option.none => False
def rIsi2 (K : PySem.W.Frag) (b c : Ty) : V → Hp → VK → Prop := fun v H Q => [V.ty b.nm, V.ty c.nm].length ≤ sizeLine ∧ ∀ p, H p = none → rIsiT K [v, .ref p] (upd H p (.tup [.ty b.nm, .ty c.nm])) Q
theorem lf_isi2 (b c : Ty) (hb : b ≠ .none) (hc : c ≠ .none) : Lf1 K (rIsi2 K b c) (oIsi2 b c) := fun F H al1 d1 v1 q1 Q R s o1 q k => by
  unfold oIsi2 at q
  cases e : d1.ty with
  | none => rw [e] at q; exact q.elim
  | some t =>
    rw [e] at q
    refine ⟨by show 2 ≤ sizeLine; rw [sizeLine_eq]; omega, fun x hx => ?_⟩
    have gr : Grow F H F (upd H x (.tup [.ty b.nm, .ty c.nm])) := Grow.owned s hx
    have r2 := o1.rep.mono gr.fsub fun a _ o e => gr.hsub a o e
    refine ⟨_, x, _, _, [.type b.nm, .type c.nm], t.sub b || t.sub c, rfl, upd_same, .cons (.ty _) (.cons (.ty _) .nil), r2.tyx gr.sub e, ?_, k F _ true _ _ [] ⟨by rw [Rep]; exact ⟨rfl, rfl⟩, gr, fun _ => ⟨List.nodup_nil, fun a ha => absurd ha (by simp)⟩⟩ q⟩
    refine kitAny_cons (kit_sub t b hb) (fun z => ?_) (fun z => by rw [z]; rfl)
    refine kitAny_cons (kit_sub t c hc) (fun y => ?_) (fun y => by rw [y, Bool.or_true])
    rw [z, y]; exact kitAny_nil
theorem ve_isi2 (hK : X.K = K) (b c : Ty) {nx ny : Str} {pb pc pt : Pos} {kt} (hb : b ≠ .none) (hc : c ≠ .none) (hg : Gl X "isinstance") (hm : X.mg "isinstance" = none) (ha : VE X K p a ta Ta) (hp : PE X (.Name nx pb) (tC (.ty b.nm))) (hq : PE X (.Name ny pc) (tC (.ty c.nm)))
    (he : starEach [a, .Tuple [.Name nx pb, .Name ny pc] kt pt] X.env = (false, eval a X.env) :: starEach [.Tuple [.Name nx pb, .Name ny pc] kt pt] X.env := by rfl) (he2 : starEach [.Tuple [.Name nx pb, .Name ny pc] kt pt] X.env = [(false, eval (.Tuple [.Name nx pb, .Name ny pc] kt pt) X.env)] := by rfl) (hpl : (backTo pos (starEach [.Tuple [.Name nx pb, .Name ny pc] kt pt] X.env)).any (·.1) = false := by rfl)
    (h1 : starEach [.Name nx pb, .Name ny pc] X.env = (false, eval (.Name nx pb) X.env) :: starEach [.Name ny pc] X.env := by rfl) (h2 : starEach [.Name ny pc] X.env = [(false, eval (.Name ny pc) X.env)] := by rfl) :
    VE X K p (.Call (.Name "isinstance" P0) [a, .Tuple [.Name nx pb, .Name ny pc] kt pt] [] pos) (tUn (rIsi2 K b c) ta) (TU Ta (oIsi2 b c)) := by
  subst hK
  exact ⟨pe_callB call_isiT hg hm (by decide +kernel) (pa_cons ha.pe (pa_cons (pe_tup (pa_cons hp (pa_cons hq pa_nil h2) h1)) pa_nil he2) he) (by decide) (by decide) he hpl, Snd.un ha.snd (lf_isi2 b c hb hc)⟩
/-! constants of the module -/
theorem ve_glob {x : Str} {v : V} {d : D} {u : Value} (h : PE X (.Name x pos) (tC v)) (r : ∀ F H, Rep K F H d v []) : VE X K true (.Name x pos) (tC v) (TC d) := ve_c h r
theorem rep_int {i : Int} : ∀ F H, Rep K F H (.int i) (.int i) [] := fun _ _ => by rw [Rep]; exact ⟨rfl, rfl⟩
theorem rep_str {i : Str} : ∀ F H, Rep K F H (.str i) (.str i) [] := fun _ _ => by rw [Rep]; exact ⟨rfl, rfl⟩

/-! ### slices -/
def SndO (K : PySem.W.Frag) (p : Bool) (t : TO) (T : SV → (SV → Option Int → Prop) → Prop) : Prop := ∀ (F H : Hp) (σ : L2.St) (S : SV) (fp : List Addr) (Q : SV → Option Int → Prop) (R : Option Int → Hp → Prop), Good K F H σ S fp → T S Q →
  (∀ F' H' S' fp' o, Good K F' H' σ S' fp' → Step fp F H F' H' fp' → (p = true → S' = S ∧ fp' = fp ∧ Grow F H F' H') → Q S' o → R o H') → t σ H R
structure VO (X : Cx) (K : PySem.W.Frag) (p : Bool) (e : Option Expr) (t : TO) (T : SV → (SV → Option Int → Prop) → Prop) : Prop where
  pe : PO X e t
  snd : SndO K p t T
theorem vo_none : VO X K true none tNoPart (fun S Q => Q S none) := ⟨po_none, fun F H σ S fp Q R g q k => k F H S fp none g Step.refl (fun _ => ⟨rfl, rfl, Grow.refl g.sub⟩) q⟩
def TPart (T : VT) : SV → (SV → Option Int → Prop) → Prop := fun S Q => T S fun S1 _ d => match d with
  | .int i => Q S1 (some i)
  | _ => False
theorem vo_some (h : VE X K p a ta Ta) : VO X K p (some a) (tPart ta) (TPart Ta) := ⟨po_some h.pe, fun F H σ S fp Q R g q k => by
  refine h.snd F H σ S fp _ _ g q fun F1 H1 S1 fp1 al d v fq r q1 => ?_
  cases d <;> first | exact q1.elim | skip
  rename_i i
  have e := r.rep
  rw [Rep] at e
  exact ⟨i, e.1, k F1 H1 S1 fp1 (some i) r.good r.step r.pure q1⟩⟩
def cutD {α : Type} (xs : List α) (lo hi : Option Int) : List α := (xs.drop (HT.sIx xs.length 0 lo)).take (HT.sIx xs.length xs.length hi - HT.sIx xs.length 0 lo)
def rSlN (K : PySem.W.Frag) : V → Option Int → Option Int → Hp → VK → Prop := fun x lo hi H Q => ∃ a xs, x = .ref a ∧ SqT K H a xs ∧
  (HT.sIx xs.length 0 lo = 0 ∧ HT.sIx xs.length xs.length hi = xs.length → Q (.ref a) H) ∧ (¬ (HT.sIx xs.length 0 lo = 0 ∧ HT.sIx xs.length xs.length hi = xs.length) → NewT H (cutV xs lo hi) Q)
theorem sl_tupN {X : Cx} : SlR X (rSlN X.K) := fun pins s σ H x v vl vu lo hi sl Q I rx hs pl pu h => by
  obtain ⟨a, xs, rfl, hx, q1, q2⟩ := h
  cases rx
  obtain ⟨its, r, ht, hz⟩ := I.tuple hx
  have hlen : its.toArray.size = xs.length := by rw [List.size_toArray]; exact r.length.symm
  refine ⟨"tuple", _, PyProof.Rows.slot_tuple_getitem.lookup, ht.typeIs, ?_⟩
  by_cases hw : HT.sIx xs.length 0 lo = 0 ∧ HT.sIx xs.length xs.length hi = xs.length
  · exact getItem_tuple_whole ht hs pl pu (by rw [hlen]; exact hw) ⟨.ref a, H, I, rfl, q1 hw⟩
  · refine HT.getItem_tuple_cut ht hs pl pu (by rw [hlen]; exact hw) ?_ (by rw [hlen]; exact hz)
    rw [hlen]
    exact newTup (t' := s.toks) I ((r.drop (HT.sIx xs.length 0 lo)).take (HT.sIx xs.length xs.length hi - HT.sIx xs.length 0 lo)) (Nat.le_trans (cutV_length xs lo hi) hz) (Nat.le_refl _) (fun b ob e => Heap.get?_push_of_some _ e) (Heap.get?_push_size _ rfl) (q2 hw)
def rSlA3 (K : PySem.W.Frag) : V → Option Int → Option Int → Hp → VK → Prop := fun x lo hi H Q => rSlL K x lo hi H Q ∨ rSlN K x lo hi H Q ∨ rSlS x lo hi H Q
def oSl (lo hi : Option Int) : O1 := fun a1 d Q => match d with
  | .lst _ xs => Q (a1 || immL xs) (.lst true (cutD xs lo hi))
  | .tup xs => Q (a1 || immL xs) (.tup (cutD xs lo hi))
  | .str z => z.length ≤ sizeLine ∧ Q true (.str (cutS z lo hi))
  | _ => False
theorem RepL.take {F H : Hp} : ∀ {ds : List D} {vs : List V} {fp : List Addr} (k : Nat), RepL K F H ds vs fp → ∃ f1 f2, fp = f1 ++ f2 ∧ RepL K F H (ds.take k) (vs.take k) f1 ∧ RepL K F H (ds.drop k) (vs.drop k) f2
  | ds, vs, fp, 0, r => ⟨[], fp, rfl, by rw [List.take_zero, List.take_zero, RepL]; exact ⟨rfl, rfl⟩, by rw [List.drop_zero, List.drop_zero]; exact r⟩
  | [], vs, fp, k + 1, r => by
    rw [RepL] at r
    obtain ⟨rfl, rfl⟩ := r
    exact ⟨[], [], rfl, by rw [List.take_nil, List.take_nil, RepL]; exact ⟨rfl, rfl⟩, by rw [List.drop_nil, List.drop_nil, RepL]; exact ⟨rfl, rfl⟩⟩
  | d :: ds, vs, fp, k + 1, r => by
    rw [RepL] at r
    obtain ⟨v, vs', g1, g2, rfl, rfl, r1, r2⟩ := r
    obtain ⟨f1, f2, rfl, h1, h2⟩ := RepL.take k r2
    refine ⟨g1 ++ f1, f2, by simp, ?_, by rw [List.drop_succ_cons, List.drop_succ_cons]; exact h2⟩
    rw [List.take_succ_cons, List.take_succ_cons, RepL]
    exact ⟨v, _, g1, f1, rfl, rfl, r1, h1⟩
theorem RepL.cut {F H : Hp} {ds : List D} {vs : List V} {fp : List Addr} (lo hi : Option Int) (r : RepL K F H ds vs fp) : ∃ f1 f2 f3, fp = f1 ++ (f2 ++ f3) ∧ RepL K F H (cutD ds lo hi) (cutV vs lo hi) f2 := by
  unfold cutD cutV
  rw [r.len]
  obtain ⟨f1, g, rfl, _, r1⟩ := r.take (HT.sIx vs.length 0 lo)
  obtain ⟨f2, f3, rfl, r2, _⟩ := r1.take (HT.sIx vs.length vs.length hi - HT.sIx vs.length 0 lo)
  exact ⟨f1, f2, f3, rfl, r2⟩
theorem cut_all {α : Type} {xs : List α} {lo hi : Option Int} (h : HT.sIx xs.length 0 lo = 0 ∧ HT.sIx xs.length xs.length hi = xs.length) : cutD xs lo hi = xs := by
  unfold cutD
  rw [h.1, h.2, List.drop_zero, Nat.sub_zero, List.take_length]
theorem lf_sl (lo hi : Option Int) : Lf1 K (fun v => rSlA3 K v lo hi) (oSl lo hi) := fun F H al1 d1 v1 q1 Q R s o1 q k => by
  cases d1 <;> first | exact q.elim | skip
  · rename_i z
    exact .inr (.inr ⟨z, o1.str, q.1, k F H true _ _ [] (Ans.str s) q.2⟩)
  · rename_i xs
    obtain ⟨a, vs, rfl, h1, rl⟩ := tup_partsN o1.rep
    obtain ⟨f1, f2, f3, ef, r2⟩ := rl.cut lo hi
    have src : ∀ b ∈ f2, b ∈ q1 := fun b hb => by rw [ef]; simp [hb]
    have key : ∀ {F' H' : Hp} {x : Addr}, Grow F H F' H' → TupN K F' x (cutV vs lo hi) → R (.ref x) H' := fun {F' H' x} gr hx => by
      have ra : Rep K F' H' (.tup (cutD xs lo hi)) (.ref x) f2 := by
        rw [Rep]; exact ⟨x, _, rfl, hx, r2.mono gr.fsub fun a _ o e => gr.hsub a o e⟩
      refine k F' H' _ _ _ f2 ⟨ra, gr, fun c => ?_⟩ q
      rw [Bool.or_eq_true] at c
      rcases c with c | c
      · obtain ⟨nd, z⟩ := o1.sep c
        rw [ef] at nd
        refine ⟨(List.nodup_append.mp (List.nodup_append.mp nd).2.1).1, fun b hb => ?_⟩
        obtain ⟨o, e, _⟩ := r2.mu b hb
        exact ⟨gr.dis (z b (src b hb)) e, .inr ⟨c, src b hb⟩⟩
      · have := rl.ofImm c
        have : f2 = [] := by
          cases f2 with
          | nil => rfl
          | cons x r => rw [this] at src; exact absurd (src x (by simp)) (by simp)
        subst this
        exact ⟨List.nodup_nil, fun b hb => absurd hb (by simp)⟩
    refine .inr (.inl ⟨a, vs, rfl, s.seqT h1.sq, fun z => ?_, fun _ x o hx hd => key (Grow.fixed s hx) (.inl ⟨o, upd_same, hd⟩)⟩)
    refine key (Grow.refl s) ?_
    have : cutV vs lo hi = vs := by unfold cutV; exact cut_all z
    rw [this]
    exact h1
  · rename_i m xs
    obtain ⟨a, vs, fi, rfl, h1, rl, m1, n1⟩ := fz_lst s o1.rep
    obtain ⟨f1, f2, f3, ef, r2⟩ := rl.cut lo hi
    have src : ∀ b ∈ f2, b ∈ q1 := fun b hb => m1 b (by rw [ef]; simp [hb])
    refine .inl ⟨a, vs, rfl, h1, fun x hx => ?_⟩
    have gr : Grow F H F (upd H x (.lst (cutV vs lo hi))) := Grow.owned s hx
    have ra : Rep K F (upd H x (.lst (cutV vs lo hi))) (.lst true (cutD xs lo hi)) (.ref x) (x :: f2) := by
      rw [Rep]; exact ⟨x, _, f2, rfl, r2.mono gr.fsub fun a _ o e => gr.hsub a o e, .inl ⟨rfl, upd_same, rfl⟩⟩
    refine k F _ _ _ _ _ ⟨ra, gr, fun c => ?_⟩ q
    have both : f2.Nodup ∧ ∀ b ∈ f2, F b = none ∧ (al1 = true ∧ b ∈ q1) := by
      rw [Bool.or_eq_true] at c
      rcases c with c | c
      · obtain ⟨nd, z⟩ := o1.sep c
        have nf := n1 nd
        rw [ef] at nf
        exact ⟨(List.nodup_append.mp (List.nodup_append.mp nf).2.1).1, fun b hb => ⟨z b (src b hb), c, src b hb⟩⟩
      · have e0 := rl.ofImm c
        have : f2 = [] := by
          rw [e0] at ef
          have := congrArg List.length ef
          simp only [List.length_nil, List.length_append] at this
          exact List.length_eq_zero_iff.mp (by omega)
        subst this
        exact ⟨List.nodup_nil, fun b hb => absurd hb (by simp)⟩
    refine ⟨List.nodup_cons.mpr ⟨fun hm => ?_, both.1⟩, fun b hb => ?_⟩
    · obtain ⟨o, e, _⟩ := r2.mu x hm
      rw [hx] at e; cases e
    · rcases List.mem_cons.mp hb with rfl | hb
      · exact ⟨s.none hx, .inl hx⟩
      · exact ⟨(both.2 b hb).1, .inr (both.2 b hb).2⟩
def TSl (p2 p3 : Bool) (T : VT) (Tl Th : SV → (SV → Option Int → Prop) → Prop) : VT := fun S Q => T S fun S1 al d => Tl S1 fun S2 lo => Th S2 fun S3 hi => ((p2 && p3) || al || d.scal) = true ∧ oSl lo hi al d (Q S3)
theorem sub_res {F H F1 H1 F2 H2 : Hp} {σ : L2.St} {S S1 S2 : SV} {fp fp1 fp2 fq1 : List Addr} {al1 : Bool} {d1 : D} {v1 : V} (r1 : Res K p1 F H σ S fp F1 H1 S1 fp1 al1 d1 v1 fq1) (g2 : Good K F2 H2 σ S2 fp2) (st2 : Step fp1 F1 H1 F2 H2 fp2) (pu2 : p2 = true → S2 = S1 ∧ fp2 = fp1 ∧ Grow F1 H1 F2 H2) (c : (p2 || al1 || d1.scal) = true) :
    Res K (p1 && p2) F H σ S fp F2 H2 S2 fp2 al1 d1 v1 fq1 := by
  obtain ⟨m1, m2⟩ := r1.carry' st2 pu2 c
  exact ⟨g2, m1, r1.step.trans st2, fun z => ⟨(m2 z).1, fun a ha => ⟨((m2 z).2 a ha).1, ((m2 z).2 a ha).2.1, ((m2 z).2 a ha).2.2.1⟩⟩, pureT r1.pure pu2⟩
theorem ve_sl {lo hi : Option Expr} {tl th : TO} {Tl Th : SV → (SV → Option Int → Prop) → Prop} {pp : Pos} (hK : X.K = K) (ha : VE X K p1 a ta Ta) (hl : VO X K p2 lo tl Tl) (hh : VO X K p3 hi th Th) : VE X K (p1 && (p2 && p3)) (.Subscript a (.Slice lo hi none pp) pos) (tSl (rSlA3 K) ta tl th) (TSl p2 p3 Ta Tl Th) := by
  subst hK
  refine ⟨pe_slice (SlR.or sl_list (SlR.or sl_tupN sl_str)) ha.pe hl.pe hh.pe, fun F H σ S fp Q R g q k => ?_⟩
  refine ha.snd F H σ S fp _ _ g q fun F1 H1 S1 fp1 al1 d1 v1 fq1 r1 q1 => ?_
  refine hl.snd F1 H1 σ S1 fp1 _ _ r1.good q1 fun F2 H2 S2 fp2 lo g2 st2 pu2 q2 => ?_
  refine hh.snd F2 H2 σ S2 fp2 _ _ g2 q2 fun F3 H3 S3 fp3 hi g3 st3 pu3 q3 => ?_
  obtain ⟨c, q3⟩ := q3
  have r3 := sub_res (p1 := p1) (p2 := p2 && p3) r1 g3 (st2.trans st3) (pureT pu2 pu3) c
  -- the operation itself
  refine lf_sl lo hi F3 H3 al1 d1 v1 fq1 _ _ g3.sub ⟨r3.rep, fun z => ⟨(r3.sep z).1, fun a ha => ((r3.sep z).2 a ha).1⟩⟩ q3 fun F4 H4 al d v fq an q4 => ?_
  refine k F4 H4 S3 fp3 al d v fq ⟨g3.grow an.grow, an.rep, r3.step.trans an.grow.step, fun z => ⟨(an.sep z).1, fun a ha => ⟨((an.sep z).2 a ha).1, ?_⟩⟩, fun z => ?_⟩ q4
  · rcases ((an.sep z).2 a ha).2 with y | ⟨y1, y2⟩
    · refine ⟨fun hb => ?_, r3.step.back (.inr y)⟩
      obtain ⟨o, e, _⟩ := g3.rep.mu a hb
      rw [e] at y; cases y
    · exact ((r3.sep y1).2 a y2).2
  · obtain ⟨a1, a2, a3⟩ := r3.pure z
    exact ⟨a1, a2, a3.trans an.grow⟩
end
end VL

namespace VL
open PySem PySem.Spec PyProof.Rows L2

/-! ### ways into a tree -/
inductive Sp1 where
  | ix (j : Nat) | key (k : Key)
/-- at which place a key stands -/
def kix (k : Key) (ks : List Key) : Option Nat := ks.findIdx? fun x => decide (x = k)
def getP : D → List Sp1 → Option D
  | d, [] => some d
  | .lst true xs, .ix j :: ps => match xs[j]? with
    | some c => getP c ps
    | none => none
  | .tup xs, .ix j :: ps => match xs[j]? with
    | some c => getP c ps
    | none => none
  | .dK true ks ds, .key k :: ps => match kix k ks with
    | some j => match ds[j]? with
      | some c => getP c ps
      | none => none
    | none => none
  | _, _ => none
def setP : D → List Sp1 → D → D
  | _, [], c => c
  | .lst true xs, .ix j :: ps, c => .lst true (xs.set j (match xs[j]? with | some d => setP d ps c | none => c))
  | .tup xs, .ix j :: ps, c => .tup (xs.set j (match xs[j]? with | some d => setP d ps c | none => c))
  | .dK true ks ds, .key k :: ps, c => match kix k ks with
    | some j => .dK true ks (ds.set j (match ds[j]? with | some d => setP d ps c | none => c))
    | none => .dK true ks ds
  | d, _, _ => d
section
variable {K : PySem.W.Frag} {F F' G H H' : Hp}
theorem RepL.lens : ∀ {ds : List D} {vs : List V} {fp : List Addr} {j : Nat} {d : D}, RepL K F H ds vs fp → ds[j]? = some d →
    ∃ v f1 f2 f3, vs[j]? = some v ∧ fp = f1 ++ (f2 ++ f3) ∧ Rep K F H d v f2 ∧
      ∀ {F' H' : Hp} {d' : D} {v' : V} {f2' : List Addr}, Sub F F' → (∀ a ∈ f1 ++ f3, ∀ o, H a = some o → H' a = some o) → Rep K F' H' d' v' f2' → RepL K F' H' (ds.set j d') (vs.set j v') (f1 ++ (f2' ++ f3))
  | [], _, _, _, _, _, e => by simp at e
  | d :: ds, _, _, 0, _, h, e => by
    rw [RepL] at h
    obtain ⟨v, vs', f1, f2, rfl, rfl, h1, h2⟩ := h
    simp at e; subst e
    refine ⟨v, [], f1, f2, rfl, rfl, h1, fun hF k r => ?_⟩
    rw [List.set_cons_zero, List.set_cons_zero, RepL]
    exact ⟨_, vs', _, f2, rfl, rfl, r, h2.mono hF (fun a ha => k a (by simpa using ha))⟩
  | d :: ds, _, _, j + 1, _, h, e => by
    rw [RepL] at h
    obtain ⟨v, vs', f1, f2, rfl, rfl, h1, h2⟩ := h
    simp at e
    obtain ⟨v', g1, g2, g3, e1, rfl, r, pt⟩ := RepL.lens h2 e
    refine ⟨v', f1 ++ g1, g2, g3, by simpa using e1, by simp, r, fun hF k r => ?_⟩
    rw [List.set_cons_succ, List.set_cons_succ, RepL]
    refine ⟨v, _, f1, _, rfl, by simp, h1.mono hF (fun a ha => k a (by simp [ha])), pt hF (fun a ha => k a ?_) r⟩
    rcases List.mem_append.mp ha with ha | ha <;> simp [ha]
theorem zip_fst {α β : Type} : ∀ {xs : List α} {ys : List β}, xs.length = ys.length → (xs.zip ys).map (·.1) = xs
  | [], ys, _ => by simp
  | x :: xs, [], h => by simp at h
  | x :: xs, y :: ys, h => by simp at h; simp [zip_fst h]
theorem zip_snd {α β : Type} : ∀ {xs : List α} {ys : List β}, xs.length = ys.length → (xs.zip ys).map (·.2) = ys
  | [], ys, h => by cases ys <;> simp at h ⊢
  | x :: xs, [], h => by simp at h
  | x :: xs, y :: ys, h => by simp at h; simp [zip_snd h]
theorem getP_nil {d : D} : getP d [] = some d := by cases d <;> simp [getP]
theorem setP_nil {d c : D} : setP d [] c = c := by cases d <;> rfl
theorem getP_app : ∀ {ps qs : List Sp1} {d : D}, getP d (ps ++ qs) = (match getP d ps with | some c => getP c qs | none => none)
  | [], qs, d => by rw [getP_nil]; rfl
  | s :: ps, qs, d => by
    cases d <;> cases s <;> first | (simp [getP]; done) | skip
    · rename_i xs j
      simp only [List.cons_append, getP]
      cases xs[j]? with
      | none => rfl
      | some c => exact getP_app
    · rename_i m xs j
      cases m with
      | false => simp [getP]
      | true =>
      simp only [List.cons_append, getP]
      cases xs[j]? with
      | none => rfl
      | some c => exact getP_app
    · rename_i m ks ds k
      cases m with
      | false => simp [getP]
      | true =>
      simp only [List.cons_append, getP]
      cases kix k ks with
      | none => rfl
      | some j =>
      simp only
      cases ds[j]? with
      | none => rfl
      | some c => exact getP_app
theorem setP_app : ∀ {ps qs : List Sp1} {d e c : D}, getP d ps = some e → setP d (ps ++ qs) c = setP d ps (setP e qs c)
  | [], qs, d, e, c, h => by rw [getP_nil] at h; cases h; rw [setP_nil]; rfl
  | s :: ps, qs, d, e, c, h => by
    cases d <;> cases s <;> first | (simp [getP] at h; done) | skip
    · rename_i xs j
      simp only [getP] at h
      simp only [List.cons_append, setP]
      cases ej : xs[j]? with
      | none => rw [ej] at h; cases h
      | some b => rw [ej] at h; simp only at h ⊢; rw [setP_app h]
    · rename_i m xs j
      cases m with
      | false => simp [getP] at h
      | true =>
      simp only [getP] at h
      simp only [List.cons_append, setP]
      cases ej : xs[j]? with
      | none => rw [ej] at h; cases h
      | some b => rw [ej] at h; simp only at h ⊢; rw [setP_app h]
    · rename_i m ks ds k
      cases m with
      | false => simp [getP] at h
      | true =>
      simp only [getP] at h
      simp only [List.cons_append, setP]
      cases ek : kix k ks with
      | none => simp [ek] at h
      | some j =>
      rw [ek] at h
      simp only at h ⊢
      cases ej : ds[j]? with
      | none => rw [ej] at h; cases h
      | some b => rw [ej] at h; simp only at h ⊢; rw [setP_app h]
/-- a part of a thing: what stands there, and what may stand there -/
def Part (K : PySem.W.Frag) (F H : Hp) (d : D) (v : V) (fp : List Addr) (b : D) (u : V) (put : D → D) : Prop :=
  ∃ f1 f2 f3, fp = f1 ++ (f2 ++ f3) ∧ Rep K F H b u f2 ∧ ∀ {F' H' : Hp} {c' : D} {f2' : List Addr}, Sub F F' → (∀ a ∈ f1 ++ f3, ∀ o, H a = some o → H' a = some o) → Rep K F' H' c' u f2' → Rep K F' H' (put c') v (f1 ++ (f2' ++ f3))
theorem part_lst {xs : List D} {v : V} {fp : List Addr} {j : Nat} {b : D} (r : Rep K F H (.lst true xs) v fp) (ej : xs[j]? = some b) : ∃ a vs u, v = .ref a ∧ H a = some (.lst vs) ∧ vs.length = xs.length ∧ vs[j]? = some u ∧ Part K F H (.lst true xs) v fp b u fun c => .lst true (xs.set j c) := by
  rw [Rep] at r
  obtain ⟨a, vs, fq, rfl, rl, ⟨_, ha, rfl⟩ | ⟨z, _⟩⟩ := r
  · obtain ⟨u, g1, g2, g3, e1, rfl, rb, pt⟩ := rl.lens ej
    refine ⟨a, vs, u, rfl, ha, rl.len.symm, e1, a :: g1, g2, g3, by simp, rb, fun {F' H' c' f2'} hF kp rn => ?_⟩
    have hout := pt hF (fun x hx => kp x (by rcases List.mem_append.mp hx with y | y <;> simp [y])) rn
    rw [set_self e1] at hout
    rw [Rep]
    exact ⟨a, vs, _, rfl, hout, .inl ⟨rfl, kp a (by simp) _ ha, by simp⟩⟩
  · cases z
theorem part_tup {xs : List D} {v : V} {fp : List Addr} {j : Nat} {b : D} (r : Rep K F H (.tup xs) v fp) (ej : xs[j]? = some b) : ∃ a vs u, v = .ref a ∧ TupN K F a vs ∧ vs.length = xs.length ∧ vs[j]? = some u ∧ Part K F H (.tup xs) v fp b u fun c => .tup (xs.set j c) := by
  rw [Rep] at r
  obtain ⟨a, vs, rfl, hs, rl⟩ := r
  obtain ⟨u, g1, g2, g3, e1, rfl, rb, pt⟩ := rl.lens ej
  refine ⟨a, vs, u, rfl, hs, rl.len.symm, e1, g1, g2, g3, by simp, rb, fun {F' H' c' f2'} hF kp rn => ?_⟩
  have hout := pt hF kp rn
  rw [set_self e1] at hout
  rw [Rep]
  exact ⟨a, vs, rfl, hF.tupN hs, hout⟩
theorem part_dK {ks : List Key} {ds : List D} {v : V} {fp : List Addr} {j : Nat} {b : D} (r : Rep K F H (.dK true ks ds) v fp) (ej : ds[j]? = some b) : ∃ a vs u, v = .ref a ∧ H a = some (.dK (ks.zip vs)) ∧ ks.length = vs.length ∧ vs[j]? = some u ∧ Part K F H (.dK true ks ds) v fp b u fun c => .dK true ks (ds.set j c) := by
  rw [Rep] at r
  obtain ⟨a, vs, fq, rfl, el, rl, ⟨_, ha, rfl⟩ | ⟨z, _⟩⟩ := r
  · obtain ⟨u, g1, g2, g3, e1, rfl, rb, pt⟩ := rl.lens ej
    refine ⟨a, vs, u, rfl, ha, el.trans rl.len, e1, a :: g1, g2, g3, by simp, rb, fun {F' H' c' f2'} hF kp rn => ?_⟩
    have hout := pt hF (fun x hx => kp x (by rcases List.mem_append.mp hx with y | y <;> simp [y])) rn
    rw [set_self e1] at hout
    rw [Rep]
    exact ⟨a, vs, _, rfl, by rw [List.length_set]; exact el, hout, .inl ⟨rfl, kp a (by simp) _ ha, by simp⟩⟩
  · cases z
end
/-! ### an expression that tells a way -/
abbrev VTP := SV → (SV → Nat → List Sp1 → Prop) → Prop
/-- the part at the way -/
def atP (S : SV) (i : Nat) (ps : List Sp1) : Option D := match S[i]? with
  | some d => getP d ps
  | none => none
def putP (S : SV) (i : Nat) (ps : List Sp1) (c : D) : SV := S.set i (setP (S.getD i .unk) ps c)
def LensP (K : PySem.W.Frag) (F H : Hp) (σ : L2.St) (S : SV) (fp : List Addr) (i : Nat) (ps : List Sp1) (v : V) : Prop := ∀ c, atP S i ps = some c →
  ∃ f1 f2 f3, fp = f1 ++ (f2 ++ f3) ∧ Rep K F H c v f2 ∧ ∀ {F' H' : Hp} {c' : D} {f2' : List Addr}, Sub F F' → (∀ a ∈ f1 ++ f3, ∀ o, H a = some o → H' a = some o) → Rep K F' H' c' v f2' → RepS K F' H' (putP S i ps c') σ (f1 ++ (f2' ++ f3))
def AtP (K : PySem.W.Frag) (F H : Hp) (σ : L2.St) (S : SV) (fp : List Addr) (i : Nat) (ps : List Sp1) (v : V) : Prop := (ps = [] → σ[i]? = some (some v)) ∧ (ps ≠ [] → LensP K F H σ S fp i ps v)
def SndP (K : PySem.W.Frag) (p : Bool) (t : TE) (T : VTP) : Prop := ∀ (F H : Hp) (σ : L2.St) (S : SV) (fp : List Addr) (Q : SV → Nat → List Sp1 → Prop) (R : VK), Good K F H σ S fp → T S Q →
  (∀ F' H' S' fp' i ps v, Good K F' H' σ S' fp' → Step fp F H F' H' fp' → (p = true → S' = S ∧ fp' = fp ∧ Grow F H F' H') → AtP K F' H' σ S' fp' i ps v → Q S' i ps → R v H') → t σ H R
structure VP (X : Cx) (K : PySem.W.Frag) (p : Bool) (e : Expr) (t : TE) (T : VTP) : Prop where
  pe : PE X e t
  snd : SndP K p t T
def TPName (i : Nat) : VTP := fun S Q => okS S i ∧ Q S i []
section
variable {X : Cx} {K : PySem.W.Frag} {a b c e : Expr} {pos : Pos} {p p1 p2 p3 : Bool} {Ta Tb Tc Te : VT} {ta tb tc te : TE} {Tp : VTP}
theorem vp_name (i : Nat) (h : PE X e (tVar i)) : VP X K true e (tVar i) (TPName i) := ⟨h, fun F H σ S fp Q R g q k => by
  obtain ⟨v, ev⟩ := good_slot g q.1
  exact ⟨v, ev, k F H S fp i [] v g Step.refl (fun _ => ⟨rfl, rfl, Grow.refl g.sub⟩) ⟨fun _ => ev, fun z => absurd rfl z⟩ q.2⟩⟩
/-- a way, and a further step into a list or a tuple -/
def TPIx (p2 : Bool) (T : VTP) (Ti : VT) : VTP := fun S Q => T S fun S1 i ps => Ti S1 fun S2 _ k => (ps.isEmpty || p2) = true ∧ match atP S2 i ps, k with
  | some (.lst true xs), .int z => match ixN xs.length z with
    | some j => Q S2 i (ps ++ [.ix j])
    | none => False
  | some (.tup xs), .int z => match ixN xs.length z with
    | some j => Q S2 i (ps ++ [.ix j])
    | none => False
  | _, _ => False
theorem AtP.carry {H1 H2 : Hp} {F1 F2 : Hp} {σ : L2.St} {S1 S2 : SV} {fp1 fp2 : List Addr} {i : Nat} {ps : List Sp1} {v : V} (x : AtP K F1 H1 σ S1 fp1 i ps v) (c : (ps.isEmpty || p2) = true) (h : p2 = true → S2 = S1 ∧ fp2 = fp1 ∧ Grow F1 H1 F2 H2) : AtP K F2 H2 σ S2 fp2 i ps v := by
  refine ⟨x.1, fun hn => ?_⟩
  rw [Bool.or_eq_true] at c
  have c := c.resolve_left fun z => hn (by simpa using z)
  obtain ⟨rfl, rfl, w⟩ := h c
  intro cc ec
  obtain ⟨f1, f2, f3, e, rc, pt⟩ := x.2 hn cc ec
  exact ⟨f1, f2, f3, e, rc.mono w.fsub (fun a _ o h => w.hsub a o h), fun {F' H' c' f2'} hF kp rn => pt (w.fsub.trans hF) (fun a ha o h => kp a ha o (w.hsub a o h)) rn⟩
/-- the part at a way of a slot -/
theorem Good.at {F H : Hp} {σ : L2.St} {S : SV} {fp : List Addr} (g : Good K F H σ S fp) {i : Nat} {ps : List Sp1} {v : V} {c : D} (x : AtP K F H σ S fp i ps v) (e : atP S i ps = some c) :
    ∃ f1 f2 f3, fp = f1 ++ (f2 ++ f3) ∧ Rep K F H c v f2 ∧ ∀ {F' H' : Hp} {c' : D} {f2' : List Addr}, Sub F F' → (∀ a ∈ f1 ++ f3, ∀ o, H a = some o → H' a = some o) → Rep K F' H' c' v f2' → RepS K F' H' (putP S i ps c') σ (f1 ++ (f2' ++ f3)) := by
  by_cases hn : ps = []
  · subst hn
    have ew := x.1 rfl
    unfold atP at e
    cases es : S[i]? with
    | none => rw [es] at e; cases e
    | some d =>
    rw [es] at e
    simp only [getP_nil] at e
    cases e
    obtain ⟨ov, g1, g2, g3, e1, rfl, ro, pt⟩ := g.rep.lens es
    rw [ew] at e1; cases e1
    refine ⟨g1, g2, g3, rfl, ro, fun {F' H' c' f2'} hF kp rn => ?_⟩
    have hout := pt hF kp (show RepO K F' H' c' (some v) _ from rn)
    rw [set_self ew] at hout
    unfold putP
    rw [setP_nil]
    exact hout
  · exact x.2 hn c e
theorem atI_ixN {α : Type} {xs : List α} {z : Int} {j : Nat} (h : ixN xs.length z = some j) : L2.atI xs z = xs[j]? := by unfold L2.atI; rw [h]; rfl
/-- a step on -/
theorem AtP.on {F H : Hp} {σ : L2.St} {S : SV} {fp f1 f2 f3 : List Addr} {i : Nat} {ps : List Sp1} {s : Sp1} {v u : V} {cc b : D} {put : D → D} (e : atP S i ps = some cc) (ef : fp = f1 ++ (f2 ++ f3))
    (pw : ∀ {F' H' : Hp} {c' : D} {f2' : List Addr}, Sub F F' → (∀ a ∈ f1 ++ f3, ∀ o, H a = some o → H' a = some o) → Rep K F' H' c' v f2' → RepS K F' H' (putP S i ps c') σ (f1 ++ (f2' ++ f3)))
    (pt : Part K F H cc v f2 b u put) (eb : getP cc [s] = some b) (ep : ∀ c, setP cc [s] c = put c) : AtP K F H σ S fp i (ps ++ [s]) u := by
  refine ⟨fun z => by simp at z, fun _ c ec => ?_⟩
  subst ef
  obtain ⟨g1, g2, g3, rfl, rb, pp⟩ := pt
  have e2 : atP S i (ps ++ [s]) = some b := by
    unfold atP at e ⊢
    cases es : S[i]? with
    | none => rw [es] at e; cases e
    | some d =>
    rw [es] at e
    simp only at e ⊢
    rw [getP_app, e]
    exact eb
  rw [e2] at ec
  cases ec
  refine ⟨f1 ++ g1, g2, g3 ++ f3, by simp, rb, fun {F' H' c' f2'} hF kp rn => ?_⟩
  have hin := pp hF (fun a ha => kp a (by rcases List.mem_append.mp ha with y | y <;> simp [y])) rn
  have hout := pw hF (fun a ha => kp a (by rcases List.mem_append.mp ha with y | y <;> simp [y])) hin
  have e3 : putP S i (ps ++ [s]) c' = putP S i ps (put c') := by
    unfold putP
    unfold atP at e
    cases es : S[i]? with
    | none => rw [es] at e; cases e
    | some d =>
    rw [es] at e
    have eD : S.getD i .unk = d := by rw [List.getD_eq_getElem?_getD, es]; rfl
    rw [eD, setP_app e, ep]
  rw [e3]
  simpa using hout
def rIxLT (K : PySem.W.Frag) : R2 := fun x y H Q => rIxL K x y H Q ∨ rIxT K x y H Q
theorem vp_ix (hK : X.K = K) (ha : VP X K p1 a ta Tp) (hb : VE X K p2 b tb Tb) (hs : PlainIx b) : VP X K (p1 && p2) (.Subscript a b pos) (tOp (rIxLT K) ta tb) (TPIx p2 Tp Tb) := by
  subst hK
  refine ⟨pe_ix (ix_list.or ix_tup) ha.pe hb.pe hs, fun F H σ S fp Q R g q k => ?_⟩
  refine ha.snd F H σ S fp _ _ g q fun F1 H1 S1 fp1 i ps v g1 st1 pu1 at1 q1 => ?_
  refine hb.snd F1 H1 σ S1 fp1 _ _ g1 q1 fun F2 H2 S2 fp2 al d u fq r q2 => ?_
  obtain ⟨c, q2⟩ := q2
  have at2 := at1.carry c r.pure
  cases ea : atP S2 i ps with
  | none => simp only [ea] at q2
  | some cc =>
  simp only [ea] at q2
  obtain ⟨f1, f2, f3, ef, rc, pw⟩ := r.good.at at2 ea
  cases cc <;> first | exact q2.elim | skip
  · rename_i xs
    cases d <;> first | exact q2.elim | skip
    rename_i z
    simp only at q2
    cases en : ixN xs.length z with
    | none => rw [en] at q2; exact q2.elim
    | some j =>
    rw [en] at q2
    simp only at q2
    have hj : j < xs.length := (ixN_seq en).2.1
    have eb : xs[j]? = some xs[j] := List.getElem?_eq_getElem hj
    have hz := r.rep
    rw [Rep] at hz
    obtain ⟨aa, vs, uu, rfl, hT, el, eu, pt⟩ := part_tup rc eb
    refine .inr ⟨aa, vs, z, uu, rfl, hz.1, (r.good.sub.tupN hT).sq, by rw [atI_ixN (by rw [el]; exact en)]; exact eu, ?_⟩
    exact k F2 H2 S2 fp2 i _ _ r.good (st1.trans r.step) (pureT pu1 r.pure) (AtP.on ea ef pw pt (by simp [getP, eb]) fun c => by simp [setP, eb]) q2
  · rename_i m xs
    cases m with
    | false => exact q2.elim
    | true =>
    cases d <;> first | exact q2.elim | skip
    rename_i z
    simp only at q2
    cases en : ixN xs.length z with
    | none => rw [en] at q2; exact q2.elim
    | some j =>
    rw [en] at q2
    simp only at q2
    have hj : j < xs.length := (ixN_seq en).2.1
    have eb : xs[j]? = some xs[j] := List.getElem?_eq_getElem hj
    have hz := r.rep
    rw [Rep] at hz
    obtain ⟨aa, vs, uu, rfl, hL, el, eu, pt⟩ := part_lst rc eb
    refine .inl ⟨aa, vs, z, uu, rfl, hz.1, SqL.of hL, by rw [atI_ixN (by rw [el]; exact en)]; exact eu, ?_⟩
    exact k F2 H2 S2 fp2 i _ _ r.good (st1.trans r.step) (pureT pu1 r.pure) (AtP.on ea ef pw pt (by simp [getP, eb]) fun c => by simp [setP, eb]) q2

/-! ### a part is written: the list at a is another one now -/
/-- c stands at a; behind: c' at a, d as an answer; all new things are free ones or were handed in (at: fa) -/
structure Wr (K : PySem.W.Frag) (F H : Hp) (a : Addr) (fc fa : List Addr) (H' : Hp) (c' : D) (fc' : List Addr) (d : D) (v : V) (fq : List Addr) : Prop where
  rc : Rep K F H' c' (.ref a) fc'
  rd : Rep K F H' d v fq
  keep : ∀ b o, H b = some o → b ≠ a → H' b = some o
  nd : (fc' ++ fq).Nodup
  src : ∀ b ∈ fc' ++ fq, b ∈ fc ∨ b ∈ fa
/-- an operation that writes at a: O tells the part behind and the answer -/
abbrev OM (α : Type) := D → α → (D → D → Prop) → Prop
theorem wr_good {F H H' : Hp} {σ : L2.St} {S : SV} {fp f1 f2 f3 fa fc' fq : List Addr} {i : Nat} {ps : List Sp1} {a : Addr} {c' d : D} {v : V} (g : Good K F H σ S fp) (ef : fp = f1 ++ (f2 ++ f3)) (ha : a ∈ f2) (hfa : ∀ b ∈ fa, F b = none ∧ b ∉ fp ∧ ∃ o, H b = some o)
    (w : Wr K F H a f2 fa H' c' fc' d v fq) (pt : ∀ {F' H' : Hp} {c' : D} {f2' : List Addr}, Sub F F' → (∀ a ∈ f1 ++ f3, ∀ o, H a = some o → H' a = some o) → Rep K F' H' c' (.ref a) f2' → RepS K F' H' (putP S i ps c') σ (f1 ++ (f2' ++ f3))) :
    Good K F H' σ (putP S i ps c') (f1 ++ (fc' ++ f3)) ∧ Step (fa ++ fp) F H F H' (f1 ++ (fc' ++ f3)) ∧ fq.Nodup ∧ (∀ b ∈ fq, F b = none ∧ b ∉ f1 ++ (fc' ++ f3) ∧ (b ∈ fa ∨ b ∈ fp)) := by
  have nd := g.nd
  rw [ef] at nd
  obtain ⟨n1, n2, n3⟩ := List.nodup_append.mp nd
  obtain ⟨n4, n5, n6⟩ := List.nodup_append.mp n2
  have aO : ∀ b ∈ f1 ++ f3, b ≠ a := fun b hb e => by
    subst e
    rcases List.mem_append.mp hb with y | y
    · exact n3 b y b (List.mem_append_left _ ha) rfl
    · exact n6 b ha b y rfl
  have inO : ∀ b ∈ f1 ++ f3, b ∈ fp := fun b hb => by rw [ef]; rcases List.mem_append.mp hb with y | y <;> simp [y]
  have newO : ∀ b ∈ fc' ++ fq, b ∉ f1 ++ f3 := fun b hb hO => by
    rcases w.src b hb with y | y
    · rcases List.mem_append.mp hO with z | z
      · exact n3 b z b (List.mem_append_left _ y) rfl
      · exact n6 b y b z rfl
    · exact (hfa b y).2.1 (inO b hO)
  have newF : ∀ b ∈ fc' ++ fq, F b = none := fun b hb => by
    rcases w.src b hb with y | y
    · exact g.dis b (by rw [ef]; simp [y])
    · exact (hfa b y).1
  have newS : ∀ b ∈ fc' ++ fq, b ∈ fa ∨ b ∈ fp := fun b hb => by
    rcases w.src b hb with y | y
    · exact .inr (by rw [ef]; simp [y])
    · exact .inl y
  have nc := List.nodup_append.mp w.nd
  have hF : Sub F H' := fun b o e => w.keep b o (g.sub b o e) fun z => by
    subst z
    have := g.dis b (by rw [ef]; simp [ha])
    rw [this] at e; cases e
  refine ⟨⟨hF, pt Sub.refl (fun b hb o e => w.keep b o e (aO b hb)) w.rc, ?_, fun b hb => ?_⟩, ⟨Sub.refl, fun b o e hn => w.keep b o e fun z => hn (by subst z; rw [ef]; simp [ha]), fun b h => .inl h, fun b hb => ?_⟩, nc.2.1, fun b hb => ⟨newF b (List.mem_append_right _ hb), fun z => ?_, newS b (List.mem_append_right _ hb)⟩⟩
  · refine List.nodup_append.mpr ⟨n1, List.nodup_append.mpr ⟨nc.1, n5, fun x hx y hy e => ?_⟩, fun x hx y hy e => ?_⟩
    · subst e; exact newO x (List.mem_append_left _ hx) (List.mem_append_right _ hy)
    · subst e
      rcases List.mem_append.mp hy with hy | hy
      · exact newO x (List.mem_append_left _ hy) (List.mem_append_left _ hx)
      · exact n3 x hx x (List.mem_append_right _ hy) rfl
  · rcases List.mem_append.mp hb with y | y
    · exact g.dis b (inO b (List.mem_append_left _ y))
    · rcases List.mem_append.mp y with y | y
      · exact newF b (List.mem_append_left _ y)
      · exact g.dis b (inO b (List.mem_append_right _ y))
  · rcases List.mem_append.mp hb with y | y
    · exact .inl (List.mem_append_right _ (inO b (List.mem_append_left _ y)))
    · rcases List.mem_append.mp y with y | y
      · exact .inl (List.mem_append.mpr (newS b (List.mem_append_left _ y)))
      · exact .inl (List.mem_append_right _ (inO b (List.mem_append_right _ y)))
  · rcases List.mem_append.mp z with y | y
    · exact newO b (List.mem_append_right _ hb) (List.mem_append_left _ y)
    · rcases List.mem_append.mp y with y | y
      · exact nc.2.2 b y b hb rfl
      · exact newO b (List.mem_append_right _ hb) (List.mem_append_right _ y)
/-! the operations on a list, by trees -/
theorem wr_list {F H : Hp} {a : Addr} {vs ws : List V} {xs ys : List D} {fc fi fi' fa fq : List Addr} {d : D} {v : V} (e1 : fc = a :: fi) (hnew : RepL K F (upd H a (.lst ws)) ys ws fi') (hd : Rep K F (upd H a (.lst ws)) d v fq) (hnd : (fi' ++ fq).Nodup) (hna : a ∉ fi' ++ fq) (hsrc : ∀ b ∈ fi' ++ fq, b ∈ fi ∨ b ∈ fa) :
    Wr K F H a fc fa (upd H a (.lst ws)) (.lst true ys) (a :: fi') d v fq := by
  refine ⟨?_, hd, fun b o e hb => by rw [upd_ne hb]; exact e, ?_, fun b hb => ?_⟩
  · rw [Rep]; exact ⟨a, ws, fi', rfl, hnew, .inl ⟨rfl, upd_same, rfl⟩⟩
  · exact List.nodup_cons.mpr ⟨hna, hnd⟩
  · rcases List.mem_cons.mp hb with rfl | hb
    · exact .inl (by rw [e1]; simp)
    · rcases hsrc b hb with y | y
      · exact .inl (by rw [e1]; simp [y])
      · exact .inr y
/-- one argument -/
def LfM1 (K : PySem.W.Frag) (r : V → V → Hp → VK → Prop) (O : OM D) : Prop := ∀ (F H : Hp) (a : Addr) (c d1 : D) (v1 : V) (fc fa : List Addr) (Q : D → D → Prop) (R : VK), Sub F H → Rep K F H c (.ref a) fc → a ∈ fc → fc.Nodup → Rep K F H d1 v1 fa → fa.Nodup → (∀ b ∈ fa, b ∉ fc) → O c d1 Q →
  (∀ H' c' fc' d v fq, Wr K F H a fc fa H' c' fc' d v fq → Q c' d → R v H') → r (.ref a) v1 H R
def LfM0 (K : PySem.W.Frag) (r : V → Hp → VK → Prop) (O : OM Unit) : Prop := ∀ (F H : Hp) (a : Addr) (c : D) (fc : List Addr) (Q : D → D → Prop) (R : VK), Sub F H → Rep K F H c (.ref a) fc → a ∈ fc → fc.Nodup → O c () Q →
  (∀ H' c' fc' d v fq, Wr K F H a fc [] H' c' fc' d v fq → Q c' d → R v H') → r (.ref a) H R
def LfM2 (K : PySem.W.Frag) (r : V → V → V → Hp → VK → Prop) (O : OM (D × D)) : Prop := ∀ (F H : Hp) (a : Addr) (c d1 d2 : D) (v1 v2 : V) (fc f1 f2 : List Addr) (Q : D → D → Prop) (R : VK), Sub F H → Rep K F H c (.ref a) fc → a ∈ fc → fc.Nodup → Rep K F H d1 v1 f1 → Rep K F H d2 v2 f2 → (f1 ++ f2).Nodup → (∀ b ∈ f1 ++ f2, b ∉ fc) → O c (d1, d2) Q →
  (∀ H' c' fc' d v fq, Wr K F H a fc (f1 ++ f2) H' c' fc' d v fq → Q c' d → R v H') → r (.ref a) v1 v2 H R
/-- the own list at a -/
theorem own_list {F H : Hp} {a : Addr} {xs : List D} {fc : List Addr} (r : Rep K F H (.lst true xs) (.ref a) fc) : ∃ vs fi, H a = some (.lst vs) ∧ RepL K F H xs vs fi ∧ fc = a :: fi := by
  rw [Rep] at r
  obtain ⟨b, vs, fi, e, rl, ⟨_, h, e2⟩ | ⟨z, _⟩⟩ := r
  · cases e; exact ⟨vs, fi, h, rl, e2⟩
  · cases z
theorem RepL.other {F H : Hp} {a : Addr} {o : HO} {ds : List D} {vs : List V} {f : List Addr} (r : RepL K F H ds vs f) (h : a ∉ f) : RepL K F (upd H a o) ds vs f := r.mono Sub.refl fun b hb u e => by rw [upd_ne (fun z => h (by rw [← z]; exact hb))]; exact e
theorem Rep.other {F H : Hp} {a : Addr} {o : HO} {d : D} {v : V} {f : List Addr} (r : Rep K F H d v f) (h : a ∉ f) : Rep K F (upd H a o) d v f := r.mono Sub.refl fun b hb u e => by rw [upd_ne (fun z => h (by rw [← z]; exact hb))]; exact e
def oAppend : OM D := fun c d Q => match c with
  | .lst true xs => xs.length < sizeLine ∧ Q (.lst true (xs ++ [d])) .non
  | _ => False
theorem rep_one {F H : Hp} {d : D} {v : V} {f : List Addr} (r : Rep K F H d v f) : RepL K F H [d] [v] f := by
  rw [RepL]; exact ⟨v, [], f, [], rfl, by simp, r, by rw [RepL]; exact ⟨rfl, rfl⟩⟩
theorem rep_non {F H : Hp} : Rep K F H .non .non [] := by rw [Rep]; exact ⟨rfl, rfl⟩
theorem lf_append : LfM1 K (fun x y => rAppend x [y]) oAppend := fun F H a c d1 v1 fc fa Q R s rc ha nd r1 n1 dj q k => by
  cases c <;> first | exact q.elim | skip
  rename_i m xs
  cases m with
  | false => exact q.elim
  | true =>
  obtain ⟨vs, fi, hH, rl, rfl⟩ := own_list rc
  obtain ⟨na, ni⟩ := List.nodup_cons.mp nd
  have naf : a ∉ fa := fun z => dj a z (by simp)
  refine ⟨a, vs, v1, rfl, rfl, hH, by rw [← rl.len]; exact q.1, ?_⟩
  refine k _ _ _ .non .non [] (wr_list (fi' := fi ++ fa) (vs := vs) (xs := xs) rfl ((rl.other na).app (rep_one (r1.other naf))) rep_non ?_ ?_ fun b hb => ?_) q.2
  · rw [List.append_nil]
    exact List.nodup_append.mpr ⟨ni, n1, fun x hx y hy e => by subst e; exact dj x hy (by simp [hx])⟩
  · rw [List.append_nil]
    intro z
    rcases List.mem_append.mp z with y | y
    · exact na y
    · exact naf y
  · rw [List.append_nil] at hb
    exact List.mem_append.mp hb
end
/-! ### stores -/
def isOwn : D → Prop
  | .lst true _ => True
  | .dK true _ _ => True
  | .dT true _ _ => True
  | _ => False
/-- xs[k] = v -/
def oSet : OM (D × D) := fun c kd Q => match c, kd.1 with
  | .lst true xs, .int z => match ixN xs.length z with
    | some j => Q (.lst true (xs.set j kd.2)) .non
    | none => False
  | _, _ => False
def LfSet (K : PySem.W.Frag) (t : TSet) (O : OM (D × D)) : Prop := LfM2 K (fun o i v H Q => t o i v H fun H' => Q .non H') O
theorem lf_setL {K : PySem.W.Frag} : LfSet K rSetL oSet := fun F H a c d1 d2 v1 v2 fc f1 f2 Q R s rc ha nd r1 r2 nn dj q k => by
  cases c <;> first | exact q.elim | skip
  rename_i m xs
  cases m with
  | false => exact q.elim
  | true =>
  cases d1 <;> first | exact q.elim | skip
  rename_i z
  simp only [oSet] at q
  cases en : ixN xs.length z with
  | none => rw [en] at q; exact q.elim
  | some j =>
  rw [en] at q
  simp only at q
  obtain ⟨vs, fi, hH, rl, rfl⟩ := own_list rc
  obtain ⟨na, ni⟩ := List.nodup_cons.mp nd
  have hlen := rl.len
  have hj : j < xs.length := (ixN_seq en).2.1
  have hz := r1
  rw [Rep] at hz
  obtain ⟨e1, rfl⟩ := hz
  simp only [List.nil_append] at nn dj k
  have naf : a ∉ f2 := fun z => dj a z (by simp)
  obtain ⟨u, g1, g2, g3, eu, rfl, _, pt⟩ := rl.lens (List.getElem?_eq_getElem hj)
  refine ⟨a, vs, z, j, rfl, e1, hH, by rw [← hlen]; exact en, ?_⟩
  have nI := List.nodup_append.mp ni
  have nJ := List.nodup_append.mp nI.2.1
  refine k _ _ _ .non .non [] (wr_list (fi' := g1 ++ (f2 ++ g3)) (vs := vs) (xs := xs) rfl (pt Sub.refl (fun b hb o e => ?_) (r2.other naf)) rep_non ?_ ?_ fun b hb => ?_) q
  · rw [upd_ne]
    · exact e
    · rintro rfl
      exact na (by rcases List.mem_append.mp hb with y | y <;> simp [y])
  · rw [List.append_nil]
    refine List.nodup_append.mpr ⟨nI.1, List.nodup_append.mpr ⟨nn, nJ.2.1, fun x hx y hy e => ?_⟩, fun x hx y hy e => ?_⟩
    · subst e; exact dj x hx (by simp [hy])
    · subst e
      rcases List.mem_append.mp hy with hy | hy
      · exact dj x hy (by simp [hx])
      · exact nI.2.2 x hx x (List.mem_append_right _ hy) rfl
  · rw [List.append_nil]
    intro z
    rcases List.mem_append.mp z with y | y
    · exact na (by simp [y])
    · rcases List.mem_append.mp y with y | y
      · exact naf y
      · exact na (by simp [y])
  · rw [List.append_nil] at hb
    rcases List.mem_append.mp hb with y | y
    · exact .inl (by simp [y])
    · rcases List.mem_append.mp y with y | y
      · exact .inr y
      · exact .inl (by simp [y])
/-- the store as a target: the way, the index, then the value that was reckoned ahead -/
def TGSub (p2 : Bool) (Tp : VTP) (Ti : VT) (O : OM (D × D)) : VTG := fun d S Q => Tp S fun S1 i ps => Ti S1 fun S2 al k => (ps.isEmpty || p2) = true ∧ al = true ∧ match atP S2 i ps with
  | some c => O c (k, d) fun c' _ => Q (putP S2 i ps c')
  | none => False
section
variable {X : Cx} {K : PySem.W.Frag} {a b c e : Expr} {pos : Pos} {p p1 p2 p3 : Bool} {Ta Tb Tc Te : VT} {ta tb tc te : TE} {Tp : VTP} {pin : List Nat}
theorem own_at {F H : Hp} {c : D} {v : V} {fc : List Addr} (r : Rep K F H c v fc) (h : isOwn c) : ∃ a, v = .ref a ∧ a ∈ fc := by
  cases c <;> first | exact h.elim | skip
  · rename_i m xs
    cases m with
    | false => exact h.elim
    | true =>
    rw [Rep] at r
    obtain ⟨b, vs, fi, rfl, rl, ⟨_, h, rfl⟩ | ⟨z, _⟩⟩ := r
    · exact ⟨b, rfl, by simp⟩
    · cases z
  · rename_i m ks xs
    cases m with
    | false => exact h.elim
    | true =>
    rw [Rep] at r
    obtain ⟨b, vs, fi, rfl, _, rl, ⟨_, h, rfl⟩ | ⟨z, _⟩⟩ := r
    · exact ⟨b, rfl, by simp⟩
    · cases z
  · rename_i m ks xs
    cases m with
    | false => exact h.elim
    | true =>
    rw [Rep] at r
    obtain ⟨b, vs, fi, rfl, _, rl, ⟨_, h, rfl⟩ | ⟨z, _⟩⟩ := r
    · exact ⟨b, rfl, by simp⟩
    · cases z
/-- an operation asks for something owned -/
def Own2 (O : OM (D × D)) : Prop := ∀ c kd Q, O c kd Q → isOwn c
def Own1 (O : OM D) : Prop := ∀ c kd Q, O c kd Q → isOwn c
def Own0 (O : OM Unit) : Prop := ∀ c kd Q, O c kd Q → isOwn c
theorem own_oSet : Own2 oSet := fun c kd Q h => by
  cases c <;> first | exact h.elim | skip
  rename_i m xs
  cases m <;> first | exact h.elim | trivial
theorem own_oAppend : Own1 oAppend := fun c kd Q h => by
  cases c <;> first | exact h.elim | skip
  rename_i m xs
  cases m <;> first | exact h.elim | trivial
theorem vg_sub {t : TSet} {O : OM (D × D)} (hs : PSet X t) (l : LfSet K t O) (ow : Own2 O) (ha : VP X K p1 a ta Tp) (hb : VE X K p2 b tb Tb)
    (hA : ∀ v, assign (.Subscript a b pos) X.env v = (do
      let ov ← holding [v] (eval a X.env)
      let iv ← holding [v, ov] (eval b X.env)
      standAt pos
      holding [v, ov, iv] (setItem ov iv v)
      release [v, ov, iv] []) := by intro _; rfl) : VG X K pin (.Subscript a b pos) (gSub ta tb t) (TGSub p2 Tp Tb O) := by
  refine ⟨pg_sub ha.pe hb.pe hs hA, fun F H σ S fp d v fq Q R g rd nd z q k => ?_⟩
  refine ha.snd F H σ S fp _ _ g q fun F1 H1 S1 fp1 i ps u g1 st1 pu1 at1 q1 => ?_
  refine hb.snd F1 H1 σ S1 fp1 _ _ g1 q1 fun F2 H2 S2 fp2 al dk vk fk r q2 => ?_
  obtain ⟨c, eal, q2⟩ := q2
  subst eal
  have at2 := at1.carry c r.pure
  have st2 := st1.trans r.step
  cases ea : atP S2 i ps with
  | none => rw [ea] at q2; exact q2.elim
  | some cc =>
  rw [ea] at q2
  simp only at q2
  obtain ⟨f1, f2, f3, ef, rc, pt⟩ := r.good.at at2 ea
  obtain ⟨aa, rfl, haf⟩ := own_at rc (ow _ _ _ q2)
  -- the value stands
  have mq : ∀ x ∈ fq, ∃ o, H x = some o := fun x hx => let ⟨o, e, _⟩ := rd.mu x hx; ⟨o, e⟩
  have rd2 : Rep K F2 H2 d v fq := rd.mono st2.fsub fun x hx o e => st2.keep x o e (z x hx).2
  have fqF : ∀ x ∈ fq, F2 x = none ∧ x ∉ fp2 ∧ ∃ o, H2 x = some o := fun x hx => by
    obtain ⟨o, e⟩ := mq x hx
    refine ⟨?_, fun hb => ?_, o, st2.keep x o e (z x hx).2⟩
    · cases e2 : F2 x with
      | none => rfl
      | some y =>
        rcases st2.fnew x (by rw [e2]; simp) with w | w | w
        · exact absurd (z x hx).1 w
        · exact absurd w (z x hx).2
        · rw [e] at w; cases w
    · rcases st2.own x hb with w | w
      · exact (z x hx).2 w
      · rw [e] at w; cases w
  obtain ⟨nk, sk⟩ := r.sep rfl
  have mk : ∀ x ∈ fk, ∃ o, H2 x = some o := fun x hx => let ⟨o, e, _⟩ := r.rep.mu x hx; ⟨o, e⟩
  have dkq : ∀ x ∈ fk, x ∉ fq := fun x hx hy => by
    obtain ⟨o, e⟩ := mq x hy
    rcases (sk x hx).2.2 with w | w
    · rcases st1.own x w with y | y
      · exact (z x hy).2 y
      · rw [e] at y; cases y
    · rw [st1.keep x o e (z x hy).2] at w; cases w
  have faP : ∀ x ∈ fk ++ fq, F2 x = none ∧ x ∉ fp2 ∧ ∃ o, H2 x = some o := fun x hx => by
    rcases List.mem_append.mp hx with y | y
    · exact ⟨(sk x y).1, (sk x y).2.1, mk x y⟩
    · exact fqF x y
  have nf2 : f2.Nodup := by
    have := r.good.nd
    rw [ef] at this
    exact (List.nodup_append.mp (List.nodup_append.mp this).2.1).1
  refine l F2 H2 aa cc dk d vk v f2 fk fq (fun c' _ => Q (putP S2 i ps c')) (fun _ H' => R σ H') r.good.sub rc haf nf2 r.rep rd2 (List.nodup_append.mpr ⟨nk, nd, fun x hx y hy e => by subst e; exact dkq x hx hy⟩) (fun x hx hb => (faP x hx).2.1 (by rw [ef]; simp [hb])) q2 fun H3 c' fc' dd vv fr w q3 => ?_
  obtain ⟨g3, st3, _, _⟩ := wr_good r.good ef haf faP w pt
  have back : ∀ x ∈ (fk ++ fq) ++ fp2, x ∈ fq ++ fp ∨ H x = none := fun x hx => by
    rcases List.mem_append.mp hx with y | y
    · rcases List.mem_append.mp y with y | y
      · rcases (st1.back (sk x y).2.2) with w | w
        · exact .inl (by simp [w])
        · exact .inr w
      · exact .inl (by simp [y])
    · rcases st2.own x y with w | w
      · exact .inl (by simp [w])
      · exact .inr w
  refine k F2 H3 σ _ _ g3 ⟨st2.fsub.trans st3.fsub, fun x o e hn => ?_, fun x hh => ?_, fun x hx => ?_⟩ Pin.refl q3
  · refine st3.keep x o (st2.keep x o e fun y => hn (by simp [y])) fun y => ?_
    rcases back x y with w | w
    · exact hn w
    · rw [e] at w; cases w
  · rcases st3.fnew x hh with y | y | y
    · rcases st2.fnew x y with w | w | w
      · exact .inl w
      · exact .inr (.inl (by simp [w]))
      · exact .inr (.inr w)
    · exact .inr (back x y)
    · rcases st2.back (.inr y) with w | w
      · exact .inr (.inl (by simp [w]))
      · exact .inr (.inr w)
  · rcases st3.own x hx with y | y
    · exact back x y
    · rcases st2.back (.inr y) with w | w
      · exact .inl (by simp [w])
      · exact .inr w
/-! ### methods that write -/
def isTy (T : String) : Option D → Prop
  | some (.lst true _) => T = "list"
  | some (.dK true _ _) => T = "dict"
  | some (.dT true _ _) => T = "dict"
  | _ => False
theorem tyV_at {F H : Hp} {σ : L2.St} {S : SV} {fp : List Addr} {T : String} (g : Good K F H σ S fp) {i : Nat} {ps : List Sp1} {v : V} (x : AtP K F H σ S fp i ps v) (h : isTy T (atP S i ps)) : tyV K T v H := by
  cases ea : atP S i ps with
  | none => rw [ea] at h; exact h.elim
  | some c =>
  rw [ea] at h
  obtain ⟨f1, f2, f3, ef, rc, _⟩ := g.at x ea
  cases c <;> first | exact h.elim | skip
  · rename_i m xs
    cases m with
    | false => exact h.elim
    | true =>
    rw [Rep] at rc
    obtain ⟨b, vs, fi, rfl, rl, ⟨_, h1, rfl⟩ | ⟨z, _⟩⟩ := rc
    · exact .inl ⟨h, vs, SqL.of h1⟩
    · cases z
  · rename_i m ks xs
    cases m with
    | false => exact h.elim
    | true =>
    rw [Rep] at rc
    obtain ⟨b, vs, fi, rfl, _, rl, ⟨_, h1, rfl⟩ | ⟨z, _⟩⟩ := rc
    · exact .inr (.inr (.inl ⟨h, .inl ⟨_, h1⟩⟩))
    · cases z
  · rename_i m ks xs
    cases m with
    | false => exact h.elim
    | true =>
    rw [Rep] at rc
    obtain ⟨b, vs, fi, rfl, _, rl, ⟨_, h1, rfl⟩ | ⟨z, _⟩⟩ := rc
    · exact .inr (.inr (.inl ⟨h, .inr ⟨_, h1⟩⟩))
    · cases z
def TM1 (ty : String) (p2 : Bool) (Tp : VTP) (Te : VT) (O : OM D) : VT := fun S Q => Tp S fun S1 i ps => isTy ty (atP S1 i ps) ∧ Te S1 fun S2 al d => (ps.isEmpty || p2) = true ∧ al = true ∧ match atP S2 i ps with
  | some c => O c d fun c' r => Q (putP S2 i ps c') true r
  | none => False
theorem Snd.m1 {ty : String} {r : V → List V → Hp → VK → Prop} {O : OM D} (l : LfM1 K (fun x y => r x [y]) O) (ow : Own1 O) (ha : SndP K p1 ta Tp) (hb : Snd K p2 tb Tb) : Snd K false (tBM K ty r ta (tCons tb tNil)) (TM1 ty p2 Tp Tb O) := fun F H σ S fp Q R g q k => by
  refine ha F H σ S fp _ _ g q fun F1 H1 S1 fp1 i ps u g1 st1 pu1 at1 q1 => ?_
  refine ⟨tyV_at g1 at1 q1.1, ?_⟩
  refine hb F1 H1 σ S1 fp1 _ _ g1 q1.2 fun F2 H2 S2 fp2 al dk vk fk r q2 => ?_
  obtain ⟨c, eal, q2⟩ := q2
  subst eal
  have at2 := at1.carry c r.pure
  have st2 := st1.trans r.step
  cases ea : atP S2 i ps with
  | none => rw [ea] at q2; exact q2.elim
  | some cc =>
  rw [ea] at q2
  simp only at q2
  obtain ⟨f1, f2, f3, ef, rc, pt⟩ := r.good.at at2 ea
  obtain ⟨aa, rfl, haf⟩ := own_at rc (ow _ _ _ q2)
  obtain ⟨nk, sk⟩ := r.sep rfl
  have faP : ∀ x ∈ fk, F2 x = none ∧ x ∉ fp2 ∧ ∃ o, H2 x = some o := fun x hx => let ⟨o, e, _⟩ := r.rep.mu x hx; ⟨(sk x hx).1, (sk x hx).2.1, o, e⟩
  have nf2 : f2.Nodup := by
    have := r.good.nd
    rw [ef] at this
    exact (List.nodup_append.mp (List.nodup_append.mp this).2.1).1
  refine l F2 H2 aa cc dk vk f2 fk _ R r.good.sub rc haf nf2 r.rep nk (fun x hx hb => (faP x hx).2.1 (by rw [ef]; simp [hb])) q2 fun H3 c' fc' dd vv fr w q3 => ?_
  obtain ⟨g3, st3, n3, s3⟩ := wr_good r.good ef haf faP w pt
  have back : ∀ x ∈ fk ++ fp2, x ∈ fp ∨ H x = none := fun x hx => by
    rcases List.mem_append.mp hx with y | y
    · exact st1.back (sk x y).2.2
    · exact st2.own x y
  refine k F2 H3 _ _ true dd vv fr ⟨g3, w.rd, ⟨st2.fsub.trans st3.fsub, fun x o e hn => ?_, fun x hh => ?_, fun x hx => ?_⟩, fun _ => ⟨n3, fun x hx => ⟨(s3 x hx).1, (s3 x hx).2.1, back x (List.mem_append.mpr (s3 x hx).2.2)⟩⟩, (fun z => nomatch z)⟩ q3
  · refine st3.keep x o (st2.keep x o e hn) fun y => ?_
    rcases back x y with w | w
    · exact hn w
    · rw [e] at w; cases w
  · rcases st3.fnew x hh with y | y | y
    · exact st2.fnew x y
    · exact .inr (back x y)
    · exact .inr (st2.back (.inr y))
  · rcases st3.own x hx with y | y
    · exact back x y
    · exact st2.back (.inr y)
theorem ve_append {apos : Pos} (hK : X.K = K) (ha : VP X K p1 a ta Tp) (hb : VE X K p2 b tb Tb) (hbase : attributeBase a "append" X.env (eval a X.env) = eval a X.env := by rfl)
    (hfew : ((backTo pos (starEach [b] X.env)).all (fun x => !x.1) && (backToKw pos (keywordEach [] X.env)).all (fun x => x.1.isSome) && decide ([b].length + ([] : List Keyword).length + (if ([] : List Keyword).isEmpty then 0 else 1) < 30)) = true := by rfl)
    (hline : (apos.endLine == pos.line) = true := by rfl) (hs : starEach [b] X.env = [(false, eval b X.env)] := by rfl) : VE X K false (.Call (.Attribute a "append" apos) [b] [] pos) (tBM K "list" rAppend ta (tCons tb tNil)) (TM1 "list" p2 Tp Tb oAppend) := by
  subst hK
  exact ⟨pe_bm PySem.F.plainAttrs_list PySem.F.slot_list_append PySem.F.type_list_append mt_append ha.pe (pa_cons hb.pe pa_nil hs) hbase hfew hline hs rfl, Snd.m1 lf_append own_oAppend ha.snd hb.snd⟩
end
end VL

namespace VL
open PySem PySem.Spec PyProof.Rows L2

/-- a def of the module, by what it promises -/
structure Cal (P : Program) (w : World) (K : PySem.W.Frag) (mg : Str → Option Value) (base : Heap) (k : Nat) (x : Str) (n : Nat) (C : Ct) (dvs : List V) (ds0 : List D) : Prop where
  ex : ∃ (f : Addr) (fd : FuncData) (ps : List Str) (ds : List Value), FnOk P w K mg base CX0 k f fd ps (spC K n C) ∧ mg x = some (.ref f) ∧ PySem.W.keepIn K (.ref f) = true ∧ Binds K fd ps ds ∧ Vals dvs ds
  dd : ∀ F H, RepL K F H ds0 dvs []
theorem dd_nil {K : PySem.W.Frag} : ∀ F H, RepL K F H [] [] [] := fun _ _ => by rw [RepL]; exact ⟨rfl, rfl⟩
theorem dd_int {K : PySem.W.Frag} {i : Int} : ∀ F H, RepL K F H [.int i] [.int i] [] := fun _ _ => by
  rw [RepL]
  exact ⟨_, [], [], [], rfl, rfl, by rw [Rep]; exact ⟨rfl, rfl⟩, by rw [RepL]; exact ⟨rfl, rfl⟩⟩
section
variable {X : Cx} {K : PySem.W.Frag} {j k n : Nat} {C : Ct} {dvs : List V} {ds0 : List D} {x : Str} {P0 pos : Pos} {e : Expr} {es : List Expr} {p : Bool} {T : VTA} {t : TA}
theorem vc0 (c : Cal X.prog X.w X.K X.mg X.base k x n C dvs ds0) (hr : Room j X.A) (hk : k ≤ j) (hK : X.K = K) (hg : Gl X x) (ha : VA X K p (e :: es) t T) (hdb : (x == ("__debug__" : Str)) = false := by decide) (he : starEach (e :: es) X.env = (false, eval e X.env) :: starEach es X.env := by rfl) (hpl : (backTo pos (starEach es X.env)).any (·.1) = false := by rfl) :
    VE X K p (.Call (.Name x P0) (e :: es) [] pos) (tCall (spC K n C) dvs E0 t) (TCall0 n T C ds0) := by
  subst hK
  obtain ⟨f, fd, ps, ds, Fn, hm, hkp, hb, hdv⟩ := c.ex
  exact ve_call0 Fn (hr.mono hk) hg hm hkp hb hdv pass0 c.dd ha hdb he hpl
theorem vcB (c : Cal X.prog X.w X.K X.mg X.base k x n C dvs ds0) (hr : Room j X.A) (hk : k ≤ j) (hK : X.K = K) (hg : Gl X x) (ha : VA X K p (e :: es) t T) (hdb : (x == ("__debug__" : Str)) = false := by decide) (he : starEach (e :: es) X.env = (false, eval e X.env) :: starEach es X.env := by rfl) (hpl : (backTo pos (starEach es X.env)).any (·.1) = false := by rfl) :
    VE X K p (.Call (.Name x P0) (e :: es) [] pos) (tCall (spC K n C) dvs E0 t) (TCallB n T C ds0) := by
  subst hK
  obtain ⟨f, fd, ps, ds, Fn, hm, hkp, hb, hdv⟩ := c.ex
  exact ve_callB Fn (hr.mono hk) hg hm hkp hb hdv pass0 c.dd ha hdb he hpl
theorem vc1 (kk i : Nat) (b : Bool) (c : Cal X.prog X.w X.K X.mg X.base k x n C dvs ds0) (hr : Room j X.A) (hk : k ≤ j) (hK : X.K = K) (hg : Gl X x) (ha : VA X K p (e :: es) t T) (hdb : (x == ("__debug__" : Str)) = false := by decide) (he : starEach (e :: es) X.env = (false, eval e X.env) :: starEach es X.env := by rfl) (hpl : (backTo pos (starEach es X.env)).any (·.1) = false := by rfl) :
    VE X K false (.Call (.Name x P0) (e :: es) [] pos) (tCall (spC K n C) dvs E0 t) (TCall1 n kk i b T C ds0) := by
  subst hK
  obtain ⟨f, fd, ps, ds, Fn, hm, hkp, hb, hdv⟩ := c.ex
  exact ve_call1 kk i b Fn (hr.mono hk) hg hm hkp hb hdv pass0 c.dd ha hdb he hpl
end
/-! ### the readings, one step each (all by rfl) -/
/-- ties a thing to itself: what simp may not go into -/
structure Mk {α : Sort u} (a : α) : Type where
/-- a call's promise; what comes behind is left as it is until the promise is taken -/
def CK (C : Ct) (ds : List D) (Q : D → List D → Prop) (_ : Mk Q) : Prop := C ds Q
/-- a thing handed on: first what is handed is made plain, then one goes on -/
def K1 {α : Type} (f : α → Prop) (_ : Mk f) (a : α) : Prop := f a
def K2 {α β : Type} (f : α → β → Prop) (_ : Mk f) (a : α) (b : β) : Prop := f a b
def K3 (f : SV → Bool → D → Prop) (_ : Mk f) (S : SV) (al : Bool) (d : D) : Prop := f S al d
theorem k1_go {α : Type} {f : α → Prop} {m : Mk f} {a : α} : K1 f m a = f a := rfl
theorem k2_go {α β : Type} {f : α → β → Prop} {m : Mk f} {a : α} {b : β} : K2 f m a b = f a b := rfl
theorem k3_go {f : SV → Bool → D → Prop} {m : Mk f} {S : SV} {al : Bool} {d : D} : K3 f m S al d = f S al d := rfl
section
variable {S : SV} {Q : SV → Bool → D → Prop} {W : VD} {d : D} {i j k n : Nat} {T Ta Tb : VT} {A : VTA} {O1' : O1} {O2' : O2} {p p2 p3 : Bool} {U V' : VTS} {B B' : VB} {QB : SV → Bool → Prop} {QA : SV → List AK → Prop} {C : Ct} {dd : List D} {G : VTG} {Gs : VTGs} {QS : SV → Prop}
theorem x_TC : TC d S Q = Q S true d := rfl
theorem x_TU : TU T O1' S Q = T S fun S1 al d => O1' al d (Q S1) := rfl
theorem x_T2 : T2 p2 Ta Tb O2' S Q = Ta S fun S1 al1 d1 => Tb S1 fun S2 al2 d2 => (p2 || al1 || d1.scal) = true ∧ O2' al1 d1 al2 d2 (Q S2) := rfl
theorem x_TV : TV i S Q = (match S[i]? with | some .unk => False | some d => K3 Q ⟨⟩ S d.imm d | none => False) := rfl
theorem x_TANil : TANil S QA = QA S [] := rfl
theorem x_TACons : TACons p2 T A S QA = T S fun S1 al d => A S1 fun S2 ks => (p2 || al || d.scal) = true ∧ QA S2 (.val (al || d.scal) d :: ks) := rfl
theorem x_TARw : TARw i A S QA = (okS S i ∧ A S fun S2 ks => QA S2 (.rw i :: ks)) := rfl
theorem x_TARo : TARo i A S QA = (okS S i ∧ A S fun S2 ks => QA S2 (.ro i :: ks)) := rfl
theorem x_TLst : TLst A S Q = A S fun S1 ks => ks.all AK.isVal = true ∧ ks.length ≤ sizeLine ∧ K3 Q ⟨⟩ S1 (ks.all AK.al) (.lst true (ks.map AK.d)) := rfl
theorem x_TTup : TTup A S Q = A S fun S1 ks => ks.all AK.isVal = true ∧ ks.length ≤ sizeLine ∧ K3 Q ⟨⟩ S1 (ks.all AK.al) (.tup (ks.map AK.d)) := rfl
theorem x_TCall0 : TCall0 n A C dd S Q = A S fun S1 ks => ks.all AK.isVal = true ∧ ks.all AK.al = true ∧ ks.length + dd.length = n ∧ CK C (ks.map AK.d ++ dd) (fun r _ => K3 Q ⟨⟩ S1 true r) ⟨⟩ := rfl
theorem x_TCallB : TCallB n A C dd S Q = A S fun S1 ks => ks.all AK.isVal = true ∧ ks.length + dd.length = n ∧ CK C (fzL (ks.map AK.d) ++ dd) (fun r _ => r.nofz = true ∧ K3 Q ⟨⟩ S1 true r) ⟨⟩ := rfl
theorem x_TCall1 : TCall1 n k i p A C dd S Q = A S fun S1 ks => wfA i p ks (some k) = true ∧ okS S1 i ∧ ks.length + dd.length = n ∧
  CK C (ks.map (argD S1) ++ dd) (fun r ds' => (p = true → r.nofz = true ∧ (ds'.getD k .unk).nofz = true) ∧ K3 Q ⟨⟩ (S1.set i (ds'.getD k .unk)) true r) ⟨⟩ := rfl
theorem x_TSeq : TSeq U V' W S = U { W with nx := V' W } S := rfl
theorem x_TNext : TNext W S = W.nx S := rfl
theorem x_TBrk : TBrk W S = W.bk S := rfl
theorem x_TCnt : TCnt W S = W.ct S := rfl
theorem x_TNever : TNever W S = False := rfl
theorem x_TDrop : TDrop T W S = T S fun S1 _ _ => W.nx S1 := rfl
theorem x_TRet : TRet T W S = T S fun S1 al d => al = true ∧ K2 W.rt ⟨⟩ d S1 := rfl
theorem x_TRetN : TRetN W S = W.rt .non S := rfl
theorem x_TIf : TIf B U V' W S = B S fun S1 b => (b = true → U W S1) ∧ (b = false → V' W S1) := rfl
theorem x_TAsg : TAsg T G W S = T S fun S1 al d => al = true ∧ G d S1 W.nx := rfl
theorem x_TGName : TGName i d S QS = (i < S.length ∧ K1 QS ⟨⟩ (S.set i d)) := rfl
theorem x_TGNil {ds : List D} : TGNil ds S QS = (ds = [] ∧ QS S) := rfl
theorem x_TGCons {r : List D} : TGCons G Gs (d :: r) S QS = G d S fun S1 => Gs r S1 QS := rfl
theorem x_TGTup {ds : List D} : TGTup n Gs (.tup ds) S QS = (ds.length = n ∧ Gs ds S QS) := rfl
theorem x_TQ : TQ T S QB = T S fun S1 _ d => (match d with | .bl b => QB S1 b | _ => False) := rfl
theorem x_TNotV : TNotV T S Q = T S fun S1 _ d => (match d with | .bl b => Q S1 true (.bl (!b)) | _ => False) := rfl
theorem x_TAndV : TAndV Ta Tb S Q = Ta S fun S1 _ d => (match d with | .bl b => (b = true → Tb S1 Q) ∧ (b = false → Q S1 true (.bl false)) | _ => False) := rfl
theorem x_TOrV : TOrV Ta Tb S Q = Ta S fun S1 _ d => (match d with | .bl b => (b = false → Tb S1 Q) ∧ (b = true → Q S1 true (.bl true)) | _ => False) := rfl
theorem x_TNotB : TNotB B S QB = B S fun S1 b => QB S1 (!b) := rfl
theorem x_TAndB : TAndB B B' S QB = B S fun S1 b => (b = true → B' S1 QB) ∧ (b = false → QB S1 false) := rfl
theorem x_TOrB : TOrB B B' S QB = B S fun S1 b => (b = false → B' S1 QB) ∧ (b = true → QB S1 true) := rfl
theorem x_TPar : TPar i j A W S = A S fun S1 ks => (match ks with | [.val a1 d1, .val a2 d2] => a1 = true ∧ a2 = true ∧ i < S1.length ∧ j < S1.length ∧ K1 W.nx ⟨⟩ ((S1.set i d1).set j d2) | _ => False) := rfl
theorem x_TTake : TTake i S Q = (okS S i ∧ K3 Q ⟨⟩ (S.set i .unk) true (S.getD i .unk)) := rfl
theorem x_TFrz : TFrz i S Q = (okS S i ∧ K3 Q ⟨⟩ (S.set i (fz (S.getD i .unk))) true (fz (S.getD i .unk))) := rfl
theorem x_TFor {Ti : VTI} : TFor Ti G U W S = Ti S fun S1 items => forT G U W items S1 := rfl
theorem x_TIR1 {QI : SV → List D → Prop} : TIR1 T S QI = T S fun S1 _ d => (match d with | .int j => (-(2 ^ 62) ≤ j ∧ j < 2 ^ 62) ∧ QI S1 (rng 0 j.toNat) | _ => False) := rfl
theorem x_TIR2 {QI : SV → List D → Prop} : TIR2 Ta Tb S QI = Ta S fun S1 _ d1 => Tb S1 fun S2 _ d2 => (match d1, d2 with | .int i, .int j => (-(2 ^ 62) ≤ i ∧ i < 2 ^ 62 ∧ -(2 ^ 62) ≤ j ∧ j < 2 ^ 62) ∧ QI S2 (rng i (j - i).toNat) | _, _ => False) := rfl
theorem x_TISeq {QI : SV → List D → Prop} : TISeq T S QI = T S fun S1 al d => al = true ∧ (match d with | .lst _ xs => QI S1 (fzL xs) | .tup xs => QI S1 (fzL xs) | _ => False) := rfl
theorem x_TPName {QP : SV → Nat → List Sp1 → Prop} : TPName i S QP = (okS S i ∧ QP S i []) := rfl
theorem x_TGSub {Tp : VTP} {OO : OM (D × D)} : TGSub p2 Tp T OO d S QS = Tp S fun S1 i ps => T S1 fun S2 al k => (ps.isEmpty || p2) = true ∧ al = true ∧ (match atP S2 i ps with | some c => OO c (k, d) fun c' _ => K1 QS ⟨⟩ (putP S2 i ps c') | none => False) := rfl
theorem x_TM1 {ty : String} {Tp : VTP} {OO : OM D} : TM1 ty p2 Tp T OO S Q = Tp S fun S1 i ps => isTy ty (atP S1 i ps) ∧ T S1 fun S2 al d => (ps.isEmpty || p2) = true ∧ al = true ∧ (match atP S2 i ps with | some c => OO c d fun c' r => K3 Q ⟨⟩ (putP S2 i ps c') true r | none => False) := rfl
theorem x_TSl {Tl Th : SV → (SV → Option Int → Prop) → Prop} : TSl p2 p3 T Tl Th S Q = T S fun S1 al d => Tl S1 fun S2 lo => Th S2 fun S3 hi => ((p2 && p3) || al || d.scal) = true ∧ oSl lo hi al d (Q S3) := rfl
theorem x_TPart {QO : SV → Option Int → Prop} : TPart T S QO = T S fun S1 _ d => (match d with | .int i => QO S1 (some i) | _ => False) := rfl
theorem x_forNil : forT G U W [] S = W.nx S := rfl
theorem x_forCons {x : D} {xs : List D} : forT G U W (x :: xs) S = G x S fun S1 => U { nx := forT G U W xs, ct := forT G U W xs, bk := W.nx, rt := W.rt, xc := W.xc } S1 := rfl
end
/-- a for by what holds ahead of each turn -/
theorem for_from {G : VTG} {U : VTS} {W : VD} (I : Nat → SV → Prop) : ∀ {xs : List D} {S : SV} (m : Nat), I m S →
    (∀ (k : Nat) (x : D) (S : SV) (cont : SV → Prop), xs[k]? = some x → I (m + k) S → (∀ S', I (m + k + 1) S' → cont S') → G x S fun S1 => U { nx := cont, ct := cont, bk := W.nx, rt := W.rt, xc := W.xc } S1) →
    (∀ S, I (m + xs.length) S → W.nx S) → forT G U W xs S
  | [], S, m, h0, hs, he => he S h0
  | x :: xs, S, m, h0, hs, he => by
    rw [x_forCons]
    refine hs 0 x S _ rfl h0 fun S' h' => ?_
    exact for_from I (m + 1) h' (fun k y S2 cont e h2 h3 => hs (k + 1) y S2 cont (by simpa using e) (by rw [show m + (k + 1) = m + 1 + k by omega]; exact h2) (fun S3 h4 => h3 S3 (by rw [show m + 1 + k + 1 = m + (k + 1) + 1 by omega]; exact h4)))
      (fun S2 h2 => he S2 (by rw [List.length_cons, show m + (xs.length + 1) = m + 1 + xs.length by omega]; exact h2))
theorem for_by {G : VTG} {U : VTS} {W : VD} {xs : List D} {S : SV} (I : Nat → SV → Prop) (h0 : I 0 S)
    (hs : ∀ (k : Nat) (x : D) (S : SV) (cont : SV → Prop), xs[k]? = some x → I k S → (∀ S', I (k + 1) S' → cont S') → G x S fun S1 => U { nx := cont, ct := cont, bk := W.nx, rt := W.rt, xc := W.xc } S1)
    (he : ∀ S, I xs.length S → W.nx S) : forT G U W xs S :=
  for_from I 0 h0 (fun k x S cont e h2 h3 => hs k x S cont e (by rw [Nat.zero_add] at h2; exact h2) (fun S' h' => h3 S' (by rw [Nat.zero_add]; exact h'))) (fun S h => he S (by rw [Nat.zero_add] at h; exact h))
end VL

namespace VL
open PySem PySem.Spec PyProof.Rows L2

/-! ### comprehensions -/
def wipeS : List Nat → SV → SV
  | [], S => S
  | v :: vs, S => (wipeS vs S).set v .unk
def backS (S0 : SV) : List Nat → SV → SV
  | [], S => S
  | v :: vs, S => backS S0 vs (S.set v (S0.getD v .unk))
/-- names as targets of a comprehension: they alone change -/
def SndN (K : PySem.W.Frag) (vs : List Nat) (t : TG) (T : VTG) : Prop := ∀ (F H : Hp) (σ : L2.St) (S : SV) (fp : List Addr) (d : D) (v : V) (Q : SV → Prop) (R : L2.St → Hp → Prop), Good K F H σ S fp → Rep K F H d v [] → T d S Q →
  (∀ (σ' : L2.St) (S' : SV) (fp' : List Addr), Good K F H σ' S' fp' → σ'.length = σ.length → (∀ j, j ∉ vs → σ'[j]? = σ[j]?) → (∀ a ∈ fp', a ∈ fp) → Q S' → R σ' H) → t v σ H R
structure VN (X : Cx) (K : PySem.W.Frag) (vs : List Nat) (tg : Expr) (t : TG) (T : VTG) : Prop where
  pe : PG X tg t
  snd : SndN K vs t T
def SndNs (K : PySem.W.Frag) (vs : List Nat) (t : TGs) (T : VTGs) : Prop := ∀ (F H : Hp) (σ : L2.St) (S : SV) (fp : List Addr) (ds : List D) (us : List V) (Q : SV → Prop) (R : L2.St → Hp → Prop), Good K F H σ S fp → RepL K F H ds us [] → T ds S Q →
  (∀ (σ' : L2.St) (S' : SV) (fp' : List Addr), Good K F H σ' S' fp' → σ'.length = σ.length → (∀ j, j ∉ vs → σ'[j]? = σ[j]?) → (∀ a ∈ fp', a ∈ fp) → Q S' → R σ' H) → t us σ H R
structure VNs (X : Cx) (K : PySem.W.Frag) (vs : List Nat) (tg : List Expr) (t : TGs) (T : VTGs) : Prop where
  pe : PGs X tg t
  snd : SndNs K vs t T
section
variable {X : Cx} {K : PySem.W.Frag} {vs : List Nat} {pos : Pos}
theorem vn_name {x : Str} (i : Nat) (hi : i ∈ vs) (h : PG X (.Name x pos) (gName i)) : VN X K vs (.Name x pos) (gName i) (TGName i) := ⟨h, fun F H σ S fp d v Q R g r q k => by
  obtain ⟨fp', g', m⟩ := g.put q.1 r List.nodup_nil (fun a ha => absurd ha (by simp))
  exact k _ _ fp' g' List.length_set (fun j hj => List.getElem?_set_ne (fun e => hj (by rw [← e]; exact hi))) (fun a ha => (m a ha).elim (fun z => absurd z (by simp)) id) q.2⟩
theorem vns_nil : VNs X K vs [] gNil TGNil := ⟨pgs_nil, fun F H σ S fp ds us Q R g r q k => by
  obtain ⟨rfl, q⟩ := q
  rw [RepL] at r
  exact ⟨r.1, k σ S fp g rfl (fun _ _ => rfl) (fun _ h => h) q⟩⟩
theorem vns_cons {tg : Expr} {tgs : List Expr} {T : VTG} {U : VTGs} {gt : TG} {gu : TGs} (h1 : VN X K vs tg gt T) (h2 : VNs X K vs tgs gu U) (hs : (assignEach (tg :: tgs) X.env).map (·.2) = assign tg X.env :: (assignEach tgs X.env).map (·.2) := by rfl) : VNs X K vs (tg :: tgs) (gCons gt gu) (TGCons T U) := ⟨pgs_cons h1.pe h2.pe hs, fun F H σ S fp ds us Q R g r q k => by
  cases ds with
  | nil => exact q.elim
  | cons d ds =>
    rw [RepL] at r
    obtain ⟨v, us', f1, f2, rfl, ef, r1, r2⟩ := r
    obtain ⟨rfl, rfl⟩ := List.append_eq_nil_iff.mp ef.symm
    refine ⟨v, us', rfl, h1.snd F H σ S fp d v _ _ g r1 q fun σ1 S1 fp1 g1 l1 p1 m1 q1 => ?_⟩
    exact h2.snd F H σ1 S1 fp1 ds us' _ _ g1 r2 q1 fun σ2 S2 fp2 g2 l2 p2 m2 q2 => k σ2 S2 fp2 g2 (l2.trans l1) (fun j hj => (p2 j hj).trans (p1 j hj)) (fun a ha => m1 a (m2 a ha)) q2⟩
theorem vn_tup {es : List Expr} {k n : Nat} {T : VTGs} {gt : TGs} (hK : X.K = K) (hc : X.calm = true) (h : VNs X K vs es gt T) (hn : (assignEach es X.env).length = n := by rfl) (hst : (assignEach es X.env).findIdx? (·.1) = none := by rfl) : VN X K vs (.Tuple es k pos) (gTup K n gt) (TGTup n T) := by
  subst hK
  refine ⟨pg_tup hc h.pe hn hst, fun F H σ S fp d v Q R g r q k => ?_⟩
  cases d with
  | tup ds =>
    obtain ⟨a, us, rfl, hs, rl⟩ := tup_parts r
    exact ⟨a, us, rfl, g.sub.seqT hs, by rw [← rl.len]; exact q.1, h.snd F H σ S fp ds us _ _ g rl q.2 k⟩
  | _ => exact q.elim
end
/-! a clause's test -/
structure VC (X : Cx) (K : PySem.W.Frag) (p : Bool) (ifs : List Expr) (t : TT) (T : VB) : Prop where
  pe : PTs X ifs t
  snd : SndB K p t T
def TYes : VB := fun S Q => Q S true
section
variable {X : Cx} {K : PySem.W.Frag} {p : Bool}
theorem vts_nil : VC X K true [] tYes TYes := ⟨pts_nil, fun F H σ S fp Q R g q k => k F H S fp true g Step.refl (fun _ => ⟨rfl, rfl, Grow.refl g.sub⟩) q⟩
theorem vts_one {c : Expr} {t : TT} {T : VB} (h : VQ X K p c t T) : VC X K p [c] t T := ⟨pts_one h.pe, h.snd⟩
end
/-! slots forgotten, and told again -/
section
variable {K : PySem.W.Frag} {F F' H H' : Hp}
theorem RepS.forget {S : SV} {σ : L2.St} {fp : List Addr} (r : RepS K F H S σ fp) (v : Nat) : ∃ fp', RepS K F H (S.set v .unk) (σ.set v none) fp' ∧ fp'.Sublist fp := by
  by_cases h : v < S.length
  · obtain ⟨ov, f1, f2, f3, e, rfl, ro, pt⟩ := r.lens (List.getElem?_eq_getElem h)
    exact ⟨f1 ++ ([] ++ f3), pt Sub.refl (fun _ _ _ h => h) ⟨rfl, rfl⟩, (List.Sublist.refl f1).append ((List.nil_sublist f2).append (List.Sublist.refl f3))⟩
  · rw [List.set_eq_of_length_le (by omega), List.set_eq_of_length_le (by rw [← r.len]; omega)]
    exact ⟨fp, r, List.Sublist.refl _⟩
theorem RepS.forgets {S : SV} {σ : L2.St} : ∀ (vs : List Nat) {fp : List Addr}, RepS K F H S σ fp → ∃ fp', RepS K F H (wipeS vs S) (wipe σ vs) fp' ∧ fp'.Sublist fp
  | [], fp, r => ⟨fp, r, List.Sublist.refl _⟩
  | v :: vs, fp, r => by
    obtain ⟨f1, r1, s1⟩ := RepS.forgets vs r
    obtain ⟨f2, r2, s2⟩ := r1.forget v
    exact ⟨f2, r2, s2.trans s1⟩
theorem Good.wiped {S : SV} {σ : L2.St} {fp : List Addr} (g : Good K F H σ S fp) (vs : List Nat) : ∃ fp', Good K F H (wipe σ vs) (wipeS vs S) fp' ∧ fp'.Sublist fp := by
  obtain ⟨fp', r, s⟩ := g.rep.forgets vs
  exact ⟨fp', ⟨g.sub, r, g.nd.sublist s, fun a ha => g.dis a (s.subset ha)⟩, s⟩
theorem wipe_get {σ : L2.St} {j : Nat} : ∀ {vs : List Nat}, j ∉ vs → (wipe σ vs)[j]? = σ[j]?
  | [], _ => rfl
  | v :: vs, h => by
    show ((wipe σ vs).set v none)[j]? = _
    rw [List.getElem?_set_ne (fun e => h (by rw [e]; simp))]
    exact wipe_get (fun z => h (by simp [z]))
theorem wipe_ext {σ τ : L2.St} {vs : List Nat} (hl : τ.length = σ.length) (h : ∀ j, j ∉ vs → τ[j]? = σ[j]?) : wipe τ vs = wipe σ vs := by
  apply List.ext_getElem?
  intro j
  by_cases hj : j ∈ vs
  · have : ∀ (vs : List Nat) (ρ : L2.St), j ∈ vs → (wipe ρ vs)[j]? = if j < ρ.length then some none else none := by
      intro vs
      induction vs with
      | nil => intro ρ h; cases h
      | cons v vs ih =>
        intro ρ h
        show ((wipe ρ vs).set v none)[j]? = _
        by_cases e : v = j
        · subst e
          by_cases hl : v < ρ.length
          · rw [List.getElem?_set_self (by rw [wipe_length]; exact hl), if_pos hl]
          · rw [List.getElem?_eq_none (by rw [List.length_set, wipe_length]; omega), if_neg hl]
        · rw [List.getElem?_set_ne e]
          exact ih ρ ((List.mem_cons.mp h).resolve_left (fun z => e z.symm))
    rw [this vs τ hj, this vs σ hj, hl]
  · rw [wipe_get hj, wipe_get hj, h j hj]
/-- the forgotten slots are told again: what they held was fixed -/
theorem RepS.told {F0 H0 : Hp} {S0 : SV} {σ : L2.St} {fp0 : List Addr} (r0 : RepS K F0 H0 S0 σ fp0) (hF : Sub F0 F) : ∀ (vs : List Nat) {S : SV} {fp : List Addr}, vs.Nodup → (∀ i ∈ vs, (S0.getD i .unk).imm = true) → RepS K F H S (wipe σ vs) fp → RepS K F H (backS S0 vs S) σ fp
  | [], S, fp, _, _, r => r
  | v :: vs, S, fp, nd, hi, r => by
    obtain ⟨nv, nd'⟩ := List.nodup_cons.mp nd
    refine RepS.told r0 hF vs nd' (fun i h => hi i (by simp [h])) ?_
    have r : RepS K F H S ((wipe σ vs).set v none) fp := r
    by_cases h : v < S.length
    · have hl : v < (wipe σ vs).length := by have := r.len; rw [List.length_set] at this; omega
      obtain ⟨ov, f1, f2, f3, e, rfl, ro, pt⟩ := r.lens (List.getElem?_eq_getElem h)
      rw [List.getElem?_set_self hl] at e
      cases e
      obtain ⟨_, rfl⟩ := ro
      have hl2 : v < σ.length := by rw [wipe_length] at hl; exact hl
      have h0 : v < S0.length := by rw [r0.len]; exact hl2
      obtain ⟨ov, g1, g2, g3, e2, _, ro0, _⟩ := r0.lens (List.getElem?_eq_getElem h0)
      have eD : S0.getD v .unk = S0[v] := by rw [List.getD_eq_getElem?_getD, List.getElem?_eq_getElem h0]; rfl
      have im := hi v (by simp)
      rw [eD] at im
      have e3 : (wipe σ vs)[v]? = some ov := by rw [wipe_get nv]; exact e2
      have r1 : RepO K F H S0[v] ov [] := by
        cases ov with
        | none => exact ⟨ro0.1, rfl⟩
        | some u =>
          have ru : Rep K F0 H0 S0[v] u g2 := ro0
          have := ru.ofImm im
          subst this
          exact ru.mono hF fun a ha => absurd ha (by simp)
      have := pt Sub.refl (fun _ _ _ h => h) r1
      rw [List.set_set, set_self e3] at this
      rw [eD]
      exact this
    · rw [List.set_eq_of_length_le (by omega)]
      have hl : ¬ v < (wipe σ vs).length := by have := r.len; rw [List.length_set] at this; omega
      rw [List.set_eq_of_length_le (by omega)] at r
      exact r
end
def lcT (G : VTG) (Tt : VB) (Te : VT) (vs : List Nat) (Q : SV → List D → Prop) : List D → SV → List D → Prop
  | [], S, acc => Q S acc
  | x :: xs, S, acc => G x S fun S1 => Tt S1 fun S2 b => (b = true → Te S2 fun S3 al d => al = true ∧ acc.length < sizeLine ∧ lcT G Tt Te vs Q xs (wipeS vs S3) (acc ++ [d])) ∧ (b = false → lcT G Tt Te vs Q xs (wipeS vs S2) acc)
/-- the parts may do things -/
def TLc (Ti : VTI) (G : VTG) (Tt : VB) (Te : VT) (vs : List Nat) : VT := fun S Q => Ti S fun S1 items => vs.all (fun i => (S1.getD i .unk).imm) = true ∧ lcT G Tt Te vs (fun S2 acc => Q (backS S1 vs S2) true (.lst true acc)) items (wipeS vs S1) []
/-- what has been gathered so far -/
structure Gath (K : PySem.W.Frag) (F H : Hp) (D0 : Addr) (fp : List Addr) (acc : List D) (fa : List Addr) : Prop where
  ex : ∃ us, H D0 = some (.lst us) ∧ RepL K F H acc us fa
  nd : (D0 :: fa).Nodup
  dis : ∀ a ∈ D0 :: fa, F a = none ∧ a ∉ fp
section
variable {K : PySem.W.Frag} {F F' F1 H H' H1 : Hp} {D0 : Addr} {fp fp' fa fq : List Addr} {acc : List D}
theorem Gath.mu (g : Gath K F H D0 fp acc fa) : ∀ a ∈ D0 :: fa, ∃ o, H a = some o := fun a ha => by
  obtain ⟨us, h, rl⟩ := g.ex
  rcases List.mem_cons.mp ha with rfl | ha
  · exact ⟨_, h⟩
  · obtain ⟨o, e, _⟩ := rl.mu a ha
    exact ⟨o, e⟩
theorem Gath.step (g : Gath K F H D0 fp acc fa) (s : Step fp F H F' H' fp') : Gath K F' H' D0 fp' acc fa := by
  obtain ⟨us, h, rl⟩ := id g.ex
  refine ⟨⟨us, s.keep _ _ h (g.dis D0 (by simp)).2, rl.mono s.fsub fun a ha o e => s.keep a o e (g.dis a (by simp [ha])).2⟩, g.nd, fun a ha => ?_⟩
  obtain ⟨o, e⟩ := g.mu a ha
  obtain ⟨z1, z2⟩ := g.dis a ha
  refine ⟨?_, fun hb => ?_⟩
  · cases e2 : F' a with
    | none => rfl
    | some u =>
      rcases s.fnew a (by rw [e2]; simp) with w | w | w
      · exact absurd z1 w
      · exact absurd w z2
      · rw [e] at w; cases w
  · rcases s.own a hb with w | w
    · exact z2 w
    · rw [e] at w; cases w
theorem Gath.sub (g : Gath K F H D0 fp acc fa) (h : ∀ a ∈ fp', a ∈ fp) : Gath K F H D0 fp' acc fa := ⟨g.ex, g.nd, fun a ha => ⟨(g.dis a ha).1, fun z => (g.dis a ha).2 (h a z)⟩⟩
end
section
variable {X : Cx} {K : PySem.W.Frag} {p pi pt pe : Bool} {elt tg iter : Expr} {ifs : List Expr} {scope : Scope} {own : List (Str × Nat)} {pos : Pos} {wi : TI} {Ti : VTI} {g : TG} {G : VTG} {tt : TT} {Tt : VB} {te : TE} {Te : VT}
theorem Snd.lc {vs : List Nat} (hnv : vs.Nodup) (hi : SndI K pi wi Ti) (hg : SndN K vs g G) (ht : SndB K pt tt Tt) (he : Snd K pe te Te) : Snd K false (tLc wi g tt te vs) (TLc Ti G Tt Te vs) := fun F H σ S fp Q R gd q k => by
  refine hi F H σ S fp _ _ gd q fun F1 H1 S1 fp1 J items g1 st1 _ it q1 => ?_
  obtain ⟨im, q1⟩ := q1
  have im' : ∀ i ∈ vs, (S1.getD i .unk).imm = true := fun i h => List.all_eq_true.mp im i h
  intro D0 hD
  obtain ⟨fpw, gw, sw⟩ := g1.wiped vs
  have gr0 : Grow F1 H1 F1 (upd H1 D0 (.lst [])) := Grow.owned g1.sub hD
  -- what holds between two turns
  refine ⟨fun i m H2 => ∃ F2 S2 fp2 acc fa, Good K F2 H2 (wipe σ vs) S2 fp2 ∧ Gath K F2 H2 D0 fp2 acc fa ∧ Step fp F H F2 H2 (D0 :: (fa ++ fp2)) ∧ Sub F1 F2 ∧ m = items.length - i ∧ i ≤ items.length ∧ lcT G Tt Te vs (fun S2 acc => Q (backS S1 vs S2) true (.lst true acc)) (items.drop i) S2 acc,
    ⟨items.length, F1, wipeS vs S1, fpw, [], [], gw.grow gr0, ⟨⟨[], upd_same, by rw [RepL]; exact ⟨rfl, rfl⟩⟩, by simp, fun a ha => ?_⟩, ?_, Sub.refl, by simp, Nat.zero_le _, by simpa using q1⟩, ?_⟩
  · have e : a = D0 := by simpa using ha
    subst e
    refine ⟨g1.sub.none hD, fun z => ?_⟩
    obtain ⟨o, e, _⟩ := g1.rep.mu a (sw.subset z)
    rw [hD] at e; cases e
  · have s2 := st1.trans (gr0.step (fp := fp1))
    refine ⟨s2.fsub, s2.keep, s2.fnew, fun a ha => ?_⟩
    simp only [List.nil_append, List.mem_cons] at ha
    rcases ha with rfl | ha
    · exact st1.back (.inr hD)
    · exact st1.own a (sw.subset ha)
  · rintro i m H2 ⟨F2, S2, fp2, acc, fa, g2, ga2, st2, sb2, rfl, hil, q2⟩
    obtain ⟨go, stop⟩ := it F2 H2 sb2 g2.sub
    by_cases hlt : i < items.length
    · obtain ⟨go1, go2⟩ := go i _ (List.getElem?_eq_getElem hlt)
      rw [List.drop_eq_getElem_cons hlt] at q2
      refine .inr ⟨go1, fun H3 => ∃ F3 S3 fp3 acc fa, Good K F3 H3 (wipe σ vs) S3 fp3 ∧ Gath K F3 H3 D0 fp3 acc fa ∧ Step fp F H F3 H3 (D0 :: (fa ++ fp3)) ∧ Sub F1 F3 ∧ lcT G Tt Te vs (fun S2 acc => Q (backS S1 vs S2) true (.lst true acc)) (items.drop (i + 1)) S3 acc,
        fun H3 ⟨F3, S3, fp3, acc, fa, g3, ga3, st3, sb3, q3⟩ => ⟨items.length - (i + 1), by omega, F3, S3, fp3, acc, fa, g3, ga3, st3, sb3, rfl, hlt, q3⟩, fun x H3 y => ?_⟩
      obtain ⟨F3, gr, rx⟩ := go2 x H3 y
      have g3 := g2.grow gr
      have ga3 := ga2.step (gr.step (fp := fp2))
      have st3 := st2.trans (gr.step (fp := D0 :: (fa ++ fp2)))
      refine hg F3 H3 (wipe σ vs) S2 fp2 _ x _ _ g3 rx q2 fun σ4 S4 fp4 g4 l4 p4 m4 q4 => ?_
      have ew : wipe σ4 vs = wipe σ vs := by
        have e1 := wipe_ext (σ := wipe σ vs) (τ := σ4) (vs := vs) l4 p4
        rw [e1]
        exact wipe_ext (wipe_length σ vs) fun j hj => wipe_get hj
      refine ⟨ew, ?_⟩
      have ga4 := ga3.sub m4
      have st4 : Step fp F H F3 H3 (D0 :: (fa ++ fp4)) := ⟨st3.fsub, st3.keep, st3.fnew, fun a ha => st3.own a (by
        simp only [List.mem_cons, List.mem_append] at ha ⊢
        rcases ha with z | z | z
        · exact .inl z
        · exact .inr (.inl z)
        · exact .inr (.inr (m4 a z)))⟩
      -- a later part does not touch what has been gathered
      have grow : ∀ {fpa fpb : List Addr} {Fa Ha Fb Hb : Hp}, Gath K Fa Ha D0 fpa acc fa → Step fp F H Fa Ha (D0 :: (fa ++ fpa)) → Step fpa Fa Ha Fb Hb fpb → Step fp F H Fb Hb (D0 :: (fa ++ fpb)) := fun {fpa fpb Fa Ha Fb Hb} ga sa sb => by
        refine ⟨sa.fsub.trans sb.fsub, fun a o e n => sb.keep a o (sa.keep a o e n) fun z => ?_, fun a h => ?_, fun a ha => ?_⟩
        · rcases sa.own a (by simp [z]) with w | w
          · exact n w
          · rw [e] at w; cases w
        · rcases sb.fnew a h with z | z | z
          · exact sa.fnew a z
          · exact .inr (sa.own a (by simp [z]))
          · exact .inr (sa.back (.inr z))
        · simp only [List.mem_cons, List.mem_append] at ha
          rcases ha with z | z | z
          · exact sa.own a (by simp [z])
          · exact sa.own a (by simp [z])
          · rcases sb.own a z with w | w
            · exact sa.own a (by simp [w])
            · exact sa.back (.inr w)
      refine ht F3 H3 σ4 S4 fp4 _ _ g4 q4 fun F5 H5 S5 fp5 b g5 st5 _ q5 => ?_
      have ga5 := ga4.step st5
      have st5' := grow ga4 st4 st5
      have sb5 : Sub F1 F5 := (sb2.trans gr.fsub).trans st5.fsub
      cases b with
      | false =>
        rw [if_neg Bool.false_ne_true]
        obtain ⟨fp6, g6, s6⟩ := g5.wiped vs
        rw [ew] at g6
        refine ⟨F5, wipeS vs S5, fp6, acc, fa, g6, ga5.sub fun a ha => s6.subset ha, ⟨st5'.fsub, st5'.keep, st5'.fnew, fun a ha => st5'.own a ?_⟩, sb5, q5.2 rfl⟩
        simp only [List.mem_cons, List.mem_append] at ha ⊢
        rcases ha with z | z | z
        · exact .inl z
        · exact .inr (.inl z)
        · exact .inr (.inr (s6.subset z))
      | true =>
        rw [if_pos rfl]
        refine he F5 H5 σ4 S5 fp5 _ _ g5 (q5.1 rfl) fun F6 H6 S6 fp6 al d v fq r6 q6 => ?_
        obtain ⟨eal, hsz, q6⟩ := q6
        subst eal
        obtain ⟨nq, sq⟩ := r6.sep rfl
        have ga6 := ga5.step r6.step
        have st6 := grow ga5 st5' r6.step
        obtain ⟨us, hH, rl⟩ := id ga6.ex
        refine ⟨us, hH, by rw [← rl.len]; exact hsz, ?_⟩
        obtain ⟨fp7, g7, s7⟩ := r6.good.wiped vs
        rw [ew] at g7
        -- the new one is put behind
        have nD : ∀ a ∈ fa ++ fq, a ≠ D0 := fun a ha e => by
          subst e
          rcases List.mem_append.mp ha with z | z
          · exact (List.nodup_cons.mp ga6.nd).1 z
          · obtain ⟨o, e, _⟩ := r6.rep.mu a z
            rcases (sq a z).2.2 with w | w
            · exact (ga5.dis a (by simp)).2 w
            · obtain ⟨o', e'⟩ := ga5.mu a (by simp)
              rw [w] at e'; cases e'
        have nDp : D0 ∉ fp7 := fun z => (ga6.dis D0 (by simp)).2 (s7.subset z)
        have FD : F6 D0 = none := (ga6.dis D0 (by simp)).1
        have keepA : ∀ a, a ≠ D0 → ∀ o, H6 a = some o → upd H6 D0 (.lst (us ++ [v])) a = some o := fun a n o e => by rw [upd_ne n]; exact e
        have g8 : Good K F6 (upd H6 D0 (.lst (us ++ [v]))) (wipe σ vs) (wipeS vs S6) fp7 := ⟨fun a o e => keepA a (fun z => by subst z; rw [FD] at e; cases e) o (g7.sub a o e), g7.rep.mono Sub.refl fun a ha o e => keepA a (fun z => nDp (by rw [← z]; exact ha)) o e, g7.nd, g7.dis⟩
        have dj : ∀ a ∈ fa, a ∉ fq := fun a ha hb => by
          rcases (sq a hb).2.2 with w | w
          · exact (ga5.dis a (by simp [ha])).2 w
          · obtain ⟨o', e'⟩ := ga5.mu a (by simp [ha])
            rw [w] at e'; cases e'
        have ga8 : Gath K F6 (upd H6 D0 (.lst (us ++ [v]))) D0 fp7 (acc ++ [d]) (fa ++ fq) := by
          refine ⟨⟨us ++ [v], upd_same, (rl.mono Sub.refl fun a ha o e => keepA a (nD a (by simp [ha])) o e).app (rep_one (r6.rep.mono Sub.refl fun a ha o e => keepA a (nD a (by simp [ha])) o e))⟩, ?_, fun a ha => ?_⟩
          · refine List.nodup_cons.mpr ⟨fun z => nD D0 z rfl, List.nodup_append.mpr ⟨(List.nodup_cons.mp ga6.nd).2, nq, fun a ha b hb e => by subst e; exact dj a ha hb⟩⟩
          · rcases List.mem_cons.mp ha with rfl | ha
            · exact ⟨FD, nDp⟩
            · rcases List.mem_append.mp ha with z | z
              · exact ⟨(ga6.dis a (by simp [z])).1, fun w => (ga6.dis a (by simp [z])).2 (s7.subset w)⟩
              · exact ⟨(sq a z).1, fun w => (sq a z).2.1 (s7.subset w)⟩
        refine ⟨F6, wipeS vs S6, fp7, acc ++ [d], fa ++ fq, g8, ga8, ⟨st6.fsub, fun a o e n => ?_, st6.fnew, fun a ha => ?_⟩, sb5.trans r6.step.fsub, q6⟩
        · refine keepA a (fun z => ?_) o (st6.keep a o e n)
          subst z
          rcases st6.own a (by simp) with w | w
          · exact n w
          · rw [e] at w; cases w
        · simp only [List.mem_cons, List.mem_append] at ha
          rcases ha with z | (z | z) | z
          · exact st6.own a (by simp [z])
          · exact st6.own a (by simp [z])
          · rcases (sq a z).2.2 with w | w
            · exact st5'.own a (by simp [w])
            · exact st5'.back (.inr w)
          · exact st6.own a (by simp [s7.subset z])
    · have e : items.drop i = [] := List.drop_eq_nil_of_le (by omega)
      rw [e] at q2
      refine .inl ⟨stop i (by omega), ?_⟩
      obtain ⟨us, hH, rl⟩ := id ga2.ex
      have rS := RepS.told (K := K) (F := F2) (H := H2) g1.rep sb2 vs hnv im' g2.rep
      refine k F2 H2 (backS S1 vs S2) fp2 true _ (.ref D0) (D0 :: fa) ⟨⟨g2.sub, rS, g2.nd, g2.dis⟩, ?_, ⟨st2.fsub, st2.keep, st2.fnew, fun a ha => st2.own a (by simp [ha])⟩, fun _ => ⟨ga2.nd, fun a ha => ⟨(ga2.dis a ha).1, (ga2.dis a ha).2, st2.own a ?_⟩⟩, (fun z => nomatch z)⟩ q2
      · rw [Rep]; exact ⟨D0, us, fa, rfl, rl, .inl ⟨rfl, hH, rfl⟩⟩
      · rcases List.mem_cons.mp ha with rfl | ha <;> simp_all
theorem ve_lc (hc : X.calm = true) (hN : X.N.Nodup) (hi : VI X K pi tg iter wi Ti) (ok : BlkOk X.N X.env.scope scope own) (hnv : (own.map (·.2)).Nodup)
    (hg : ∀ (s : Shared) (H : Hp) (C : Addr) (cl : List (Str × Addr)) (fp : List Addr), VN (X.blk s H scope (compEnvC scope cl C X.env) fp) K (own.map (·.2)) tg g G) (ht : ∀ (s : Shared) (H : Hp) (C : Addr) (cl : List (Str × Addr)) (fp : List Addr), VC (X.blk s H scope (compEnvC scope cl C X.env) fp) K pt ifs tt Tt)
    (he : ∀ (s : Shared) (H : Hp) (C : Addr) (cl : List (Str × Addr)) (fp : List Addr), VE (X.blk s H scope (compEnvC scope cl C X.env) fp) K pe elt te Te) (s0 : Shared) (h0 : Hp) (hs : ∀ x, foldedSetIterable iter X.env x = pure x := by intro _; rfl) :
    VE X K false (.ListComp elt [⟨tg, iter, ifs, 0⟩] scope pos) (tLc wi g tt te (own.map (·.2))) (TLc Ti G Tt Te (own.map (·.2))) :=
  ⟨pe_lc hc hN hi.pe ok (fun s H C cl fp => (hg s H C cl fp).pe) (fun s H C cl fp => (ht s H C cl fp).pe) (fun s H C cl fp => (he s H C cl fp).pe) hs, Snd.lc hnv hi.snd (hg s0 h0 0 [] []).snd (ht s0 h0 0 [] []).snd (he s0 h0 0 [] []).snd⟩
theorem vs_setLc {pin : List Nat} {i : Nat} {y : Str} {py spos : Pos} (hp : i ∉ pin) (hc : X.calm = true) (hN : X.N.Nodup) (hy : X.N[i]? = some y) (hyl : X.env.scope.names.lookup y = some .local)
    (hsw : swapsWith (.ListComp elt [⟨tg, iter, ifs, 0⟩] scope pos) (some (.Name y py)) spos.line X.env = pure true) (hi : VI X K pi tg iter wi Ti) (ok : BlkOk X.N X.env.scope scope own) (hnv : (own.map (·.2)).Nodup)
    (hg : ∀ (s : Shared) (H : Hp) (C : Addr) (cl : List (Str × Addr)) (fp : List Addr), VN (X.blk s H scope (compEnvC scope cl C X.env) fp) K (own.map (·.2)) tg g G) (ht : ∀ (s : Shared) (H : Hp) (C : Addr) (cl : List (Str × Addr)) (fp : List Addr), VC (X.blk s H scope (compEnvC scope cl C X.env) fp) K pt ifs tt Tt)
    (he : ∀ (s : Shared) (H : Hp) (C : Addr) (cl : List (Str × Addr)) (fp : List Addr), VE (X.blk s H scope (compEnvC scope cl C X.env) fp) K pe elt te Te) (s0 : Shared) (h0 : Hp) (hs : ∀ x, foldedSetIterable iter X.env x = pure x := by intro _; rfl) :
    VS X K pin (.Assign [.Name y py] (.ListComp elt [⟨tg, iter, ifs, 0⟩] scope pos) spos) (TAsg (TLc Ti G Tt Te (own.map (·.2))) (TGName i)) :=
  ⟨_, ps_setLc hc hN hy hyl hsw hi.pe ok (fun s H C cl fp => (hg s H C cl fp).pe) (fun s H C cl fp => (ht s H C cl fp).pe) (fun s H C cl fp => (he s H C cl fp).pe) hs, SndS.asg (Snd.lc hnv hi.snd (hg s0 h0 0 [] []).snd (ht s0 h0 0 [] []).snd (he s0 h0 0 [] []).snd) (SndG.name hp)⟩
end
end VL

namespace VL
open PySem PySem.Spec PyProof.Rows L2
/-! small facts for the readings -/
theorem atI_0 {α : Type} {x : α} {xs : List α} : L2.atI (x :: xs) 0 = some x := by
  unfold L2.atI ixN
  rw [if_pos (by decide), if_pos (by rw [List.length_cons]; omega)]
  rfl
theorem atI_1 {α : Type} {x y : α} {xs : List α} : L2.atI (x :: y :: xs) 1 = some y := by
  unfold L2.atI ixN
  rw [if_pos (by decide), if_pos (by simp only [List.length_cons]; omega)]
  rfl
theorem atI_2 {α : Type} {x y z : α} {xs : List α} : L2.atI (x :: y :: z :: xs) 2 = some z := by
  unfold L2.atI ixN
  rw [if_pos (by decide), if_pos (by simp only [List.length_cons]; omega)]
  rfl
theorem ixN_0 {n : Nat} : ixN (n + 1) 0 = some 0 := by
  unfold ixN
  rw [if_pos (by decide), if_pos (by omega)]
  rfl
theorem ixN_1 {n : Nat} : ixN (n + 1 + 1) 1 = some 1 := by
  unfold ixN
  rw [if_pos (by decide), if_pos (by omega)]
  rfl
theorem begin_eq (N n : Nat) (ds : List D) : begin N n ds = ds ++ List.replicate (N - n) .unk := rfl
theorem fin_0 {pin : List Nat} {S : SV} : VL.fin pin 0 S = [] := rfl
theorem fin_1 {pin : List Nat} {S : SV} : VL.fin pin 1 S = [if 0 ∈ pin then S.getD 0 .unk else .unk] := rfl
theorem fin_2 {pin : List Nat} {S : SV} : VL.fin pin 2 S = [if 0 ∈ pin then S.getD 0 .unk else .unk, if 1 ∈ pin then S.getD 1 .unk else .unk] := rfl
theorem fin_3 {pin : List Nat} {S : SV} : VL.fin pin 3 S = [if 0 ∈ pin then S.getD 0 .unk else .unk, if 1 ∈ pin then S.getD 1 .unk else .unk, if 2 ∈ pin then S.getD 2 .unk else .unk] := rfl
theorem fin_4 {pin : List Nat} {S : SV} : VL.fin pin 4 S = [if 0 ∈ pin then S.getD 0 .unk else .unk, if 1 ∈ pin then S.getD 1 .unk else .unk, if 2 ∈ pin then S.getD 2 .unk else .unk, if 3 ∈ pin then S.getD 3 .unk else .unk] := rfl
section
variable {al al1 al2 : Bool} {i j : Int} {Q : Bool → D → Prop} {C : Int → Int → Prop} {f : Int → Int → Int} {fb : Int → Int → Bool} {d d1 d2 : D} {xs ys : List D} {m m' b b' : Bool} {x y : Str}
theorem y_oI : oI C f al1 (.int i) al2 (.int j) Q = (C i j ∧ K2 Q ⟨⟩ true (.int (f i j))) := rfl
theorem y_oB : oB fb al1 (.int i) al2 (.int j) Q = K2 Q ⟨⟩ true (.bl (fb i j)) := rfl
theorem y_addI : oAdd al1 (.int i) al2 (.int j) Q = Q true (.int (i + j)) := rfl
theorem y_addS : oAdd al1 (.str x) al2 (.str y) Q = (x.length + y.length ≤ sizeLine ∧ Q true (.str (x ++ y))) := rfl
theorem y_addL : oAdd al1 (.lst m xs) al2 (.lst m' ys) Q = (xs.length + ys.length ≤ sizeLine ∧ K2 Q ⟨⟩ ((al1 || immL xs) && (al2 || immL ys)) (.lst true (xs ++ ys))) := rfl
theorem y_addT : oAdd al1 (.tup xs) al2 (.tup ys) Q = (xs.length + ys.length ≤ sizeLine ∧ K2 Q ⟨⟩ ((al1 || immL xs) && (al2 || immL ys)) (.tup (xs ++ ys))) := rfl
theorem y_ixL : oIx al1 (.lst m xs) al2 (.int i) Q = (match L2.atI xs i with | some d => K2 Q ⟨⟩ (d.imm || al1) d | none => False) := rfl
theorem y_ixT : oIx al1 (.tup xs) al2 (.int i) Q = (match L2.atI xs i with | some d => K2 Q ⟨⟩ (d.imm || al1) d | none => False) := rfl
theorem y_neg : oNeg al (.int i) Q = Q true (.int (-i)) := rfl
theorem y_abs : oAbs al (.int i) Q = Q true (.int (if i < 0 then -i else i)) := rfl
theorem y_eqI : oEqB b al1 (.int i) al2 (.int j) Q = K2 Q ⟨⟩ true (.bl (b != decide (i = j))) := rfl
theorem y_eqS : oEqB b al1 (.str x) al2 (.str y) Q = K2 Q ⟨⟩ true (.bl (b != decide (x = y))) := rfl
theorem y_eqBl : oEqB b al1 (.bl m) al2 (.bl m') Q = K2 Q ⟨⟩ true (.bl (b != decide (m = m'))) := rfl
theorem y_isNn : oIsN b al .non Q = K2 Q ⟨⟩ true (.bl (b != true)) := rfl
theorem y_isNi : oIsN b al (.int i) Q = K2 Q ⟨⟩ true (.bl (b != false)) := rfl
theorem y_isNb : oIsN b al (.bl b') Q = K2 Q ⟨⟩ true (.bl (b != false)) := rfl
theorem y_isNs : oIsN b al (.str x) Q = K2 Q ⟨⟩ true (.bl (b != false)) := rfl
theorem y_isNt : oIsN b al (.tup xs) Q = K2 Q ⟨⟩ true (.bl (b != false)) := rfl
theorem y_isNl : oIsN b al (.lst m xs) Q = K2 Q ⟨⟩ true (.bl (b != false)) := rfl
theorem y_max : oMax2 al1 (.int i) al2 (.int j) Q = (True ∧ K2 Q ⟨⟩ true (.int (if j > i then j else i))) := rfl
theorem y_min : oMin2 al1 (.int i) al2 (.int j) Q = (True ∧ K2 Q ⟨⟩ true (.int (if j < i then j else i))) := rfl
theorem y_dm : oDm al1 (.int i) al2 (.int j) Q = (CDivW i j ∧ Q true (.tup [.int (i / j), .int (i % j)])) := rfl
theorem y_lenL : oLen al (.lst m xs) Q = Q true (.int xs.length) := rfl
theorem y_lenT : oLen al (.tup xs) Q = Q true (.int xs.length) := rfl
theorem y_isi (t : Ty) : oIsi t al d Q = (match d.ty with | some u => K2 Q ⟨⟩ true (.bl (u.sub t)) | none => False) := rfl
theorem y_isi2 (t u : Ty) : oIsi2 t u al d Q = (match d.ty with | some z => K2 Q ⟨⟩ true (.bl (z.sub t || z.sub u)) | none => False) := rfl
theorem y_app {QD : D → D → Prop} : oAppend (.lst true xs) d QD = (xs.length < sizeLine ∧ K2 QD ⟨⟩ (.lst true (xs ++ [d])) .non) := rfl
theorem y_set {QD : D → D → Prop} : oSet (.lst true xs) (.int i, d) QD = (match ixN xs.length i with | some j => K2 QD ⟨⟩ (.lst true (xs.set j d)) .non | none => False) := rfl
theorem y_slL {lo hi : Option Int} : oSl lo hi al (.lst m xs) Q = K2 Q ⟨⟩ (al || immL xs) (.lst true (cutD xs lo hi)) := rfl
theorem y_slT {lo hi : Option Int} : oSl lo hi al (.tup xs) Q = K2 Q ⟨⟩ (al || immL xs) (.tup (cutD xs lo hi)) := rfl
theorem ty_non : D.ty .non = some .none := rfl
theorem ty_bl : D.ty (.bl b) = some .bool := rfl
theorem ty_int : D.ty (.int i) = some .int := rfl
theorem ty_str : D.ty (.str x) = some .str := rfl
theorem ty_tup : D.ty (.tup xs) = some .tuple := rfl
theorem ty_lst : D.ty (.lst m xs) = some .list := rfl
theorem imm_int : D.imm (.int i) = true := by rw [D.imm]
theorem imm_bl : D.imm (.bl b) = true := by rw [D.imm]
theorem imm_str : D.imm (.str x) = true := by rw [D.imm]
theorem imm_non : D.imm .non = true := by rw [D.imm]
theorem imm_unk : D.imm .unk = true := by rw [D.imm]
theorem imm_tup : D.imm (.tup xs) = immL xs := by rw [D.imm]
theorem imm_lst : D.imm (.lst m xs) = !m := by rw [D.imm]
theorem immL_nil : immL [] = true := by rw [immL]
theorem immL_cons : immL (d :: xs) = (d.imm && immL xs) := by rw [immL]
theorem immL_map {α : Type} {f : α → D} : ∀ {l : List α}, (∀ a ∈ l, (f a).imm = true) → immL (l.map f) = true
  | [], _ => immL_nil
  | a :: l, h => by rw [List.map_cons, immL_cons, h a (by simp), immL_map fun b hb => h b (by simp [hb])]; rfl
theorem scal_int : D.scal (.int i) = true := rfl
theorem scal_bl : D.scal (.bl b) = true := rfl
theorem scal_str : D.scal (.str x) = true := rfl
theorem scal_non : D.scal .non = true := rfl
theorem scal_tup : D.scal (.tup xs) = false := rfl
theorem scal_lst : D.scal (.lst m xs) = false := rfl
theorem nofz_int : D.nofz (.int i) = true := by rw [D.nofz]
theorem nofz_bl : D.nofz (.bl b) = true := by rw [D.nofz]
theorem nofz_str : D.nofz (.str x) = true := by rw [D.nofz]
theorem nofz_non : D.nofz .non = true := by rw [D.nofz]
theorem nofz_tup : D.nofz (.tup xs) = nofzL xs := by rw [D.nofz]
theorem nofz_lst : D.nofz (.lst m xs) = (m && nofzL xs) := by rw [D.nofz]
theorem nofzL_nil : nofzL [] = true := by rw [nofzL]
theorem nofzL_cons : nofzL (d :: xs) = (d.nofz && nofzL xs) := by rw [nofzL]
theorem nofzL_map {α : Type} {f : α → D} : ∀ {l : List α}, (∀ a ∈ l, (f a).nofz = true) → nofzL (l.map f) = true
  | [], _ => nofzL_nil
  | a :: l, h => by rw [List.map_cons, nofzL_cons, h a (by simp), nofzL_map fun b hb => h b (by simp [hb])]; rfl
theorem fz_int : fz (.int i) = .int i := by rw [fz]
theorem fz_bl : fz (.bl b) = .bl b := by rw [fz]
theorem fz_str : fz (.str x) = .str x := by rw [fz]
theorem fz_non : fz .non = .non := by rw [fz]
theorem fz_unk : fz .unk = .unk := by rw [fz]
theorem fz_tup : fz (.tup xs) = .tup (fzL xs) := by rw [fz]
theorem fz_lst' : fz (.lst m xs) = .lst false (fzL xs) := by rw [fz]
theorem fzL_nil : fzL [] = [] := by rw [fzL]
theorem fzL_cons : fzL (d :: xs) = fz d :: fzL xs := by rw [fzL]
theorem fzL_map {α : Type} {f : α → D} : ∀ {l : List α}, (∀ a ∈ l, fz (f a) = f a) → fzL (l.map f) = l.map f
  | [], _ => fzL_nil
  | a :: l, h => by rw [List.map_cons, fzL_cons, h a (by simp), fzL_map fun b hb => h b (by simp [hb])]
theorem fzL_ints {l : List Int} : fzL (l.map D.int) = l.map D.int := fzL_map fun _ _ => fz_int
theorem immL_ints {l : List Int} : immL (l.map D.int) = true := immL_map fun _ _ => imm_int
theorem nofzL_ints {l : List Int} : nofzL (l.map D.int) = true := nofzL_map fun _ _ => nofz_int
theorem ints_at {l : List Int} {k : Nat} {x : D} (h : (l.map D.int)[k]? = some x) : ∃ i, i ∈ l ∧ l[k]? = some i ∧ x = .int i := by
  rw [List.getElem?_map] at h
  cases e : l[k]? with
  | none => rw [e] at h; cases h
  | some j =>
    rw [e] at h
    cases h
    exact ⟨j, List.mem_of_getElem? e, rfl, rfl⟩
theorem fzL_append : ∀ {xs ys : List D}, fzL (xs ++ ys) = fzL xs ++ fzL ys
  | [], ys => by rw [fzL_nil]; rfl
  | x :: xs, ys => by rw [List.cons_append, fzL_cons, fzL_cons, fzL_append]; rfl
theorem immL_append : ∀ {xs ys : List D}, immL (xs ++ ys) = (immL xs && immL ys)
  | [], ys => by rw [immL_nil]; simp
  | x :: xs, ys => by rw [List.cons_append, immL_cons, immL_cons, immL_append, Bool.and_assoc]
theorem nofzL_append : ∀ {xs ys : List D}, nofzL (xs ++ ys) = (nofzL xs && nofzL ys)
  | [], ys => by rw [nofzL_nil]; simp
  | x :: xs, ys => by rw [List.cons_append, nofzL_cons, nofzL_cons, nofzL_append, Bool.and_assoc]
theorem ok_at {S : SV} {i : Nat} {d : D} (h : S[i]? = some d) (n : d ≠ .unk) : okS S i := by
  unfold okS
  rw [h]
  cases d <;> first | exact absurd rfl n | trivial
theorem okS_0 {S : SV} : okS (d :: S) 0 = (match d with | .unk => False | _ => True) := by
  show (match some d with | some .unk => False | some _ => True | none => False) = _
  cases d <;> rfl
theorem okS_s {S : SV} {i : Nat} : okS (d :: S) (i + 1) = okS S i := rfl
theorem wfA_nil : wfA 0 b [] none = true := rfl
/-- sizes of products and divisors -/
theorem nabs {i : Int} {n : Nat} (h1 : -(2 ^ n) < i) (h2 : i < 2 ^ n) : i.natAbs < 2 ^ n := by
  have e : ((2 ^ n : Nat) : Int) = (2 : Int) ^ n := by rw [Int.natCast_pow]; rfl
  generalize (2 : Int) ^ n = z at *
  generalize 2 ^ n = y at *
  omega
theorem mulN (n m : Nat) {i j : Int} (h : n + m ≤ 1000000) (hn : 0 < n) (hm : 0 < m) (h1 : -(2 ^ n) < i) (h2 : i < 2 ^ n) (h3 : -(2 ^ m) < j) (h4 : j < 2 ^ m) : CMulW i j := wide_mul (nabs h1 h2) (nabs h3 h4) hn hm h
theorem mulS {i j : Int} (h1 : -(2 ^ 250) < i) (h2 : i < 2 ^ 250) (h3 : -(2 ^ 250) < j) (h4 : j < 2 ^ 250) : CMulW i j := mulN 250 250 (by decide) (by decide) (by decide) h1 h2 h3 h4
theorem divN (n : Nat) {i j : Int} (h : n ≤ 9000) (hn : 0 < n) (h1 : 0 < j) (h2 : j < 2 ^ n) : CDivW i j := wide_div (b := n) h1 (nabs (Int.lt_trans (Int.lt_of_lt_of_le (Int.neg_neg_of_pos (Int.pow_pos (by decide : (0 : Int) < 2))) (Int.le_refl 0)) h1) h2) hn h
theorem divS {i j : Int} (h1 : 0 < j) (h2 : j < 2 ^ 250) : CDivW i j := divN 250 (by decide) (by decide) h1 h2
theorem line_eq : sizeLine = 16777216 := by decide
theorem rng_len {lo : Int} {n : Nat} : (rng lo n).length = n := by simp [rng]
theorem rng_at {lo : Int} {n k : Nat} {x : D} (h : (rng lo n)[k]? = some x) : k < n ∧ x = .int (lo + (k : Nat)) := by
  unfold rng at h
  rw [List.getElem?_map] at h
  cases e : (List.range n)[k]? with
  | none => rw [e] at h; cases h
  | some j =>
    obtain ⟨hl, e2⟩ := List.getElem?_eq_some_iff.mp e
    rw [List.getElem_range] at e2
    rw [e] at h
    subst e2
    cases h
    exact ⟨by simpa using hl, rfl⟩
end
theorem ipow_pos {b : Int} (hb : 0 < b) (n : Nat) : 0 < b ^ n := Int.pow_pos hb
theorem ipow_mono {b : Int} (hb : 1 ≤ b) {k n : Nat} (h : k ≤ n) : b ^ k ≤ b ^ n := by
  obtain ⟨m, rfl⟩ := Nat.le.dest h
  clear h
  induction m with
  | zero => exact Int.le_refl _
  | succ m ih =>
    rw [← Nat.add_assoc, Int.pow_succ]
    have h0 : 0 < b ^ (k + m) := ipow_pos (by omega) _
    have h1 : b ^ (k + m) * 1 ≤ b ^ (k + m) * b := Int.mul_le_mul_of_nonneg_left hb (by omega)
    omega
/-! comprehensions, by what holds ahead of each turn -/
theorem x_TLc {Ti : VTI} {G : VTG} {Tt : VB} {Te : VT} {vs : List Nat} {S : SV} {Q : SV → Bool → D → Prop} : TLc Ti G Tt Te vs S Q = Ti S fun S1 items => vs.all (fun i => (S1.getD i .unk).imm) = true ∧ lcT G Tt Te vs (fun S2 acc => K3 Q ⟨⟩ (backS S1 vs S2) true (.lst true acc)) items (wipeS vs S1) [] := rfl
theorem x_TYes {S : SV} {Q : SV → Bool → Prop} : TYes S Q = Q S true := rfl
theorem lc_from {G : VTG} {Tt : VB} {Te : VT} {vs : List Nat} {Q : SV → List D → Prop} (I : Nat → SV → List D → Prop) : ∀ {xs : List D} {S : SV} {acc : List D} (m : Nat), I m S acc →
    (∀ (k : Nat) (x : D) (S : SV) (acc : List D) (cont : SV → List D → Prop), xs[k]? = some x → I (m + k) S acc → (∀ S' acc', I (m + k + 1) S' acc' → cont S' acc') →
      G x S fun S1 => Tt S1 fun S2 b => (b = true → Te S2 fun S3 al d => al = true ∧ acc.length < sizeLine ∧ cont (wipeS vs S3) (acc ++ [d])) ∧ (b = false → cont (wipeS vs S2) acc)) →
    (∀ S acc, I (m + xs.length) S acc → Q S acc) → lcT G Tt Te vs Q xs S acc
  | [], S, acc, m, h0, hs, he => he S acc h0
  | x :: xs, S, acc, m, h0, hs, he => by
    show G x S _
    refine hs 0 x S acc _ rfl h0 fun S' acc' h' => ?_
    exact lc_from I (m + 1) h' (fun k y S2 a2 cont e h2 h3 => hs (k + 1) y S2 a2 cont (by simpa using e) (by rw [show m + (k + 1) = m + 1 + k by omega]; exact h2) (fun S3 a3 h4 => h3 S3 a3 (by rw [show m + 1 + k + 1 = m + (k + 1) + 1 by omega]; exact h4)))
      (fun S2 a2 h2 => he S2 a2 (by rw [List.length_cons, show m + (xs.length + 1) = m + 1 + xs.length by omega]; exact h2))
theorem lc_by {G : VTG} {Tt : VB} {Te : VT} {vs : List Nat} {Q : SV → List D → Prop} {xs : List D} {S : SV} (I : Nat → SV → List D → Prop) (h0 : I 0 S [])
    (hs : ∀ (k : Nat) (x : D) (S : SV) (acc : List D) (cont : SV → List D → Prop), xs[k]? = some x → I k S acc → (∀ S' acc', I (k + 1) S' acc' → cont S' acc') →
      G x S fun S1 => Tt S1 fun S2 b => (b = true → Te S2 fun S3 al d => al = true ∧ acc.length < sizeLine ∧ cont (wipeS vs S3) (acc ++ [d])) ∧ (b = false → cont (wipeS vs S2) acc))
    (he : ∀ S acc, I xs.length S acc → Q S acc) : lcT G Tt Te vs Q xs S [] :=
  lc_from I 0 h0 (fun k x S acc cont e h2 h3 => hs k x S acc cont e (by rw [Nat.zero_add] at h2; exact h2) (fun S' a' h' => h3 S' a' (by rw [Nat.zero_add]; exact h'))) (fun S a h => he S a (by rw [Nat.zero_add] at h; exact h))
/-- what one thing gives: none, or one more -/
def put1 : Option D → List D → List D
  | some d, acc => acc ++ [d]
  | none, acc => acc
theorem put1_len {o : Option D} {acc : List D} : (put1 o acc).length ≤ acc.length + 1 := by cases o <;> simp [put1]
/-- nothing changes but what is gathered -/
theorem lc_fm {G : VTG} {Tt : VB} {Te : VT} {vs : List Nat} {Q : SV → List D → Prop} {xs : List D} {S : SV} (f : D → Option D) (hl : xs.length ≤ sizeLine)
    (hs : ∀ (x : D) (acc : List D) (cont : SV → List D → Prop), x ∈ xs → acc.length < sizeLine → cont S (put1 (f x) acc) →
      G x S fun S1 => Tt S1 fun S2 b => (b = true → Te S2 fun S3 al d => al = true ∧ acc.length < sizeLine ∧ cont (wipeS vs S3) (acc ++ [d])) ∧ (b = false → cont (wipeS vs S2) acc))
    (he : Q S (xs.filterMap f)) : lcT G Tt Te vs Q xs S [] := by
  refine lc_by (fun k S' acc => S' = S ∧ acc = (xs.take k).filterMap f ∧ acc.length ≤ k) ⟨rfl, by simp, by simp⟩ ?_ ?_
  · rintro k x S' acc cont hx ⟨rfl, rfl, hk⟩ hc
    obtain ⟨hlt, rfl⟩ := List.getElem?_eq_some_iff.mp hx
    refine hs _ _ cont (List.getElem_mem hlt) (by omega) (hc _ _ ⟨rfl, ?_, ?_⟩)
    · rw [List.take_add_one, hx, List.filterMap_append]
      cases e : f xs[k] <;> simp [put1, e]
    · have := put1_len (o := f xs[k]) (acc := (xs.take k).filterMap f)
      omega
  · rintro S' acc ⟨rfl, rfl, _⟩
    rw [List.take_length]
    exact he
theorem put1_some {d : D} {acc : List D} : put1 (some d) acc = acc ++ [d] := rfl
theorem put1_none {acc : List D} : put1 none acc = acc := rfl
def onI (f : Int → Option D) : D → Option D
  | .int k => f k
  | _ => none
theorem onI_int {f : Int → Option D} {k : Int} : onI f (.int k) = f k := rfl
theorem onI_map {f : Int → Option D} {l : List Int} : (l.map D.int).filterMap (onI f) = l.filterMap f := by rw [List.filterMap_map]; rfl
theorem onI_rng {f : Int → Option D} {lo : Int} {n : Nat} : (rng lo n).filterMap (onI f) = (List.range n).filterMap fun k => f (lo + (k : Nat)) := by rw [rng, List.filterMap_map]; rfl
theorem fm_if {α β : Type} {p : α → Prop} [DecidablePred p] {g : α → β} : ∀ {l : List α}, (l.filterMap fun a => if p a then some (g a) else none) = (l.filter fun a => decide (p a)).map g
  | [] => rfl
  | a :: l => by
    rw [List.filterMap_cons, List.filter_cons, fm_if]
    by_cases h : p a
    · rw [if_pos h, if_pos (by simp [h])]; rfl
    · rw [if_neg h, if_neg (by simp [h])]
theorem fm_some {α β : Type} {g : α → β} {l : List α} : (l.filterMap fun a => some (g a)) = l.map g := by rw [← List.filterMap_eq_map]; rfl
theorem wipeS_nil {S : SV} : wipeS [] S = S := rfl
theorem wipeS_cons {S : SV} {v : Nat} {vs : List Nat} : wipeS (v :: vs) S = (wipeS vs S).set v .unk := rfl
theorem backS_nil {S0 S : SV} : backS S0 [] S = S := rfl
theorem backS_cons {S0 S : SV} {v : Nat} {vs : List Nat} : backS S0 (v :: vs) S = backS S0 vs (S.set v (S0.getD v .unk)) := rfl
/-- what the law is handed -/
theorem law_rep {K : PySem.W.Frag} {H : Hp} {a : Addr} {ns : List Int} (h : SqL K H a (ns.map V.int)) : RepL K H H [.lst false (ns.map D.int)] [.ref a] [] := by
  rw [RepL]
  refine ⟨_, [], [], [], rfl, rfl, ?_, by rw [RepL]; exact ⟨rfl, rfl⟩⟩
  rw [Rep]
  refine ⟨a, _, [], rfl, ?_, .inr ⟨rfl, h, rfl, rfl⟩⟩
  clear h
  induction ns with
  | nil => rw [List.map_nil, List.map_nil, RepL]; exact ⟨rfl, rfl⟩
  | cons n ns ih =>
    rw [List.map_cons, List.map_cons, RepL]
    exact ⟨_, _, [], [], rfl, rfl, by rw [Rep]; exact ⟨rfl, rfl⟩, ih⟩
/-- the law's promise -/
def LawC (ds : List D) (Q : D → List D → Prop) : Prop := ∃ ns : List Int, ds = [.lst false (ns.map D.int)] ∧ ns.length ≤ 63 ∧ Q (.bl true) [.unk]
theorem law_spC {K : PySem.W.Frag} {H : Hp} {a : Addr} {ns : List Int} {E : XK} (hl : ns.length ≤ 63) (h : SqL K H a (ns.map V.int)) : spC K 1 LawC [.ref a] H (fun v _ => v = .bl true) E := by
  refine ⟨rfl, H, _, [], fun r _ => r = .bl true, Sub.refl, law_rep h, List.nodup_nil, fun a ha => absurd ha (by simp), ⟨ns, rfl, hl, rfl⟩, fun r ds' F' H' v fp' fq q _ _ rr _ _ _ => ?_⟩
  subst q
  rw [Rep] at rr
  exact rr.1
end VL

namespace VL
open PySem PySem.Spec PyProof.Rows L2

/-! ### defs with defaults -/
section
variable {P : Program} {w : World} {K : PySem.W.Frag} {mg : Str → Option Value} {base : Heap}
/-- the same for a def with defaults -/
theorem fn_okD {x qual : Str} {st : Stmt} {dvs0 : List V} {f : Addr} {fd : FuncData} {N ps : List Str} {k : Nat} {C : Ct} (pin : List Nat) (Fn : FunD K x qual (defArgs st) (defBody st) (defScope st) dvs0 [] f fd) (Sc : FnScope N ps (defScope st))
    (hbody : ∀ (cdv : Value) (A : Around) (outer : List Env) (s : Shared) (H : Hp) (E : XK), Room k (A.deeper (envOfC qual (defScope st) s.heap.objs.size f cdv)) →
      ∃ T, VSs (cxOf CX0 P w K mg base N qual (defScope st) f cdv A outer s H E).nox K pin (defBody st) T ∧ ∀ ds Qv, ds.length = ps.length → C ds Qv → T { nx := fun S => Qv .non (fin pin ps.length S), rt := fun r S => Qv r (fin pin ps.length S) } (begin N.length ps.length ds)) :
    FnOk P w K mg base CX0 (k + 1) f fd ps (spC K ps.length C) := by
  refine FunD.ok (CX := CX0) Fn Sc (fun vs H Q E h => h.1) (fun cdv A outer s H vs Q E hr h => ?_)
  obtain ⟨hlv, F, ds, fp, Qv, sub, rl, nd, dis, hC, fin'⟩ := h
  obtain ⟨T, hb, hT⟩ := hbody cdv A outer s H E hr
  obtain ⟨t, h1, s1⟩ := hb.ex
  have hld : ds.length = ps.length := rl.len.trans hlv
  have hpl : ps.length ≤ N.length := by
    have := congrArg List.length Sc.pre
    rw [List.length_take] at this
    omega
  have rs : RepS K F H (begin N.length ps.length ds) (start N vs) (fp ++ []) := by
    unfold begin
    rw [start_app, hlv]
    exact RepS.app (RepS.ofL rl) (RepS.nones _)
  rw [List.append_nil] at rs
  refine ⟨t, h1.nox, s1 F H (start N vs) _ fp { nx := fun S => Qv .non (fin pin ps.length S), rt := fun r S => Qv r (fin pin ps.length S) } _ ⟨sub, rs, nd, dis⟩ (hT ds Qv hld hC) ?_⟩
  have hpin : ∀ σ' : L2.St, Pin pin (start N vs) σ' → ∀ i ∈ pin, i < vs.length → σ'[i]? = some (vs[i]?) := fun σ' hp i hi hl => by
    rw [hp.2 i hi, start_app, List.getElem?_append_left (by simpa using hl), List.getElem?_map, List.getElem?_eq_getElem hl]
    rfl
  have body : ∀ (F' H' : Hp) (σ' : L2.St) (S' : SV) (fp' : List Addr) (d : D) (v : V) (fq : List Addr), Good K F' H' σ' S' fp' → Step fp F H F' H' fp' → Pin pin (start N vs) σ' → Rep K F' H' d v fq → fq.Nodup → (∀ a ∈ fq, F' a = none ∧ a ∉ fp' ∧ (a ∈ fp ∨ H a = none)) →
      Qv d (fin pin ps.length S') → Q v H' := fun F' H' σ' S' fp' d v fq g' st' p' r' n' z' q' => by
    have hS : vs.length ≤ S'.length := by
      rw [g'.rep.len, p'.1, ← rs.len]
      unfold begin
      rw [List.length_append]
      omega
    · obtain ⟨fr, rl', sl⟩ := g'.rep.fin (hpin σ' p') hS
      rw [hlv] at rl'
      have hsub : ∀ a ∈ fr, a ∈ fp' := fun a ha => sl.subset ha
      refine fin' d _ F' H' v fr fq q' g'.sub rl' r' (List.nodup_append.mpr ⟨g'.nd.sublist sl, n', fun a ha b hb e => ?_⟩) (fun a ha => ?_) ⟨st'.fsub, st'.keep, st'.fnew, fun a ha => ?_⟩
      · subst e; exact (z' a hb).2.1 (hsub a ha)
      · rcases List.mem_append.mp ha with y | y
        · exact g'.dis a (hsub a y)
        · exact (z' a y).1
      · rcases List.mem_append.mp ha with y | y
        · exact st'.own a (hsub a y)
        · exact (z' a y).2.2
  refine ⟨fun F' H' σ' S' fp' g' st' p' q' => ?_, fun _ _ _ _ _ _ _ _ q' => q'.elim, fun _ _ _ _ _ _ _ _ q' => q'.elim, fun F' H' σ' S' fp' d v fq g' st' p' r' n' z' q' => body F' H' σ' S' fp' d v fq g' st' p' r' n' z' q', fun _ _ _ _ _ _ _ _ _ _ q' _ => q'.elim⟩
  exact body F' H' σ' S' fp' .non .non [] g' st' p' (by rw [Rep]; exact ⟨rfl, rfl⟩) List.nodup_nil (fun a ha => absurd ha (by simp)) q'
theorem cal_D {k : Nat} {x qual : Str} {st : Stmt} {dvs : List V} {f : Addr} {fd : FuncData} {ps : List Str} {n : Nat} {C : Ct} (F : FunD K x qual (defArgs st) (defBody st) (defScope st) dvs [] f fd) (O : FnOk P w K mg base CX0 k f fd ps (spC K n C)) (hm : mg x = some (.ref f)) (m j : Nat) (hd : dvs ≠ []) (hn : m + (dvs.length - j) = ps.length)
    (h : ∀ (T : Addr) (kV doc pm : Value) (an : Option Addr) (cdv ct : Value) (us its : List Value), us.length = m → its.length = dvs.length →
      ∃ k, bindArgs (PySem.W.fnOf x qual (defArgs st) (defBody st) (defScope st) (.ref T) kV doc pm an cdv ct) ⟨us, []⟩ = seqItems? (.ref T) >>= k ∧ k (some its.toArray) = pure (ps.zip (us ++ its.drop j))) {ds0 : List D} (hdd : ∀ F H, RepL K F H ds0 (dvs.drop j) []) : Cal P w K mg base k x n C (dvs.drop j) ds0 := by
  obtain ⟨ds, h1, h2⟩ := F.binds1 m j hd hn h
  exact ⟨⟨f, fd, ps, ds, O, hm, F.kp, h2, h1⟩, hdd⟩
end

/-! ### what can be held side by side -/
mutual
/-- no texts, no truth values, no dicts; at most k deep -/
def pln : Nat → D → Bool
  | _, .int _ => true
  | _, .non => true
  | _, .str x => PyData.strOk x
  | k + 1, .tup xs => plnL k xs
  | k + 1, .lst _ xs => plnL k xs
  | _, _ => false
def plnL : Nat → List D → Bool
  | _, [] => true
  | k, d :: ds => pln k d && plnL k ds
end
theorem plnL_all {k : Nat} : ∀ {l : List D}, (∀ d ∈ l, pln k d = true) → plnL k l = true
  | [], _ => by rw [plnL]
  | d :: l, h => by rw [plnL, h d (by simp), plnL_all fun x hx => h x (by simp [hx])]; rfl
theorem pln_int {k : Nat} {i : Int} : pln k (.int i) = true := by rw [pln]
theorem plnL_ints {k : Nat} {l : List Int} : plnL k (l.map D.int) = true := plnL_all fun d h => by
  obtain ⟨i, _, rfl⟩ := List.mem_map.mp h
  exact pln_int
mutual
theorem pln_sh : ∀ {k : Nat} {d : D}, pln k d = true → (toPy d).canLay0 = true ∧ (toPy d).depth ≤ k
  | k, .int i, _ => by rw [toPy, PyData.canLay0, PyData.depth]; exact ⟨rfl, Nat.zero_le _⟩
  | k, .non, _ => by rw [toPy, PyData.canLay0, PyData.depth]; exact ⟨rfl, Nat.zero_le _⟩
  | 0, .tup xs, h => by simp [pln] at h
  | 0, .lst _ xs, h => by simp [pln] at h
  | k + 1, .tup xs, h => by
    rw [pln] at h
    rw [toPy, PyData.canLay0, PyData.depth]
    have := plnL_sh h
    exact ⟨this.1, by omega⟩
  | k + 1, .lst _ xs, h => by
    rw [pln] at h
    rw [toPy, PyData.canLay0, PyData.depth]
    have := plnL_sh h
    exact ⟨this.1, by omega⟩
  | k, .unk, h => by cases k <;> simp [pln] at h
  | k, .bl _, h => by cases k <;> simp [pln] at h
  | k, .str _, h => by rw [pln] at h; rw [toPy, PyData.canLay0, PyData.depth]; exact ⟨h, Nat.zero_le _⟩
  | k, .dK _ _ _, h => by cases k <;> simp [pln] at h
  | k, .exc _ _, h => by cases k <;> simp [pln] at h
  | k, .dT _ _ _, h => by cases k <;> simp [pln] at h
theorem plnL_sh : ∀ {k : Nat} {l : List D}, plnL k l = true → PyData.canLayAll0 (toPyL l) = true ∧ PyData.depthAll (toPyL l) ≤ k
  | k, [], _ => by rw [toPyL, PyData.canLayAll0, PyData.depthAll]; exact ⟨rfl, Nat.zero_le _⟩
  | k, d :: l, h => by
    rw [plnL, Bool.and_eq_true] at h
    rw [toPyL, PyData.canLayAll0, PyData.depthAll]
    have h1 := pln_sh h.1
    have h2 := plnL_sh h.2
    exact ⟨by rw [h1.1, h2.1]; rfl, by omega⟩
end
mutual
theorem pln_eqv : ∀ {k k' : Nat} {d e : D}, pln k d = true → pln k' e = true → (PyData.eqv (toPy d) (toPy e) = true ↔ fz d = fz e)
  | _, _, .int i, .int j, _, _ => by rw [toPy, toPy, PyData.eqv, fz_int, fz_int]; simp
  | _, _, .str i, .str j, _, _ => by rw [toPy, toPy, PyData.eqv, fz_str, fz_str]; simp
  | _, _, .str i, .int _, _, _ => by rw [toPy, toPy, PyData.eqv, fz_str, fz_int]; simp
  | _, _, .str i, .non, _, _ => by rw [toPy, toPy, PyData.eqv, fz_str, fz_non]; simp
  | _, _, .str i, .tup _, _, _ => by rw [toPy, toPy, PyData.eqv, fz_str, fz_tup]; simp
  | _, _, .str i, .lst _ _, _, _ => by rw [toPy, toPy, PyData.eqv, fz_str, fz_lst']; simp
  | _, _, .int _, .str i, _, _ => by rw [toPy, toPy, PyData.eqv, fz_str, fz_int]; simp
  | _, _, .non, .str i, _, _ => by rw [toPy, toPy, PyData.eqv, fz_str, fz_non]; simp
  | _, _, .tup _, .str i, _, _ => by rw [toPy, toPy, PyData.eqv, fz_str, fz_tup]; simp
  | _, _, .lst _ _, .str i, _, _ => by rw [toPy, toPy, PyData.eqv, fz_str, fz_lst']; simp
  | _, _, .int i, .non, _, _ => by rw [toPy, toPy, PyData.eqv, fz_int, fz_non]; simp
  | _, _, .int i, .tup _, _, _ => by rw [toPy, toPy, PyData.eqv, fz_int, fz_tup]; simp
  | _, _, .int i, .lst _ _, _, _ => by rw [toPy, toPy, PyData.eqv, fz_int, fz_lst']; simp
  | _, _, .non, .int j, _, _ => by rw [toPy, toPy, PyData.eqv, fz_int, fz_non]; simp
  | _, _, .non, .non, _, _ => by rw [toPy, PyData.eqv]; simp
  | _, _, .non, .tup _, _, _ => by rw [toPy, toPy, PyData.eqv, fz_non, fz_tup]; simp
  | _, _, .non, .lst _ _, _, _ => by rw [toPy, toPy, PyData.eqv, fz_non, fz_lst']; simp
  | _, _, .tup xs, .int j, _, _ => by rw [toPy, toPy, PyData.eqv, fz_int, fz_tup]; simp
  | _, _, .tup xs, .non, _, _ => by rw [toPy, toPy, PyData.eqv, fz_non, fz_tup]; simp
  | k + 1, k' + 1, .tup xs, .tup ys, h, h' => by
    rw [pln] at h h'
    rw [toPy, toPy, PyData.eqv, fz_tup, fz_tup, plnL_eqv h h']; simp
  | _, _, .tup xs, .lst _ _, _, _ => by rw [toPy, toPy, PyData.eqv, fz_tup, fz_lst']; simp
  | _, _, .lst _ xs, .int j, _, _ => by rw [toPy, toPy, PyData.eqv, fz_int, fz_lst']; simp
  | _, _, .lst _ xs, .non, _, _ => by rw [toPy, toPy, PyData.eqv, fz_non, fz_lst']; simp
  | _, _, .lst _ xs, .tup ys, _, _ => by rw [toPy, toPy, PyData.eqv, fz_tup, fz_lst']; simp
  | k + 1, k' + 1, .lst _ xs, .lst _ ys, h, h' => by
    rw [pln] at h h'
    rw [toPy, toPy, PyData.eqv, fz_lst', fz_lst', plnL_eqv h h']; simp
  | 0, _, .tup xs, .tup _, h, _ => by simp [pln] at h
  | 0, _, .lst _ xs, .lst _ _, h, _ => by simp [pln] at h
  | _, 0, .tup xs, .tup _, _, h => by simp [pln] at h
  | _, 0, .lst _ xs, .lst _ _, _, h => by simp [pln] at h
  | k, _, .unk, _, h, _ => by cases k <;> simp [pln] at h
  | k, _, .bl _, _, h, _ => by cases k <;> simp [pln] at h
  | k, _, .dK _ _ _, _, h, _ => by cases k <;> simp [pln] at h
  | k, _, .dT _ _ _, _, h, _ => by cases k <;> simp [pln] at h
  | _, k, _, .unk, _, h => by cases k <;> simp [pln] at h
  | _, k, _, .bl _, _, h => by cases k <;> simp [pln] at h
  | _, k, _, .dK _ _ _, _, h => by cases k <;> simp [pln] at h
  | _, k, _, .dT _ _ _, _, h => by cases k <;> simp [pln] at h
theorem plnL_eqv : ∀ {k k' : Nat} {l m : List D}, plnL k l = true → plnL k' m = true → (PyData.eqvAll (toPyL l) (toPyL m) = true ↔ fzL l = fzL m)
  | _, _, [], [], _, _ => by rw [toPyL, PyData.eqvAll]; simp
  | _, _, [], _ :: _, _, _ => by rw [toPyL, toPyL, PyData.eqvAll, fzL_nil, fzL_cons]; simp
  | _, _, _ :: _, [], _, _ => by rw [toPyL, toPyL, PyData.eqvAll, fzL_nil, fzL_cons]; simp
  | _, _, d :: l, e :: m, h, h' => by
    rw [plnL, Bool.and_eq_true] at h h'
    rw [toPyL, toPyL, PyData.eqvAll, fzL_cons, fzL_cons, Bool.and_eq_true, pln_eqv h.1 h'.1, plnL_eqv h.2 h'.2, List.cons.injEq]
end
theorem pln_shaped {k : Nat} {d : D} (h : pln k d = true) (hk : k ≤ 64 := by decide) : SeqAt.shaped (toPy d) = true := by
  have := pln_sh h
  unfold SeqAt.shaped
  rw [this.1, decide_eq_true (Nat.le_trans this.2 hk)]
  rfl
open Classical in
theorem eqv_dec {k k' : Nat} {d e : D} (h : pln k d = true) (h' : pln k' e = true) : PyData.eqv (toPy d) (toPy e) = decide (fz d = fz e) := by
  by_cases c : fz d = fz e
  · rw [decide_eq_true c]; exact (pln_eqv h h').mpr c
  · rw [decide_eq_false c, Bool.eq_false_iff]; exact fun z => c ((pln_eqv h h').mp z)
/-- d == e of things alike -/
theorem eqB_same {b al1 al2 : Bool} {d e : D} {k k' : Nat} {Q : Bool → D → Prop} (h : pln k d = true) (h' : pln k' e = true) (hk : k ≤ 64 := by decide) (hk' : k' ≤ 64 := by decide) (he : fz d = fz e) (q : Q true (.bl (b != true))) : oEqB b al1 d al2 e Q := by
  have deep : SeqAt.shaped (toPy d) = true ∧ SeqAt.shaped (toPy e) = true ∧ Q true (.bl (b != PyData.eqv (toPy d) (toPy e))) := ⟨pln_shaped h hk, pln_shaped h' hk', by rw [(pln_eqv h h').mpr he]; exact q⟩
  cases d <;> cases e <;> first | exact deep | skip
  all_goals first
    | (rw [fz_int, fz_int] at he; cases he; simpa [oEqB] using q)
    | (show oEqB b al1 D.non al2 D.non Q; simpa [oEqB] using q)
    | (rw [fz_str, fz_str] at he; cases he; simpa [oEqB] using q)
    | (rw [fz_str, fz_int] at he; cases he)
    | (rw [fz_int, fz_str] at he; cases he)
    | (rw [fz_non, fz_int] at he; cases he)
    | (rw [fz_int, fz_non] at he; cases he)
    | (simp [pln] at h; done)
    | (simp [pln] at h'; done)
    | (cases k <;> simp [pln] at h)
    | (cases k' <;> simp [pln] at h')
/-- d == e of other things -/
theorem eqB_diff {b al1 al2 : Bool} {d e : D} {k k' : Nat} {Q : Bool → D → Prop} (h : pln k d = true) (h' : pln k' e = true) (hk : k ≤ 64 := by decide) (hk' : k' ≤ 64 := by decide) (he : fz d ≠ fz e) (q : Q true (.bl (b != false))) : oEqB b al1 d al2 e Q := by
  have ev : PyData.eqv (toPy d) (toPy e) = false := Bool.eq_false_iff.mpr fun z => he ((pln_eqv h h').mp z)
  have deep : SeqAt.shaped (toPy d) = true ∧ SeqAt.shaped (toPy e) = true ∧ Q true (.bl (b != PyData.eqv (toPy d) (toPy e))) := ⟨pln_shaped h hk, pln_shaped h' hk', by rw [ev]; exact q⟩
  cases d <;> cases e <;> first | exact deep | skip
  all_goals first
    | exact absurd rfl he
    | (simp only [oEqB]; exact q)
    | (rename_i i j; by_cases c : i = j; (exact absurd (by rw [c]) he); (simp only [oEqB, decide_eq_false c]; exact q))
    | (simp only [oEqB]; simpa using q)
    | (cases k <;> simp [pln] at h; done)
    | (cases k' <;> simp [pln] at h'; done)
theorem atI_int {l : List Int} {i : Int} (h0 : 0 ≤ i) (h : i < l.length) : ∃ n, n ∈ l ∧ l[i.toNat]? = some n ∧ L2.atI (l.map D.int) i = some (.int n) := by
  have hl : i.toNat < l.length := by omega
  refine ⟨l[i.toNat], List.getElem_mem hl, List.getElem?_eq_getElem hl, ?_⟩
  unfold L2.atI ixN
  rw [List.length_map, if_pos h0, if_pos h]
  show (l.map D.int)[i.toNat]? = _
  rw [List.getElem?_map, List.getElem?_eq_getElem hl]
  rfl
/-- the same for any list -/
theorem atI_nn {l : List D} {i : Int} (h0 : 0 ≤ i) : L2.atI l i = l[i.toNat]? := by
  unfold L2.atI ixN
  rw [if_pos h0]
  by_cases h : i < l.length
  · rw [if_pos h]; rfl
  · rw [if_neg h, List.getElem?_eq_none (by omega)]; rfl
theorem cutD_len {α : Type} {xs : List α} {lo hi : Option Int} : (cutD xs lo hi).length ≤ xs.length := by
  unfold cutD
  rw [List.length_take, List.length_drop]
  omega
end VL

namespace VL
open PySem PySem.Spec PyProof.Rows L2

/-! ### built-in functions over rows of fixed things -/
theorem seqL_imm {K : PySem.W.Frag} {F H : Hp} {m : Bool} {xs : List D} {v : V} {fq : List Addr} (s : Sub F H) (r : Rep K F H (.lst m xs) v fq) (hi : immL xs = true) : ∃ a vs, v = .ref a ∧ SqL K H a vs ∧ RepL K F H xs vs [] := by
  obtain ⟨a, vs, fi, rfl, h1, rl, m1, n1⟩ := fz_lst s r
  have := rl.ofImm hi
  subst this
  exact ⟨a, vs, rfl, h1, rl⟩
theorem seqT_imm {K : PySem.W.Frag} {F H : Hp} {xs : List D} {v : V} {fq : List Addr} (r : Rep K F H (.tup xs) v fq) (hi : immL xs = true) : ∃ a vs, v = .ref a ∧ SqT K F a vs ∧ RepL K F H xs vs [] := by
  obtain ⟨a, vs, rfl, h1, rl⟩ := tup_parts r
  have := rl.ofImm hi
  subst this
  exact ⟨a, vs, rfl, h1, rl⟩
theorem RepL.ints {K : PySem.W.Frag} {F H : Hp} : ∀ {ns : List Int} {vs : List V} {fp : List Addr}, RepL K F H (ns.map D.int) vs fp → vs = ns.map V.int ∧ fp = []
  | [], _, _, r => by rw [List.map_nil, RepL] at r; exact r
  | n :: ns, _, _, r => by
    rw [List.map_cons, RepL] at r
    obtain ⟨v, vs', f1, f2, rfl, rfl, r1, r2⟩ := r
    rw [Rep] at r1
    obtain ⟨rfl, rfl⟩ := r1
    obtain ⟨rfl, rfl⟩ := r2.ints
    exact ⟨rfl, rfl⟩
theorem RepL.ofInts {K : PySem.W.Frag} {F H : Hp} : ∀ {ns : List Int}, RepL K F H (ns.map D.int) (ns.map V.int) []
  | [] => by rw [List.map_nil, List.map_nil, RepL]; exact ⟨rfl, rfl⟩
  | n :: ns => by
    rw [List.map_cons, List.map_cons, RepL]
    exact ⟨_, _, [], [], rfl, rfl, by rw [Rep]; exact ⟨rfl, rfl⟩, RepL.ofInts⟩
theorem RepL.bls {K : PySem.W.Frag} {F H : Hp} : ∀ {ns : List Bool} {vs : List V} {fp : List Addr}, RepL K F H (ns.map D.bl) vs fp → vs = ns.map V.bl ∧ fp = []
  | [], _, _, r => by rw [List.map_nil, RepL] at r; exact r
  | n :: ns, _, _, r => by
    rw [List.map_cons, RepL] at r
    obtain ⟨v, vs', f1, f2, rfl, rfl, r1, r2⟩ := r
    rw [Rep] at r1
    obtain ⟨rfl, rfl⟩ := r1
    obtain ⟨rfl, rfl⟩ := r2.bls
    exact ⟨rfl, rfl⟩
theorem immL_bls {l : List Bool} : immL (l.map D.bl) = true := immL_map fun _ _ => imm_bl
def oSum : O1 := fun _ d Q => ∃ ns : List Int, (∃ m, d = .lst m (ns.map D.int)) ∧ Q true (.int ns.sum)
def oAll : O1 := fun _ d Q => ∃ bs : List Bool, (∃ m, d = .lst m (bs.map D.bl)) ∧ Q true (.bl (bs.all id))
def oAny : O1 := fun _ d Q => ∃ bs : List Bool, (∃ m, d = .lst m (bs.map D.bl)) ∧ Q true (.bl (bs.any id))
def oMax1 : O1 := fun _ d Q => ∃ ns : List Int, (∃ m, d = .lst m (ns.map D.int)) ∧ 0 < ns.length ∧ ∀ m, m ∈ ns → (∀ y, y ∈ ns → y ≤ m) → Q true (.int m)
def oMin1 : O1 := fun _ d Q => ∃ ns : List Int, (∃ m, d = .lst m (ns.map D.int)) ∧ 0 < ns.length ∧ ∀ m, m ∈ ns → (∀ y, y ∈ ns → m ≤ y) → Q true (.int m)
def oInt1 : O1 := fun _ d Q => match d with
  | .int i => Q true (.int i)
  | .bl b => Q true (.int (if b then 1 else 0))
  | _ => False
def oListOf : O1 := fun _ d Q => match d with
  | .lst _ xs => immL xs = true ∧ Q true (.lst true xs)
  | .tup xs => immL xs = true ∧ Q true (.lst true xs)
  | _ => False
def oTupOf : O1 := fun _ d Q => match d with
  | .lst _ xs => immL xs = true ∧ Q true (.tup xs)
  | .tup xs => immL xs = true ∧ Q true (.tup xs)
  | _ => False
section
variable {K : PySem.W.Frag}
theorem lf_sum : Lf1 K (fun v => rSum K [v]) oSum := fun F H al1 d1 v1 q1 Q R s o1 q k => by
  obtain ⟨ns, ⟨m, rfl⟩, q⟩ := q
  obtain ⟨a, vs, rfl, h1, rl⟩ := seqL_imm s o1.rep immL_ints
  obtain ⟨rfl, _⟩ := rl.ints
  exact ⟨a, ns, rfl, h1, k F H true _ _ [] (Ans.int s) q⟩
theorem lf_max1 : Lf1 K (fun v => rMax K [v]) oMax1 := fun F H al1 d1 v1 q1 Q R s o1 q k => by
  obtain ⟨ns, ⟨m, rfl⟩, hp, q⟩ := q
  obtain ⟨a, vs, rfl, h1, rl⟩ := seqL_imm s o1.rep immL_ints
  obtain ⟨rfl, _⟩ := rl.ints
  exact ⟨a, ns, rfl, h1, hp, fun m h1 h2 => k F H true _ _ [] (Ans.int s) (q m h1 h2)⟩
theorem lf_min1 : Lf1 K (fun v => rMin K [v]) oMin1 := fun F H al1 d1 v1 q1 Q R s o1 q k => by
  obtain ⟨ns, ⟨m, rfl⟩, hp, q⟩ := q
  obtain ⟨a, vs, rfl, h1, rl⟩ := seqL_imm s o1.rep immL_ints
  obtain ⟨rfl, _⟩ := rl.ints
  exact ⟨a, ns, rfl, h1, hp, fun m h1 h2 => k F H true _ _ [] (Ans.int s) (q m h1 h2)⟩
theorem lf_all : Lf1 K (fun v => rAll K [v]) oAll := fun F H al1 d1 v1 q1 Q R s o1 q k => by
  obtain ⟨ns, ⟨m, rfl⟩, q⟩ := q
  obtain ⟨a, vs, rfl, h1, rl⟩ := seqL_imm s o1.rep immL_bls
  obtain ⟨rfl, _⟩ := rl.bls
  exact ⟨a, ns, rfl, h1, k F H true _ _ [] (Ans.bl s) q⟩
theorem lf_any : Lf1 K (fun v => rAny K [v]) oAny := fun F H al1 d1 v1 q1 Q R s o1 q k => by
  obtain ⟨ns, ⟨m, rfl⟩, q⟩ := q
  obtain ⟨a, vs, rfl, h1, rl⟩ := seqL_imm s o1.rep immL_bls
  obtain ⟨rfl, _⟩ := rl.bls
  exact ⟨a, ns, rfl, h1, k F H true _ _ [] (Ans.bl s) q⟩
theorem lf_int1 : Lf1 K (fun v H Q => (∃ i, [v] = [.int i] ∧ Q (.int i) H) ∨ ∃ k, [v] = [.bl k] ∧ Q (.int (if k then 1 else 0)) H) oInt1 := fun F H al1 d1 v1 q1 Q R s o1 q k => by
  cases d1 <;> first | exact q.elim | skip
  · exact .inr ⟨_, by rw [o1.bl], k F H true _ _ [] (Ans.int s) q⟩
  · exact .inl ⟨_, by rw [o1.int], k F H true _ _ [] (Ans.int s) q⟩
/-- a new list of fixed things -/
theorem Ans.newL {F H : Hp} {al1 : Bool} {q1 : List Addr} {l : Addr} {xs : List D} {vs : List V} (s : Sub F H) (hl : H l = none) (rl : RepL K F H xs vs []) : Ans K F H F (upd H l (.lst vs)) true (.lst true xs) (.ref l) [l] (fun a => al1 = true ∧ a ∈ q1) := by
  have gr : Grow F H F (upd H l (.lst vs)) := Grow.owned s hl
  refine ⟨?_, gr, fun _ => ⟨by simp, fun a ha => ?_⟩⟩
  · rw [Rep]; exact ⟨l, _, [], rfl, rl.mono Sub.refl fun a ha => absurd ha (by simp), .inl ⟨rfl, upd_same, rfl⟩⟩
  · have e : a = l := by simpa using ha
    subst e
    exact ⟨s.none hl, .inl hl⟩
/-- a new tuple of fixed things -/
theorem Ans.newT {F H : Hp} {P : Addr → Prop} {l : Addr} {o : Obj} {xs : List D} {vs : List V} (s : Sub F H) (hl : H l = none) (hd : o.dict = none) (rl : RepL K F H xs vs []) : Ans K F H (upd F l (.frz o (.tup vs))) (upd H l (.frz o (.tup vs))) true (.tup xs) (.ref l) [] P := by
  have gr : Grow F H (upd F l (.frz o (.tup vs))) (upd H l (.frz o (.tup vs))) := Grow.fixed s hl
  refine ⟨?_, gr, fun _ => ⟨by simp, fun a ha => absurd ha (by simp)⟩⟩
  rw [Rep]; exact ⟨l, _, rfl, .inl ⟨o, upd_same, hd⟩, rl.mono gr.fsub fun a ha => absurd ha (by simp)⟩
theorem lf_listOf : Lf1 K (fun v H Q => ∃ p ys, [v] = [.ref p] ∧ (SqL K H p ys ∨ SqT K H p ys) ∧ ∀ l, H l = none → Q (.ref l) (upd H l (.lst ys))) oListOf := fun F H al1 d1 v1 q1 Q R s o1 q k => by
  cases d1 <;> first | exact q.elim | skip
  · obtain ⟨a, vs, rfl, h1, rl⟩ := seqT_imm o1.rep q.1
    exact ⟨a, vs, rfl, .inr (s.seqT h1), fun l hl => k _ _ _ _ _ _ (Ans.newL s hl rl) q.2⟩
  · obtain ⟨a, vs, rfl, h1, rl⟩ := seqL_imm s o1.rep q.1
    exact ⟨a, vs, rfl, .inl h1, fun l hl => k _ _ _ _ _ _ (Ans.newL s hl rl) q.2⟩
def kTupN (K : PySem.W.Frag) (x : V) (H : Hp) (Q : VK) : Prop :=
  (∃ p xs, x = .ref p ∧ SqL K H p xs ∧ NewT H xs Q) ∨ (∃ p xs, x = .ref p ∧ SqT K H p xs ∧ Q (.ref p) H)
theorem rl_tupN {X : Cx} (pins : List (Addr × Obj)) (s : Shared) (σ : L2.St) (H : Hp) (x : V) (v : Value) (Q : VK) (I : Inv X pins σ H s) (r : RelV x v) (h : kTupN X.K x H Q) :
    wpAny (model X.prog X.w) X.A (call (.type "tuple") [v]) (EP X pins σ Q) X.xe s := by
  rcases h with ⟨p, xs, rfl, hs, q⟩ | ⟨p, xs, rfl, hs, q⟩
  · obtain rfl : v = .ref p := r
    obtain ⟨its, rv, pl, hz⟩ := I.list hs
    refine call_tuple_list pl.isList (fun h' hk => ?_) (by rw [List.size_toArray, ← rv.length]; exact hz)
    exact newTup (s := { s with heap := h' }) (t' := s.toks) (I.kept (t' := s.toks) hk) rv hz (Nat.le_refl _) (fun b o e => Heap.get?_push_of_some _ e) (Heap.get?_push_size _ rfl) q
  · obtain rfl : v = .ref p := r
    obtain ⟨its, rv, pl, hz⟩ := I.tuple hs
    exact call_tuple_tup pl ⟨.ref p, H, I, rfl, q⟩
theorem pe_tupN {X : Cx} {a : Expr} {ta : TE} {p pos : Pos} (hg : Gl X "tuple") (hm : X.mg "tuple" = none) (ha : PE X a ta) (na : starEach [a] X.env = (false, eval a X.env) :: starEach [] X.env := by rfl) :
    PE X (.Call (.Name "tuple" p) [a] [] pos) (tThen ta (kTupN X.K)) := by
  refine ⟨fun pins s σ H Q I h => ?_⟩
  exact Call_ (ld_blt I hg hm boot_tuple (PyProof.Rows.callWith_type1 (one_arg ha I h (fun v s2 x H2 I2 r q => rl_tupN pins s2 σ H2 x v Q I2 r q) na) na))
theorem lf_tupOf : Lf1 K (kTupN K) oTupOf := fun F H al1 d1 v1 q1 Q R s o1 q k => by
  cases d1 <;> first | exact q.elim | skip
  · obtain ⟨a, vs, rfl, h1, rl⟩ := tup_partsN o1.rep
    have := rl.ofImm q.1
    subst this
    refine .inr ⟨a, vs, rfl, s.seqT h1.sq, k F H true _ _ [] ⟨?_, Grow.refl s, fun _ => ⟨List.nodup_nil, fun a ha => absurd ha (by simp)⟩⟩ q.2⟩
    rw [Rep]; exact ⟨a, vs, rfl, h1, rl⟩
  · obtain ⟨a, vs, rfl, h1, rl⟩ := seqL_imm s o1.rep q.1
    exact .inl ⟨a, vs, rfl, h1, fun l o hl hd => k _ _ _ _ _ _ (Ans.newT s hl hd rl) q.2⟩
end
/-! sorted -/
def p2D (p : Int × Int) : D := .tup [.int p.1, .int p.2]
theorem imm_p2D {p : Int × Int} : (p2D p).imm = true := by unfold p2D; rw [imm_tup, immL_cons, immL_cons, immL_nil, imm_int, imm_int]; rfl
theorem immL_prs {l : List (Int × Int)} : immL (l.map p2D) = true := immL_map fun _ _ => imm_p2D
/-- one before the other -/
def lePr (x y : Int × Int) : Prop := x.1 < y.1 ∨ (x.1 = y.1 ∧ x.2 ≤ y.2)
def oSorted : O1 := fun _ d Q => (∃ ns : List Int, (∃ m, d = .lst m (ns.map D.int)) ∧ ∀ ns' : List Int, ns'.Perm ns → ns'.Pairwise (· ≤ ·) → Q true (.lst true (ns'.map D.int))) ∨
  (∃ ps : List (Int × Int), (∃ m, d = .lst m (ps.map p2D)) ∧ ∀ ps' : List (Int × Int), ps'.Perm ps → ps'.Pairwise lePr → Q true (.lst true (ps'.map p2D)))
def F2 {α β : Type} (R : α → β → Prop) : List α → List β → Prop
  | [], [] => True
  | a :: as, b :: bs => R a b ∧ F2 R as bs
  | _, _ => False
theorem F2.map_eq {α β : Type} {R : α → β → Prop} {k : β → α} (h : ∀ a b, R a b → k b = a) : ∀ {as : List α} {bs : List β}, F2 R as bs → bs.map k = as
  | [], [], _ => rfl
  | a :: as, b :: bs, r => by rw [List.map_cons, h a b r.1, F2.map_eq h r.2]
theorem F2.ofMap {α β : Type} {R : α → β → Prop} {k : β → α} : ∀ {bs : List β}, (∀ b ∈ bs, R (k b) b) → F2 R (bs.map k) bs
  | [], _ => trivial
  | b :: bs, h => ⟨h b (by simp), F2.ofMap fun c hc => h c (by simp [hc])⟩
theorem F2.mem {α β : Type} {R : α → β → Prop} : ∀ {as : List α} {bs : List β}, F2 R as bs → ∀ b ∈ bs, ∃ a, R a b
  | a :: as, b :: bs, r, c, hc => by
    rcases List.mem_cons.mp hc with rfl | hc
    · exact ⟨a, r.1⟩
    · exact F2.mem r.2 c hc
  | [], [], _, c, hc => absurd hc (by simp)
/-- sorted(xs), xs a list of pairs of ints that may stand in the head -/
def rSortedQ (K : PySem.W.Frag) : List V → Hp → VK → Prop := fun vs H Q => ∃ (a : Addr) (xs : List V) (ps : List (Int × Int)) (Rl : Int × Int → V → Prop), vs = [V.ref a] ∧ SqL K H a xs ∧ F2 Rl ps xs ∧ (∀ p v, Rl p v → ∃ t, v = V.ref t ∧ SqT K H t [.int p.1, .int p.2]) ∧
  ∀ ys ps' p, ps'.Perm ps → ps'.Pairwise lePr → F2 Rl ps' ys → H p = none → Q (.ref p) (upd H p (.lst ys))
open Classical in
theorem cr_sortedQ {X : Cx} : CallR X (.builtin "sorted") (rSortedQ X.K) := by
  intro pins s σ H vs us Q I r h
  obtain ⟨a, xs, ps, Rl, rfl, hs, f2, hR, q⟩ := h
  have hk : ∃ k : V → Int × Int, ∀ p v, Rl p v → k v = p := by
    refine ⟨fun v => if h : ∃ p, Rl p v then h.choose else (0, 0), fun p v h => ?_⟩
    have hh : ∃ p, Rl p v := ⟨p, h⟩
    show (if h : ∃ p, Rl p v then h.choose else (0, 0)) = p
    rw [dif_pos hh]
    obtain ⟨t, e, s1⟩ := hR _ _ hh.choose_spec
    obtain ⟨t', e', s2⟩ := hR _ _ h
    rw [e] at e'
    cases e'
    have := I.tuple_inj s1 s2
    simp only [List.cons.injEq, V.int.injEq, and_true] at this
    exact Prod.ext this.1 this.2
  obtain ⟨k, hk⟩ := hk
  have hx : ∀ x ∈ xs, Rl (k x) x ∧ ∃ t, x = V.ref t ∧ SqT X.K H t [.int (k x).1, .int (k x).2] := fun x hx => by
    obtain ⟨p, hp⟩ := f2.mem x hx
    rw [hk p x hp]
    exact ⟨hp, hR p x hp⟩
  obtain ⟨its, rv, hl, hz⟩ := I.list hs
  obtain ⟨u, rfl, ru⟩ := vals1 r
  obtain rfl : u = Value.ref a := ru
  obtain ⟨e1, e2⟩ := refs_back rv fun x m => by
    obtain ⟨_, t, e, _⟩ := hx x m
    exact ⟨t, e⟩
  refine SrtO.sorted_pairsO (k := fun u => k (backV u)) hl.isList (by rw [← rv.length]; exact hz) (fun v hv => ?_) fun h' d out h1 h2 kp hd hn => ?_
  · obtain ⟨t, rfl⟩ := e2 v hv
    have hm : V.ref t ∈ xs := by rw [e1]; exact List.mem_map.mpr ⟨_, hv, rfl⟩
    obtain ⟨_, t', e, ht⟩ := hx _ hm
    cases e
    obtain ⟨its2, r2, pl, _⟩ := I.tuple ht
    obtain ⟨u1, u2, rfl, ri, rj⟩ := vals2 r2
    obtain ⟨t1, rfl⟩ := ri
    obtain ⟨t2, rfl⟩ := rj
    obtain ⟨o, ho, hc, n, hd⟩ := pl
    exact ⟨t, o, t1, t2, n, rfl, ho, hc, hd⟩
  · have h3 : ∀ u ∈ out, ∃ a, u = Value.ref a := fun u hu => e2 u (h2.perm.mem_iff.mp hu)
    obtain ⟨n, hn⟩ := hn
    have hb : SrtO.Stb (ltP k) (out.map backV) xs := by
      rw [e1]
      exact SrtO.Stb.map (ltP_swo k) backV h2
    have hs : SrtO.Srtd (ltP k) (out.map backV) := SrtO.srtd_map h1
    refine ⟨.ref d, upd H d (.lst (out.map backV)), I.laid (t' := s.toks) kp hd ⟨?_, out, n, vals_back h3, hn⟩, rfl, q _ ((out.map backV).map k) d ?_ ?_ (F2.ofMap fun y hy => (hx y (hb.perm.mem_iff.mp hy)).1) (I.hok.fresh hd)⟩
    · rw [hb.len]
      exact hz
    · rw [← F2.map_eq hk f2]
      exact hb.perm.map k
    · refine List.pairwise_map.mpr (List.Pairwise.imp ?_ hs)
      intro x y hxy
      have := SrtO.lexB_no.mp hxy
      unfold lePr
      omega
section
variable {K : PySem.W.Frag}
theorem lf_sortI : Lf1 K (fun v => rSortedI K [v]) (fun _ d Q => ∃ ns : List Int, (∃ m, d = .lst m (ns.map D.int)) ∧ ∀ ns' : List Int, ns'.Perm ns → ns'.Pairwise (· ≤ ·) → Q true (.lst true (ns'.map D.int))) := fun F H al1 d1 v1 q1 Q R s o1 q k => by
  obtain ⟨ns, ⟨m, rfl⟩, q⟩ := q
  obtain ⟨a, vs, rfl, h1, rl⟩ := seqL_imm s o1.rep immL_ints
  obtain ⟨rfl, _⟩ := rl.ints
  exact ⟨a, ns, rfl, h1, fun ns' p hp hs hl => k _ _ _ _ _ _ (Ans.newL s hl RepL.ofInts) (q ns' hp hs)⟩
/-- the tree of a pair and its value -/
def isPr (K : PySem.W.Frag) (F : Hp) (p : Int × Int) (v : V) : Prop := ∃ t, v = V.ref t ∧ TupN K F t [.int p.1, .int p.2]
theorem RepL.prs {F H : Hp} : ∀ {ps : List (Int × Int)} {vs : List V}, RepL K F H (ps.map p2D) vs [] → F2 (isPr K F) ps vs
  | [], _, r => by rw [List.map_nil, RepL] at r; obtain ⟨rfl, _⟩ := r; trivial
  | p :: ps, _, r => by
    rw [List.map_cons, RepL] at r
    obtain ⟨v, vs', f1, f2, rfl, ef, r1, r2⟩ := r
    obtain ⟨rfl, rfl⟩ := List.append_eq_nil_iff.mp ef.symm
    refine ⟨?_, r2.prs⟩
    unfold p2D at r1
    obtain ⟨t, us, rfl, hs, rl⟩ := tup_partsN r1
    obtain ⟨rfl, _⟩ := RepL.ints (ns := [p.1, p.2]) rl
    exact ⟨t, rfl, hs⟩
theorem RepL.ofPrs {F H : Hp} : ∀ {ps : List (Int × Int)} {vs : List V}, F2 (isPr K F) ps vs → RepL K F H (ps.map p2D) vs []
  | [], [], _ => by rw [List.map_nil, RepL]; exact ⟨rfl, rfl⟩
  | p :: ps, v :: vs, r => by
    rw [List.map_cons, RepL]
    obtain ⟨⟨t, rfl, hs⟩, r2⟩ := r
    refine ⟨_, vs, [], [], rfl, rfl, ?_, RepL.ofPrs r2⟩
    unfold p2D
    rw [Rep]
    exact ⟨t, _, rfl, hs, RepL.ofInts (ns := [p.1, p.2])⟩
theorem lf_sortP : Lf1 K (fun v => rSortedQ K [v]) (fun _ d Q => ∃ ps : List (Int × Int), (∃ m, d = .lst m (ps.map p2D)) ∧ ∀ ps' : List (Int × Int), ps'.Perm ps → ps'.Pairwise lePr → Q true (.lst true (ps'.map p2D))) := fun F H al1 d1 v1 q1 Q R s o1 q k => by
  obtain ⟨ps, ⟨m, rfl⟩, q⟩ := q
  obtain ⟨a, vs, rfl, h1, rl⟩ := seqL_imm s o1.rep immL_prs
  exact ⟨a, vs, ps, isPr K F, rfl, h1, rl.prs, fun p v ⟨t, e, h⟩ => ⟨t, e, s.seqT h.sq⟩, fun ys ps' p hp hs f2 hl => k _ _ _ _ _ _ (Ans.newL s hl (RepL.ofPrs f2)) (q ps' hp hs)⟩
theorem lf_sorted : Lf1 K (fun v H Q => rSortedI K [v] H Q ∨ rSortedQ K [v] H Q) oSorted := fun F H al1 d1 v1 q1 Q R s o1 q k => by
  rcases q with q | q
  · exact .inl (lf_sortI F H al1 d1 v1 q1 Q R s o1 q k)
  · exact .inr (lf_sortP F H al1 d1 v1 q1 Q R s o1 q k)
end

/-! the calls -/
section
variable {X : Cx} {K : PySem.W.Frag} {a b c e : Expr} {pos P0 P1 pos1 : Pos} {p p1 p2 : Bool} {Ta Tb : VT} {ta tb : TE}
theorem ve_sum1 (hK : X.K = K) (hc : X.calm = true) (hg : Gl X "sum") (hm : X.mg "sum" = none) (ha : VE X K p a ta Ta) (he : starEach [a] X.env = [(false, eval a X.env)] := by rfl) : VE X K p (.Call (.Name "sum" P0) [a] [] pos) (tUn (fun v => rSum K [v]) ta) (TU Ta oSum) := by
  subst hK; exact ve_b1 (cr_sum hc) lf_sum hg hm (by decide +kernel) ha (by decide) (by decide) he
theorem ve_all1 (hK : X.K = K) (hc : X.calm = true) (hg : Gl X "all") (hm : X.mg "all" = none) (ha : VE X K p a ta Ta) (he : starEach [a] X.env = [(false, eval a X.env)] := by rfl) : VE X K p (.Call (.Name "all" P0) [a] [] pos) (tUn (fun v => rAll K [v]) ta) (TU Ta oAll) := by
  subst hK; exact ve_b1 (cr_all hc) lf_all hg hm (by decide +kernel) ha (by decide) (by decide) he
theorem ve_any1 (hK : X.K = K) (hc : X.calm = true) (hg : Gl X "any") (hm : X.mg "any" = none) (ha : VE X K p a ta Ta) (he : starEach [a] X.env = [(false, eval a X.env)] := by rfl) : VE X K p (.Call (.Name "any" P0) [a] [] pos) (tUn (fun v => rAny K [v]) ta) (TU Ta oAny) := by
  subst hK; exact ve_b1 (cr_any hc) lf_any hg hm (by decide +kernel) ha (by decide) (by decide) he
theorem ve_max1 (hK : X.K = K) (hc : X.calm = true) (hg : Gl X "max") (hm : X.mg "max" = none) (ha : VE X K p a ta Ta) (he : starEach [a] X.env = [(false, eval a X.env)] := by rfl) : VE X K p (.Call (.Name "max" P0) [a] [] pos) (tUn (fun v => rMax K [v]) ta) (TU Ta oMax1) := by
  subst hK; exact ve_b1 (cr_max hc) lf_max1 hg hm (by decide +kernel) ha (by decide) (by decide) he
theorem ve_min1 (hK : X.K = K) (hc : X.calm = true) (hg : Gl X "min") (hm : X.mg "min" = none) (ha : VE X K p a ta Ta) (he : starEach [a] X.env = [(false, eval a X.env)] := by rfl) : VE X K p (.Call (.Name "min" P0) [a] [] pos) (tUn (fun v => rMin K [v]) ta) (TU Ta oMin1) := by
  subst hK; exact ve_b1 (cr_min hc) lf_min1 hg hm (by decide +kernel) ha (by decide) (by decide) he
theorem ve_sorted (hK : X.K = K) (hg : Gl X "sorted") (hm : X.mg "sorted" = none) (ha : VE X K p a ta Ta) (he : starEach [a] X.env = [(false, eval a X.env)] := by rfl) : VE X K p (.Call (.Name "sorted" P0) [a] [] pos) (tUn (fun v H Q => rSortedI K [v] H Q ∨ rSortedQ K [v] H Q) ta) (TU Ta oSorted) := by
  subst hK; exact ve_b1 (r := fun vs H Q => rSortedI X.K vs H Q ∨ rSortedQ X.K vs H Q) (CallR.or cr_sortedI cr_sortedQ) lf_sorted hg hm (by decide +kernel) ha (by decide) (by decide) he
theorem ve_int1 (hg : Gl X "int") (hm : X.mg "int" = none) (ha : VE X K p a ta Ta) (he : starEach [a] X.env = [(false, eval a X.env)] := by rfl) : VE X K p (.Call (.Name "int" P0) [a] [] pos) (tUn (fun v H Q => (∃ i, [v] = [.int i] ∧ Q (.int i) H) ∨ ∃ k, [v] = [.bl k] ∧ Q (.int (if k then 1 else 0)) H) ta) (TU Ta oInt1) :=
  ve_ty1 call_int1 lf_int1 hg hm (by decide +kernel) ha (by decide) (by decide) he
theorem ve_list (hK : X.K = K) (hg : Gl X "list") (hm : X.mg "list" = none) (ha : VE X K p a ta Ta) (he : starEach [a] X.env = [(false, eval a X.env)] := by rfl) : VE X K p (.Call (.Name "list" P0) [a] [] pos) (tUn (fun v H Q => ∃ p ys, [v] = [.ref p] ∧ (SqL K H p ys ∨ SqT K H p ys) ∧ ∀ l, H l = none → Q (.ref l) (upd H l (.lst ys))) ta) (TU Ta oListOf) := by
  subst hK; exact ve_ty1 call_list_of lf_listOf hg hm (by decide +kernel) ha (by decide) (by decide) he
theorem ve_tuple (hK : X.K = K) (hg : Gl X "tuple") (hm : X.mg "tuple" = none) (ha : VE X K p a ta Ta) (na : starEach [a] X.env = (false, eval a X.env) :: starEach [] X.env := by rfl) : VE X K p (.Call (.Name "tuple" P0) [a] [] pos) (tThen ta (kTupN K)) (TU Ta oTupOf) := by
  subst hK; exact ⟨pe_tupN hg hm ha.pe na, Snd.un ha.snd lf_tupOf⟩
/-! list(range(n)), tuple(range(n)) -/
def oLRg : O1 := fun _ d Q => match d with
  | .int n => n ≤ 2 ^ 24 ∧ -(2 ^ 62) ≤ n ∧ Q true (.lst true (rng 0 n.toNat))
  | _ => False
def oTRg : O1 := fun _ d Q => match d with
  | .int n => n ≤ 2 ^ 24 ∧ -(2 ^ 62) ≤ n ∧ Q true (.tup (rng 0 n.toNat))
  | _ => False
theorem rng_ints {lo : Int} {n : Nat} : rng lo n = ((List.range n).map fun k : Nat => lo + (k : Int)).map D.int := by rw [rng, List.map_map]; rfl
theorem rgV_ints {n : Int} : rgV 0 n = ((List.range n.toNat).map fun k : Nat => (0 : Int) + (k : Int)).map V.int := by unfold rgV; rw [List.map_map, Int.sub_zero]; rfl
theorem lf_lRg : Lf1 K (fun x H Q => ∃ n, x = .int n ∧ RgOk 0 n ∧ ∀ q, H q = none → Q (.ref q) (upd H q (.lst (rgV 0 n)))) oLRg := fun F H al1 d1 v1 q1 Q R s o1 q k => by
  cases d1 <;> first | exact q.elim | skip
  rename_i n
  have h1 : n ≤ 2 ^ 24 := q.1
  refine ⟨n, o1.int, ⟨by decide, by decide, q.2.1, by omega, by omega⟩, fun l hl => ?_⟩
  rw [rgV_ints]
  exact k _ _ _ _ _ _ (Ans.newL s hl (by rw [rng_ints]; exact RepL.ofInts)) q.2.2
def tTupRgN (te : L2.St → Hp → (Int → Int → Hp → Prop) → Prop) : TE := fun σ H Q => te σ H fun a b H1 => RgOk a b ∧ NewT H1 (rgV a b) Q
theorem pe_tupRgN {X : Cx} {e : Expr} {te : L2.St → Hp → (Int → Int → Hp → Prop) → Prop} {p pos : Pos} (hc : X.calm = true) (hg : Gl X "tuple") (hm : X.mg "tuple" = none) (he : PRg X e te) (na : starEach [e] X.env = (false, eval e X.env) :: starEach [] X.env := by rfl) : PE X (.Call (.Name "tuple" p) [e] [] pos) (tTupRgN te) := by
  refine ⟨fun pins s σ H Q I h => ?_⟩
  refine Call_ (ld_blt I hg hm boot_tuple (PyProof.Rows.callWith_type1 (args_cons (L2.thn (he pins s σ H _ I h) fun x s1 ⟨r, a, b, t, u, v, H1, ex, hr, I1, ok, q⟩ => args_nil ?_) na) na))
  subst ex
  obtain ⟨b1, b2, b3, b4, b5⟩ := ok
  refine call_tuple_range (n := (b - a).toNat) (I1.ok.hd hc) hr (small_one b1 b2 b3 b4) (rangeSize_nat a b) b5 fun h' tk acc hk hi => ?_
  exact newTup (s := { s1 with heap := h', toks := tk }) (t' := tk) (I1.kept hk) (vals_rg hi) (by rw [rgV_length, sizeLine_eq]; omega) (Nat.le_refl _) (fun c o e => Heap.get?_push_of_some _ e) (by rw [Array.toArray_toList]; exact Heap.get?_push_size _ rfl) q
theorem lf_tRg : Lf1 K (fun x H Q => ∃ n, x = .int n ∧ RgOk 0 n ∧ NewT H (rgV 0 n) Q) oTRg := fun F H al1 d1 v1 q1 Q R s o1 q k => by
  cases d1 <;> first | exact q.elim | skip
  rename_i n
  have h1 : n ≤ 2 ^ 24 := q.1
  refine ⟨n, o1.int, ⟨by decide, by decide, q.2.1, by omega, by omega⟩, fun l o hl hd => ?_⟩
  rw [rgV_ints]
  exact k _ _ _ _ _ _ (Ans.newT s hl hd (by rw [rng_ints]; exact RepL.ofInts)) q.2.2
theorem prg1_un {t : TE} : tLstRg (tRg1 t) = tUn (fun x H Q => ∃ n, x = .int n ∧ RgOk 0 n ∧ ∀ q, H q = none → Q (.ref q) (upd H q (.lst (rgV 0 n)))) t := rfl
theorem ve_listrg (hc : X.calm = true) (hg : Gl X "list") (hm : X.mg "list" = none) (hg2 : Gl X "range") (hm2 : X.mg "range" = none) (ha : VE X K p a ta Ta)
    (na : starEach [a] X.env = (false, eval a X.env) :: starEach [] X.env := by rfl) (na2 : starEach [.Call (.Name "range" P1) [a] [] pos1] X.env = (false, eval (.Call (.Name "range" P1) [a] [] pos1) X.env) :: starEach [] X.env := by rfl) :
    VE X K p (.Call (.Name "list" P0) [.Call (.Name "range" P1) [a] [] pos1] [] pos) (tLstRg (tRg1 ta)) (TU Ta oLRg) :=
  ⟨pe_listRg hc hg hm (prg_1 hg2 hm2 ha.pe na) na2, Snd.un ha.snd lf_lRg⟩
theorem ve_tuplerg (hc : X.calm = true) (hg : Gl X "tuple") (hm : X.mg "tuple" = none) (hg2 : Gl X "range") (hm2 : X.mg "range" = none) (ha : VE X K p a ta Ta)
    (na : starEach [a] X.env = (false, eval a X.env) :: starEach [] X.env := by rfl) (na2 : starEach [.Call (.Name "range" P1) [a] [] pos1] X.env = (false, eval (.Call (.Name "range" P1) [a] [] pos1) X.env) :: starEach [] X.env := by rfl) :
    VE X K p (.Call (.Name "tuple" P0) [.Call (.Name "range" P1) [a] [] pos1] [] pos) (tTupRgN (tRg1 ta)) (TU Ta oTRg) :=
  ⟨pe_tupRgN hc hg hm (prg_1 hg2 hm2 ha.pe na) na2, Snd.un ha.snd lf_tRg⟩
/-! in, not in -/
/-- x in a row: b tells it -/
def oIn (neg : Bool) : O2 := fun _ d1 _ d2 Q => ∃ (k k' : Nat) (xs : List D), (d2 = .tup xs ∨ ∃ m, d2 = .lst m xs) ∧ pln k d1 = true ∧ plnL k' xs = true ∧ k ≤ 60 ∧ k' ≤ 60 ∧ ∀ b : Bool, (b = true ↔ fz d1 ∈ fzL xs) → Q true (.bl (neg != b))
def rInT (K : PySem.W.Frag) : R2 := fun x y H Q => ∃ d ds, Dp K H x d ∧ Dp K H y (.tuple ds) ∧ SeqAt.shaped d = true ∧ SeqAt.shaped (.tuple ds) = true ∧ Q (.bl (ds.any fun z => PyData.eqv z d)) H
def rNotInT (K : PySem.W.Frag) : R2 := fun x y H Q => ∃ d ds, Dp K H x d ∧ Dp K H y (.tuple ds) ∧ SeqAt.shaped d = true ∧ SeqAt.shaped (.tuple ds) = true ∧ Q (.bl (!ds.any fun z => PyData.eqv z d)) H
theorem op_inT (hu : X.A.units + 65 < cLine) : OpR X (compareOp .In) (rInT X.K) := by
  intro pins s σ H x y v u Q I rx ry h
  obtain ⟨d, ds, hd, he, sd, se, q⟩ := h
  obtain ⟨as, r1⟩ := Dp.reads I d x v hd rx
  obtain ⟨bs, r2⟩ := Dp.reads I (.tuple ds) y u he ry
  exact SeqAt.in_tuple_reads r2 r1 (SeqAt.canLay_of_shaped se) (SeqAt.canLay_of_shaped sd) (room_in_shaped sd hu) ⟨.bl _, H, I, rfl, q⟩
theorem op_notInT (hu : X.A.units + 65 < cLine) : OpR X (compareOp .NotIn) (rNotInT X.K) := by
  intro pins s σ H x y v u Q I rx ry h
  obtain ⟨d, ds, hd, he, sd, se, q⟩ := h
  obtain ⟨as, r1⟩ := Dp.reads I d x v hd rx
  obtain ⟨bs, r2⟩ := Dp.reads I (.tuple ds) y u he ry
  exact SeqAt.notIn_tuple_reads r2 r1 (SeqAt.canLay_of_shaped se) (SeqAt.canLay_of_shaped sd) (room_in_shaped sd hu) ⟨.bl _, H, I, rfl, q⟩
theorem any_in {k k' : Nat} {d : D} (h : pln k d = true) : ∀ {xs : List D}, plnL k' xs = true → ((toPyL xs).any (fun z => PyData.eqv z (toPy d)) = true ↔ fz d ∈ fzL xs)
  | [], _ => by rw [toPyL, fzL_nil]; simp
  | x :: xs, h' => by
    rw [plnL, Bool.and_eq_true] at h'
    rw [toPyL, fzL_cons, List.any_cons, Bool.or_eq_true, pln_eqv h'.1 h, any_in h h'.2, List.mem_cons]
    constructor
    · rintro (e | e)
      · exact .inl e.symm
      · exact .inr e
    · rintro (e | e)
      · exact .inl e.symm
      · exact .inr e
theorem lf_in : Lf2 K (fun x y H Q => rInD K x y H Q ∨ rInT K x y H Q) (oIn false) := fun F H al1 d1 v1 q1 al2 d2 v2 q2 Q R s o1 o2 dj q k => by
  obtain ⟨n, n', xs, hx, h1, h2, hn, hn', q⟩ := q
  have sh1 := pln_shaped h1 (Nat.le_trans hn (by decide))
  have dp1 := o1.rep.dp s (SeqAt.canLay_of_shaped sh1)
  have q' := q _ (any_in h1 h2)
  rcases hx with rfl | ⟨m, rfl⟩
  · have sh2 := pln_shaped (k := n' + 1) (d := .tup xs) (by rw [pln]; exact h2) (by omega)
    have dp2 := o2.rep.dp s (SeqAt.canLay_of_shaped sh2)
    rw [toPy] at sh2 dp2
    exact .inr ⟨_, _, dp1, dp2, sh1, sh2, k F H true _ _ [] (Ans.bl s) (by simpa using q')⟩
  · have sh2 := pln_shaped (k := n' + 1) (d := .lst m xs) (by rw [pln]; exact h2) (by omega)
    have dp2 := o2.rep.dp s (SeqAt.canLay_of_shaped sh2)
    rw [toPy] at sh2 dp2
    exact .inl ⟨_, _, dp1, dp2, sh1, sh2, k F H true _ _ [] (Ans.bl s) (by simpa using q')⟩
theorem lf_nin : Lf2 K (fun x y H Q => rNotInD K x y H Q ∨ rNotInT K x y H Q) (oIn true) := fun F H al1 d1 v1 q1 al2 d2 v2 q2 Q R s o1 o2 dj q k => by
  obtain ⟨n, n', xs, hx, h1, h2, hn, hn', q⟩ := q
  have sh1 := pln_shaped h1 (Nat.le_trans hn (by decide))
  have dp1 := o1.rep.dp s (SeqAt.canLay_of_shaped sh1)
  have q' := q _ (any_in h1 h2)
  rcases hx with rfl | ⟨m, rfl⟩
  · have sh2 := pln_shaped (k := n' + 1) (d := .tup xs) (by rw [pln]; exact h2) (by omega)
    have dp2 := o2.rep.dp s (SeqAt.canLay_of_shaped sh2)
    rw [toPy] at sh2 dp2
    exact .inr ⟨_, _, dp1, dp2, sh1, sh2, k F H true _ _ [] (Ans.bl s) (by simpa using q')⟩
  · have sh2 := pln_shaped (k := n' + 1) (d := .lst m xs) (by rw [pln]; exact h2) (by omega)
    have dp2 := o2.rep.dp s (SeqAt.canLay_of_shaped sh2)
    rw [toPy] at sh2 dp2
    exact .inl ⟨_, _, dp1, dp2, sh1, sh2, k F H true _ _ [] (Ans.bl s) (by simpa using q')⟩
theorem ve_in (hK : X.K = K) (hu : X.A.units + 65 < cLine) (ha : VE X K p1 a ta Ta) (hb : VE X K p2 b tb Tb) (hm : behindInMarks .In b = false := by first | exact nobehind _ (by decide) (by decide) | rfl) : VE X K (p1 && p2) (.Compare a [.In] [b] pos) (tOp (fun x y H Q => rInD K x y H Q ∨ rInT K x y H Q) ta tb) (T2 p2 Ta Tb (oIn false)) := by
  subst hK; exact ve_cmp (OpR.or (op_inD hu) (op_inT hu)) lf_in ha hb hm
theorem vq_in (hK : X.K = K) (hu : X.A.units + 65 < cLine) (ha : VE X K p1 a ta Ta) (hb : VE X K p2 b tb Tb) (hm : behindInMarks .In b = false := by first | exact nobehind _ (by decide) (by decide) | rfl) : VQ X K (p1 && p2) (.Compare a [.In] [b] pos) (tTest (tOp (fun x y H Q => rInD K x y H Q ∨ rInT K x y H Q) ta tb)) (TQ (T2 p2 Ta Tb (oIn false))) := by
  subst hK; exact vq_cmp (OpR.or (op_inD hu) (op_inT hu)) lf_in ha hb hm
theorem ve_nin (hK : X.K = K) (hu : X.A.units + 65 < cLine) (ha : VE X K p1 a ta Ta) (hb : VE X K p2 b tb Tb) (hm : behindInMarks .NotIn b = false := by first | exact nobehind _ (by decide) (by decide) | rfl) : VE X K (p1 && p2) (.Compare a [.NotIn] [b] pos) (tOp (fun x y H Q => rNotInD K x y H Q ∨ rNotInT K x y H Q) ta tb) (T2 p2 Ta Tb (oIn true)) := by
  subst hK; exact ve_cmp (OpR.or (op_notInD hu) (op_notInT hu)) lf_nin ha hb hm
theorem vq_nin (hK : X.K = K) (hu : X.A.units + 65 < cLine) (ha : VE X K p1 a ta Ta) (hb : VE X K p2 b tb Tb) (hm : behindInMarks .NotIn b = false := by first | exact nobehind _ (by decide) (by decide) | rfl) : VQ X K (p1 && p2) (.Compare a [.NotIn] [b] pos) (tTest (tOp (fun x y H Q => rNotInD K x y H Q ∨ rNotInT K x y H Q) ta tb)) (TQ (T2 p2 Ta Tb (oIn true))) := by
  subst hK; exact vq_cmp (OpR.or (op_notInD hu) (op_notInT hu)) lf_nin ha hb hm
end
end VL

namespace VL
open PySem PySem.Spec PyProof.Rows L2

theorem room65 {k : Nat} {A : Around} (r : Room k A) : A.units + 65 < cLine := by have := r.un; omega
/-! what one stops at in a walk -/
def CO (O : O1) (al : Bool) (d : D) (Q : Bool → D → Prop) (_ : Mk Q) : Prop := O al d Q
def CO2 (O : O2) (al1 : Bool) (d1 : D) (al2 : Bool) (d2 : D) (Q : Bool → D → Prop) (_ : Mk Q) : Prop := O al1 d1 al2 d2 Q
/-! ### dicts with ints and texts as keys -/
def keyD : D → Option Key
  | .int i => some (.inl i)
  | .str x => some (.inr x)
  | _ => none
theorem keyD_rep {K : PySem.W.Frag} {F H : Hp} {d : D} {v : V} {fp : List Addr} {k : Key} (r : Rep K F H d v fp) (e : keyD d = some k) : v = kV k ∧ fp = [] := by
  cases d <;> first | (cases e; done) | skip
  · rw [Rep] at r; cases e; exact r
  · rw [Rep] at r; cases e; exact r
/-- the place of a key -/
def idxK : List Key → Key → Option Nat
  | [], _ => none
  | c :: ks, k => if c = k then some 0 else (idxK ks k).map (· + 1)
def inK (ks : List Key) (k : Key) : Bool := ks.any fun c => decide (c = k)
theorem inK_iff {ks : List Key} {k : Key} : inK ks k = true ↔ k ∈ ks := by
  unfold inK
  rw [List.any_eq_true]
  constructor
  · rintro ⟨c, hc, e⟩
    rw [← of_decide_eq_true e]; exact hc
  · exact fun h => ⟨k, h, decide_eq_true rfl⟩
theorem inK_no {ks : List Key} {k : Key} (h : k ∉ ks) : inK ks k = false := by
  rw [Bool.eq_false_iff]
  exact fun z => h (inK_iff.mp z)
/-- what stands at a key -/
def atK (ks : List Key) (ds : List D) (k : Key) : Option D := (idxK ks k).bind fun j => ds[j]?
theorem valV_zip {k : Key} : ∀ {ks : List Key} {vs : List V}, ks.length = vs.length → valV (ks.zip vs) k = (idxK ks k).bind fun j => vs[j]?
  | [], [], _ => rfl
  | c :: ks, v :: vs, h => by
    rw [List.zip_cons_cons, idxK]
    by_cases e : c = k
    · rw [valV_pos e, if_pos e]; rfl
    · rw [valV_neg e, valV_zip (by simpa using h), if_neg e]
      cases idxK ks k <;> rfl
theorem any_zip {k : Key} : ∀ {ks : List Key} {vs : List V}, ks.length = vs.length → ((ks.zip vs).any fun kv => decide (kv.1 = k)) = inK ks k
  | [], [], _ => rfl
  | c :: ks, v :: vs, h => by
    rw [List.zip_cons_cons, List.any_cons, any_zip (by simpa using h)]
    rfl
theorem putK_new {k : Key} {v : V} {ks : List Key} {vs : List V} (h : ks.length = vs.length) (hk : k ∉ ks) : putK (ks.zip vs) k v = (ks ++ [k]).zip (vs ++ [v]) := by
  unfold putK
  rw [any_zip h, inK_no hk, if_neg (by decide), List.zip_append h]
  rfl
theorem putK_old {k : Key} {v : V} : ∀ {ks : List Key} {vs : List V} {j : Nat}, ks.length = vs.length → ks.Nodup → ks[j]? = some k → (ks.zip vs).map (fun kv => if kv.1 = k then (kv.1, v) else kv) = ks.zip (vs.set j v)
  | [], _, _, _, _, e => by simp at e
  | c :: ks, w :: vs, 0, h, nd, e => by
    have e : c = k := by simpa using e
    subst e
    rw [List.zip_cons_cons, List.map_cons, List.set_cons_zero, List.zip_cons_cons, if_pos rfl]
    congr 1
    refine (List.map_congr_left fun p hp => ?_).trans (List.map_id _)
    rw [if_neg fun z => (List.nodup_cons.mp nd).1 (by rw [← z]; exact (List.of_mem_zip hp).1)]
    rfl
  | c :: ks, w :: vs, j + 1, h, nd, e => by
    have e : ks[j]? = some k := by simpa using e
    have hc : c ≠ k := fun z => (List.nodup_cons.mp nd).1 (by rw [z]; exact List.mem_of_getElem? e)
    rw [List.zip_cons_cons, List.map_cons, List.set_cons_succ, List.zip_cons_cons, if_neg hc, putK_old (by simpa using h) (List.nodup_cons.mp nd).2 e]
/-- d[k] = v -/
def oDSet : OM (D × D) := fun c kd Q => match c with
  | .dK true ks ds => match keyD kd.1 with
    | some k => ks.Nodup ∧ ds.length < sizeLine ∧ (k ∉ ks → Q (.dK true (ks ++ [k]) (ds ++ [kd.2])) .non) ∧ (∀ j, ks[j]? = some k → Q (.dK true ks (ds.set j kd.2)) .non)
    | none => False
  | _ => False
theorem own_oDSet : Own2 oDSet := fun c kd Q h => by
  cases c <;> first | exact h.elim | skip
  rename_i m ks xs
  cases m <;> first | exact h.elim | trivial
section
variable {K : PySem.W.Frag}
theorem own_dict {F H : Hp} {a : Addr} {ks : List Key} {xs : List D} {fc : List Addr} (r : Rep K F H (.dK true ks xs) (.ref a) fc) : ∃ vs fi, H a = some (.dK (ks.zip vs)) ∧ ks.length = xs.length ∧ RepL K F H xs vs fi ∧ fc = a :: fi := by
  rw [Rep] at r
  obtain ⟨b, vs, fi, e, hl, rl, ⟨_, h, e2⟩ | ⟨z, _⟩⟩ := r
  · cases e; exact ⟨vs, fi, h, hl, rl, e2⟩
  · cases z
theorem wr_dict {F H : Hp} {a : Addr} {ks : List Key} {ws : List V} {ys : List D} {fc fi fi' fa fq : List Addr} {d : D} {v : V} (e1 : fc = a :: fi) (hl : ks.length = ys.length) (hnew : RepL K F (upd H a (.dK (ks.zip ws))) ys ws fi') (hd : Rep K F (upd H a (.dK (ks.zip ws))) d v fq) (hnd : (fi' ++ fq).Nodup) (hna : a ∉ fi' ++ fq) (hsrc : ∀ b ∈ fi' ++ fq, b ∈ fi ∨ b ∈ fa) :
    Wr K F H a fc fa (upd H a (.dK (ks.zip ws))) (.dK true ks ys) (a :: fi') d v fq := by
  refine ⟨?_, hd, fun b o e hb => by rw [upd_ne hb]; exact e, ?_, fun b hb => ?_⟩
  · rw [Rep]; exact ⟨a, ws, fi', rfl, hl, hnew, .inl ⟨rfl, upd_same, rfl⟩⟩
  · exact List.nodup_cons.mpr ⟨hna, hnd⟩
  · rcases List.mem_cons.mp hb with rfl | hb
    · exact .inl (by rw [e1]; simp)
    · rcases hsrc b hb with y | y
      · exact .inl (by rw [e1]; simp [y])
      · exact .inr y
theorem lf_setD : LfSet K rSetD oDSet := fun F H a c d1 d2 v1 v2 fc f1 f2 Q R s rc ha nd r1 r2 nn dj q k => by
  cases c <;> first | exact q.elim | skip
  rename_i m ks xs
  cases m with
  | false => exact q.elim
  | true =>
  simp only [oDSet] at q
  cases ek : keyD d1 with
  | none => rw [ek] at q; exact q.elim
  | some kk =>
  rw [ek] at q
  simp only at q
  obtain ⟨hnd, hsz, qn, qo⟩ := q
  obtain ⟨vs, fi, hH, hl, rl, rfl⟩ := own_dict rc
  obtain ⟨na, ni⟩ := List.nodup_cons.mp nd
  have hlen := rl.len
  obtain ⟨e1, rfl⟩ := keyD_rep r1 ek
  simp only [List.nil_append] at nn dj k
  have naf : a ∉ f2 := fun z => dj a z (by simp)
  have hlv : ks.length = vs.length := hl.trans hlen
  have hz : (ks.zip vs).length < sizeLine := by rw [List.length_zip]; omega
  by_cases hk : kk ∈ ks
  · obtain ⟨j, hj, ej⟩ := List.mem_iff_getElem.mp hk
    have ej' : ks[j]? = some kk := by rw [List.getElem?_eq_getElem hj, ej]
    have hjx : j < xs.length := by omega
    obtain ⟨u, g1, g2, g3, eu, rfl, _, pt⟩ := rl.lens (List.getElem?_eq_getElem hjx)
    have hp : putK (ks.zip vs) kk v2 = ks.zip (vs.set j v2) := by
      unfold putK
      rw [any_zip hlv, inK_iff.mpr hk, if_pos rfl]
      exact putK_old hlv hnd ej'
    refine ⟨a, _, rfl, .inl ⟨_, kk, hH, e1, hz, rfl⟩, ?_⟩
    rw [hp]
    have nI := List.nodup_append.mp ni
    have nJ := List.nodup_append.mp nI.2.1
    refine k _ _ _ .non .non [] (wr_dict (fi' := g1 ++ (f2 ++ g3)) rfl (by rw [List.length_set]; exact hl) (pt Sub.refl (fun b hb o e => ?_) (r2.other naf)) rep_non ?_ ?_ fun b hb => ?_) (qo j ej')
    · rw [upd_ne]
      · exact e
      · rintro rfl
        exact na (by rcases List.mem_append.mp hb with y | y <;> simp [y])
    · rw [List.append_nil]
      refine List.nodup_append.mpr ⟨nI.1, List.nodup_append.mpr ⟨nn, nJ.2.1, fun x hx y hy e => ?_⟩, fun x hx y hy e => ?_⟩
      · subst e; exact dj x hx (by simp [hy])
      · subst e
        rcases List.mem_append.mp hy with hy | hy
        · exact dj x hy (by simp [hx])
        · exact nI.2.2 x hx x (List.mem_append_right _ hy) rfl
    · rw [List.append_nil]
      intro z
      rcases List.mem_append.mp z with y | y
      · exact na (by simp [y])
      · rcases List.mem_append.mp y with y | y
        · exact naf y
        · exact na (by simp [y])
    · rw [List.append_nil] at hb
      rcases List.mem_append.mp hb with y | y
      · exact .inl (by simp [y])
      · rcases List.mem_append.mp y with y | y
        · exact .inr y
        · exact .inl (by simp [y])
  · refine ⟨a, _, rfl, .inl ⟨_, kk, hH, e1, hz, rfl⟩, ?_⟩
    rw [putK_new hlv hk]
    refine k _ _ _ .non .non [] (wr_dict (fi' := fi ++ f2) rfl (by simp [hl]) ((rl.other na).app (rep_one (r2.other naf))) rep_non ?_ ?_ fun b hb => ?_) (qn hk)
    · rw [List.append_nil]
      exact List.nodup_append.mpr ⟨ni, nn, fun x hx y hy e => by subst e; exact dj x hy (by simp [hx])⟩
    · rw [List.append_nil]
      intro z
      rcases List.mem_append.mp z with y | y
      · exact na y
      · exact naf y
    · rw [List.append_nil] at hb
      exact List.mem_append.mp hb
/-- the dict of a tree -/
theorem dict_rd {F H : Hp} {m : Bool} {ks : List Key} {xs : List D} {v : V} {fq : List Addr} (s : Sub F H) (r : Rep K F H (.dK m ks xs) v fq) : ∃ a vs fi, v = .ref a ∧ Rd H a (.dK (ks.zip vs)) ∧ ks.length = xs.length ∧ RepL K F H xs vs fi ∧ (∀ b ∈ fi, b ∈ fq) ∧ (fq.Nodup → fi.Nodup) := by
  rw [Rep] at r
  obtain ⟨a, vs, fi, rfl, hl, rl, ⟨_, h, rfl⟩ | ⟨_, h, rfl, rfl⟩⟩ := r
  · exact ⟨a, vs, fi, rfl, .inl h, hl, rl, fun b hb => List.mem_cons_of_mem _ hb, fun n => (List.nodup_cons.mp n).2⟩
  · exact ⟨a, vs, [], rfl, s.rd h, hl, rl, fun b hb => hb, fun n => n⟩
/-- d[k] -/
def oDIx : O2 := fun a1 d1 _ d2 Q => match d1, keyD d2 with
  | .dK _ ks ds, some k => match atK ks ds k with
    | some d => Q (d.imm || a1) d
    | none => False
  | _, _ => False
/-- k in d -/
def oDIn (neg : Bool) : O2 := fun _ d1 _ d2 Q => match d2, keyD d1 with
  | .dK _ ks _, some k => Q true (.bl (neg != inK ks k))
  | _, _ => False
theorem lf_dix : Lf2 K (fun x y H Q => ∃ a v, x = .ref a ∧ DGet H a y (some v) ∧ Q v H) oDIx := fun F H al1 d1 v1 q1 al2 d2 v2 q2 Q R s o1 o2 dj q k => by
  cases d1 <;> first | exact q.elim | skip
  rename_i m ks xs
  simp only [oDIx] at q
  cases ek : keyD d2 with
  | none => rw [ek] at q; exact q.elim
  | some kk =>
  rw [ek] at q
  simp only at q
  cases e : atK ks xs kk with
  | none => rw [e] at q; exact q.elim
  | some d =>
  rw [e] at q
  simp only at q
  obtain ⟨a, vs, fi, rfl, h1, hl, rl, m1, n1⟩ := dict_rd s o1.rep
  obtain ⟨e1, rfl⟩ := keyD_rep o2.rep ek
  unfold atK at e
  cases ej : idxK ks kk with
  | none => rw [ej] at e; cases e
  | some j =>
  rw [ej] at e
  have e : xs[j]? = some d := e
  obtain ⟨v, f1, f2, f3, ev, ef, r⟩ := rl.at e
  refine ⟨a, v, rfl, .inl ⟨_, kk, h1, e1, ?_⟩, k F H _ d v f2 ((item_ans s o1 ef m1 n1 r).src fun x hx => hx.imp_right False.elim) q⟩
  rw [valV_zip (hl.trans rl.len), ej]
  exact ev.symm
theorem lf_din (neg : Bool) : Lf2 K (fun y x H Q => ∃ a o, x = .ref a ∧ DGet H a y o ∧ Q (.bl (neg != o.isSome)) H) (oDIn neg) := fun F H al1 d1 v1 q1 al2 d2 v2 q2 Q R s o1 o2 dj q k => by
  cases d2 <;> first | exact q.elim | skip
  rename_i m ks xs
  simp only [oDIn] at q
  cases ek : keyD d1 with
  | none => rw [ek] at q; exact q.elim
  | some kk =>
  rw [ek] at q
  simp only at q
  obtain ⟨a, vs, fi, rfl, h1, hl, rl, m1, n1⟩ := dict_rd s o2.rep
  obtain ⟨e1, rfl⟩ := keyD_rep o1.rep ek
  refine ⟨a, _, rfl, .inl ⟨_, kk, h1, e1, rfl⟩, ?_⟩
  have : (valV (ks.zip vs) kk).isSome = inK ks kk := by rw [← valV_any, any_zip (hl.trans rl.len)]
  rw [this]
  exact k F H true _ _ [] (Ans.bl s) q
/-- {} -/
def TDNew : VT := fun S Q => Q S true (.dK true [] [])
theorem snd_dnew : Snd K true tDNewK TDNew := fun F H σ S fp Q R g q k p hp => by
  have gr : Grow F H F (upd H p (.dK [])) := Grow.owned g.sub hp
  refine k F _ S fp true _ _ [p] ⟨g.grow gr, ?_, gr.step (fp := fp), fun _ => ⟨by simp, fun a ha => ?_⟩, fun _ => ⟨rfl, rfl, gr⟩⟩ q
  · rw [Rep]; exact ⟨p, [], [], rfl, rfl, by rw [RepL]; exact ⟨rfl, rfl⟩, .inl ⟨rfl, upd_same, rfl⟩⟩
  · have e : a = p := by simpa using ha
    subst e
    refine ⟨g.sub.none hp, fun z => ?_, .inr hp⟩
    obtain ⟨o, e, _⟩ := g.rep.mu a z
    rw [hp] at e; cases e
end
section
variable {X : Cx} {K : PySem.W.Frag} {a b c e : Expr} {pos P0 P1 pos1 : Pos} {p p1 p2 : Bool} {Ta Tb : VT} {ta tb : TE}
theorem ve_dnew : VE X K true (.Dict [] [] pos) tDNewK TDNew := ⟨pe_dnewK, snd_dnew⟩
theorem ve_dix (hu : X.A.units + 1 < cLine) (ha : VE X K p1 a ta Ta) (hb : VE X K p2 b tb Tb) (hs : NoSl b := by intro _ _ _ _; intro h; cases h) : VE X K (p1 && p2) (.Subscript a b pos) (tDGet ta tb) (T2 p2 Ta Tb oDIx) := ⟨pe_dget hu ha.pe hb.pe hs, Snd.op2 ha.snd hb.snd lf_dix⟩
theorem bne_f {b : Bool} : (false != b) = b := by cases b <;> rfl
theorem bne_t {b : Bool} : (true != b) = !b := by cases b <;> rfl
theorem lf_din0 : Lf2 K (fun y x H Q => ∃ a o, x = .ref a ∧ DGet H a y o ∧ Q (.bl o.isSome) H) (oDIn false) := fun F H al1 d1 v1 q1 al2 d2 v2 q2 Q R s o1 o2 dj q k => by
  obtain ⟨a, o, h1, h2, h3⟩ := lf_din false F H al1 d1 v1 q1 al2 d2 v2 q2 Q R s o1 o2 dj q k
  exact ⟨a, o, h1, h2, by rw [bne_f] at h3; exact h3⟩
theorem lf_din1 : Lf2 K (fun y x H Q => ∃ a o, x = .ref a ∧ DGet H a y o ∧ Q (.bl (!o.isSome)) H) (oDIn true) := fun F H al1 d1 v1 q1 al2 d2 v2 q2 Q R s o1 o2 dj q k => by
  obtain ⟨a, o, h1, h2, h3⟩ := lf_din true F H al1 d1 v1 q1 al2 d2 v2 q2 Q R s o1 o2 dj q k
  exact ⟨a, o, h1, h2, by rw [bne_t] at h3; exact h3⟩
theorem ve_din (hu : X.A.units + 1 < cLine) (ha : VE X K p1 a ta Ta) (hb : VE X K p2 b tb Tb) (hm : behindInMarks .In b = false := by rfl) : VE X K (p1 && p2) (.Compare a [.In] [b] pos) (tDIn ta tb) (T2 p2 Ta Tb (oDIn false)) := ⟨pe_cmp (pc_din hu ha.pe hb.pe) hm, Snd.op2 ha.snd hb.snd lf_din0⟩
theorem vq_din (hu : X.A.units + 1 < cLine) (ha : VE X K p1 a ta Ta) (hb : VE X K p2 b tb Tb) (hm : behindInMarks .In b = false := by rfl) : VQ X K (p1 && p2) (.Compare a [.In] [b] pos) (tB (tDIn ta tb)) (TQ (T2 p2 Ta Tb (oDIn false))) := ⟨pt_cmp (pc_din hu ha.pe hb.pe) hm, Snd.tst (Snd.op2 ha.snd hb.snd lf_din0)⟩
theorem ve_dnin (hu : X.A.units + 1 < cLine) (ha : VE X K p1 a ta Ta) (hb : VE X K p2 b tb Tb) (hm : behindInMarks .NotIn b = false := by rfl) : VE X K (p1 && p2) (.Compare a [.NotIn] [b] pos) (tDNotIn ta tb) (T2 p2 Ta Tb (oDIn true)) := ⟨pe_cmp (pc_dnotin hu ha.pe hb.pe) hm, Snd.op2 ha.snd hb.snd lf_din1⟩
theorem vq_dnin (hu : X.A.units + 1 < cLine) (ha : VE X K p1 a ta Ta) (hb : VE X K p2 b tb Tb) (hm : behindInMarks .NotIn b = false := by rfl) : VQ X K (p1 && p2) (.Compare a [.NotIn] [b] pos) (tB (tDNotIn ta tb)) (TQ (T2 p2 Ta Tb (oDIn true))) := ⟨pt_cmp (pc_dnotin hu ha.pe hb.pe) hm, Snd.tst (Snd.op2 ha.snd hb.snd lf_din1)⟩
end
end VL

namespace VL
open PySem PySem.Spec PyProof.Rows L2
/-! ### methods that only read -/
def isLst : D → Prop
  | .lst _ _ => True
  | _ => False
def TB1 (p2 : Bool) (Ta Tb : VT) (O : O2) : VT := fun S Q => Ta S fun S1 al1 d1 => isLst d1 ∧ Tb S1 fun S2 al2 d2 => (p2 || al1 || d1.scal) = true ∧ O al1 d1 al2 d2 (Q S2)
section
variable {K : PySem.W.Frag} {ta tb : TE} {Ta Tb : VT} {p1 p2 : Bool}
theorem Snd.b1 {r : V → List V → Hp → VK → Prop} {O : O2} (h1 : Snd K p1 ta Ta) (h2 : Snd K p2 tb Tb) (l : Lf2 K (fun x y => r x [y]) O) : Snd K (p1 && p2) (tBM K "list" r ta (tCons tb tNil)) (TB1 p2 Ta Tb O) := fun F H σ S fp Q R g q k => by
  refine h1 F H σ S fp _ _ g q fun F1 H1 S1 fp1 al1 d1 v1 fq1 r1 q1 => ?_
  obtain ⟨il, q1⟩ := q1
  refine ⟨?_, ?_⟩
  · cases d1 <;> first | exact il.elim | skip
    obtain ⟨a, vs, fi, rfl, h, _⟩ := fz_lst r1.good.sub r1.rep
    exact .inl ⟨rfl, vs, h⟩
  · refine h2 F1 H1 σ S1 fp1 _ _ r1.good q1 fun F2 H2 S2 fp2 al2 d2 v2 fq2 r2 q2 => ?_
    obtain ⟨c, q2⟩ := q2
    obtain ⟨m1, m2, m3⟩ := r1.carry r2 c
    refine l F2 H2 al1 d1 v1 fq1 al2 d2 v2 fq2 _ _ r2.good.sub ⟨m1, fun z => ⟨(m2 z).1, fun a ha => ((m2 z).2 a ha).1⟩⟩ ⟨r2.rep, fun z => ⟨(r2.sep z).1, fun a ha => ((r2.sep z).2 a ha).1⟩⟩ m3 q2 fun F3 H3 al d v fq an q3 => ?_
    have s12 := r1.step.trans r2.step
    refine k F3 H3 S2 fp2 al d v fq ⟨r2.good.grow an.grow, an.rep, s12.trans an.grow.step, fun z => ⟨(an.sep z).1, fun a ha => ⟨((an.sep z).2 a ha).1, ?_⟩⟩, fun z => ?_⟩ q3
    · rcases ((an.sep z).2 a ha).2 with y | ⟨y1, y2⟩ | ⟨y1, y2⟩
      · refine ⟨fun hb => ?_, ?_⟩
        · obtain ⟨o, e, _⟩ := r2.good.rep.mu a hb
          rw [e] at y; cases y
        · by_cases n : a ∈ fp
          · exact .inl n
          · cases e : H a with
            | none => exact .inr rfl
            | some o => rw [s12.keep a o e n] at y; cases y
      · exact ((m2 y1).2 a y2).2
      · obtain ⟨_, z2, z3⟩ := (r2.sep y1).2 a y2
        refine ⟨z2, ?_⟩
        rcases z3 with z3 | z3
        · exact r1.step.own a z3
        · by_cases n : a ∈ fp
          · exact .inl n
          · cases e : H a with
            | none => exact .inr rfl
            | some o => rw [r1.step.keep a o e n] at z3; cases z3
    · obtain ⟨a1, a2, a3⟩ := pureT r1.pure r2.pure z
      exact ⟨a1, a2, a3.trans an.grow⟩
/-- xs.index(i), ints -/
def oIndex : O2 := fun _ d1 _ d2 Q => ∃ (ns : List Int) (i : Int) (j : Nat), (∃ m, d1 = .lst m (ns.map D.int)) ∧ d2 = .int i ∧ ns[j]? = some i ∧ (∀ m, m < j → ns[m]? ≠ some i) ∧ Q true (.int j)
theorem flatI : ∀ {ns : List Int}, (ns.map V.int).all flatV = true
  | [] => rfl
  | n :: ns => by rw [List.map_cons, List.all_cons, flatI]; rfl
theorem lf_index : Lf2 K (fun x y => rIndex K x [y]) oIndex := fun F H al1 d1 v1 q1 al2 d2 v2 q2 Q R s o1 o2 dj q k => by
  obtain ⟨ns, i, j, ⟨m, rfl⟩, rfl, hj, hn, q⟩ := q
  obtain ⟨a, vs, rfl, h1, rl⟩ := seqL_imm s o1.rep immL_ints
  obtain ⟨rfl, _⟩ := rl.ints
  have e := o2.int
  subst e
  refine ⟨a, _, _, j, .int i, rfl, rfl, h1, rfl, flatI, by rw [List.getElem?_map, hj]; rfl, by simp [eqV], fun m z hm hz => ?_, k F H true _ _ [] (Ans.int s) q⟩
  rw [List.getElem?_map] at hz
  cases e : ns[m]? with
  | none => rw [e] at hz; cases hz
  | some u =>
    rw [e] at hz
    cases hz
    have : u ≠ i := fun c => hn m hm (by rw [e, c])
    simp [eqV, this]
/-! ### insert: an int at a place -/
def TM2 (ty : String) (Tp : VTP) (Tb Tc : VT) (O : OM (D × D)) : VT := fun S Q => Tp S fun S1 i ps => isTy ty (atP S1 i ps) ∧ ps.isEmpty = true ∧ Tb S1 fun S2 _ d1 => d1.scal = true ∧ Tc S2 fun S3 _ d2 => d2.scal = true ∧ match atP S3 i ps with
  | some c => O c (d1, d2) fun c' r => Q (putP S3 i ps c') true r
  | none => False
theorem Rep.scal0 {F H : Hp} {d : D} {v : V} {fp : List Addr} (r : Rep K F H d v fp) (h : d.scal = true) : fp = [] ∧ ∀ F' H', Rep K F' H' d v [] := by
  cases d <;> first | (cases h; done) | skip
  all_goals (rw [Rep] at r; obtain ⟨rfl, rfl⟩ := r; exact ⟨rfl, fun _ _ => by rw [Rep]; exact ⟨rfl, rfl⟩⟩)
theorem Snd.m2 {ty : String} {tc : TE} {Tc : VT} {p3 : Bool} {tp : TE} {Tp : VTP} {r : V → List V → Hp → VK → Prop} {O : OM (D × D)} (l : LfM2 K (fun o x y H Q => r o [x, y] H Q) O) (ow : Own2 O) (ha : SndP K p1 tp Tp) (hb : Snd K p2 tb Tb) (hc : Snd K p3 tc Tc) : Snd K false (tBM K ty r tp (tCons tb (tCons tc tNil))) (TM2 ty Tp Tb Tc O) := fun F H σ S fp Q R g q k => by
  refine ha F H σ S fp _ _ g q fun F1 H1 S1 fp1 i ps u g1 st1 pu1 at1 q1 => ?_
  obtain ⟨ty1, em, q1⟩ := q1
  refine ⟨tyV_at g1 at1 ty1, ?_⟩
  refine hb F1 H1 σ S1 fp1 _ _ g1 q1 fun F2 H2 S2 fp2 al1 d1 v1 k1 r1 q2 => ?_
  obtain ⟨sc1, q2⟩ := q2
  refine hc F2 H2 σ S2 fp2 _ _ r1.good q2 fun F3 H3 S3 fp3 al2 d2 v2 k2 r2 q3 => ?_
  obtain ⟨sc2, q3⟩ := q3
  have at2 := at1.carry (p2 := false) (S2 := S2) (fp2 := fp2) (F2 := F2) (H2 := H2) (by rw [em]; rfl) fun z => nomatch z
  have at3 := at2.carry (p2 := false) (S2 := S3) (fp2 := fp3) (F2 := F3) (H2 := H3) (by rw [em]; rfl) fun z => nomatch z
  have st2 := (st1.trans r1.step).trans r2.step
  cases ea : atP S3 i ps with
  | none => rw [ea] at q3; exact q3.elim
  | some cc =>
  rw [ea] at q3
  simp only at q3
  obtain ⟨f1, f2, f3, ef, rc, pt⟩ := r2.good.at at3 ea
  obtain ⟨aa, rfl, haf⟩ := own_at rc (ow _ _ _ q3)
  have nf2 : f2.Nodup := by
    have := r2.good.nd
    rw [ef] at this
    exact (List.nodup_append.mp (List.nodup_append.mp this).2.1).1
  refine l F3 H3 aa cc d1 d2 v1 v2 f2 [] [] _ R r2.good.sub rc haf nf2 ((r1.rep.scal0 sc1).2 F3 H3) ((r2.rep.scal0 sc2).2 F3 H3) List.nodup_nil (fun x hx => absurd hx (by simp)) q3 fun H4 c' fc' dd vv fr w q4 => ?_
  obtain ⟨g3, st3, n3, s3⟩ := wr_good (fa := []) r2.good ef haf (fun x hx => absurd hx (by simp)) w pt
  have back : ∀ x ∈ fp3, x ∈ fp ∨ H x = none := fun x hx => st2.own x hx
  refine k F3 H4 _ _ true dd vv fr ⟨g3, w.rd, ⟨st2.fsub.trans st3.fsub, fun x o e hn => ?_, fun x hh => ?_, fun x hx => ?_⟩, fun _ => ⟨n3, fun x hx => ⟨(s3 x hx).1, (s3 x hx).2.1, back x (by simpa using (s3 x hx).2.2)⟩⟩, (fun z => nomatch z)⟩ q4
  · refine st3.keep x o (st2.keep x o e hn) fun y => ?_
    rcases back x (by simpa using y) with w | w
    · exact hn w
    · rw [e] at w; cases w
  · rcases st3.fnew x hh with y | y | y
    · exact st2.fnew x y
    · exact .inr (back x (by simpa using y))
    · exact .inr (st2.back (.inr y))
  · rcases st3.own x hx with y | y
    · exact back x (by simpa using y)
    · exact st2.back (.inr y)
/-- xs.insert(i, d), 0 ≤ i -/
def oInsert : OM (D × D) := fun c kd Q => match c, kd.1 with
  | .lst true xs, .int i => xs.length < sizeLine ∧ (0 ≤ i ∧ i < 2 ^ 63) ∧ Q (.lst true (xs.take i.toNat ++ [kd.2] ++ xs.drop i.toNat)) .non
  | _, _ => False
theorem own_oInsert : Own2 oInsert := fun c kd Q h => by
  cases c <;> first | exact h.elim | skip
  rename_i m xs
  cases m <;> first | exact h.elim | trivial
def rInsert : V → List V → Hp → VK → Prop := fun x vs H Q => ∃ (l : Addr) (xs : List V) (i : Int) (y : V), x = .ref l ∧ vs = [.int i, y] ∧ H l = some (.lst xs) ∧ xs.length < sizeLine ∧ 0 ≤ i ∧ i < 2 ^ 63 ∧
    Q .non (upd H l (.lst (xs.take i.toNat ++ [y] ++ xs.drop i.toNat)))
theorem lf_insert : LfM2 K (fun o x y H Q => rInsert o [x, y] H Q) oInsert := fun F H a c d1 d2 v1 v2 fc f1 f2 Q R s rc ha nd r1 r2 nn dj q k => by
  cases c <;> first | exact q.elim | skip
  rename_i m xs
  cases m with
  | false => exact q.elim
  | true =>
  cases d1 <;> first | exact q.elim | skip
  rename_i z
  obtain ⟨hsz, ⟨z0, z1⟩, q⟩ := q
  obtain ⟨vs, fi, hH, rl, rfl⟩ := own_list rc
  obtain ⟨na, ni⟩ := List.nodup_cons.mp nd
  have hz := r1
  rw [Rep] at hz
  obtain ⟨e1, rfl⟩ := hz
  simp only [List.nil_append] at nn dj k
  have naf : a ∉ f2 := fun z => dj a z (by simp)
  refine ⟨a, vs, z, v2, rfl, by rw [e1], hH, by rw [← rl.len]; exact hsz, z0, z1, ?_⟩
  obtain ⟨g1, g2, rfl, t1, t2⟩ := (rl.other (o := .lst (vs.take z.toNat ++ [v2] ++ vs.drop z.toNat)) na).take z.toNat
  have nI := List.nodup_append.mp ni
  refine k _ _ _ .non .non [] (wr_list (fi' := g1 ++ f2 ++ g2) (vs := vs) (xs := xs) rfl ((t1.app (rep_one (r2.other naf))).app t2) rep_non ?_ ?_ fun b hb => ?_) q
  · rw [List.append_nil]
    refine List.nodup_append.mpr ⟨List.nodup_append.mpr ⟨nI.1, nn, fun x hx y hy e => ?_⟩, nI.2.1, fun x hx y hy e => ?_⟩
    · subst e; exact dj x hy (by simp [hx])
    · subst e
      rcases List.mem_append.mp hx with hx | hx
      · exact nI.2.2 x hx x hy rfl
      · exact dj x hx (by simp [hy])
  · rw [List.append_nil]
    intro z
    rcases List.mem_append.mp z with y | y
    · rcases List.mem_append.mp y with y | y
      · exact na (by simp [y])
      · exact naf y
    · exact na (by simp [y])
  · rw [List.append_nil] at hb
    rcases List.mem_append.mp hb with y | y
    · rcases List.mem_append.mp y with y | y
      · exact .inl (by simp [y])
      · exact .inr y
    · exact .inl (by simp [y])
/-- xs.pop(i), 0 ≤ i -/
def oPopAt : OM D := fun c d Q => match c, d with
  | .lst true xs, .int i => (0 ≤ i ∧ i < 2 ^ 62) ∧ match xs[i.toNat]? with
    | some y => y.imm = true ∧ Q (.lst true (xs.eraseIdx i.toNat)) y
    | none => False
  | _, _ => False
theorem own_oPopAt : Own1 oPopAt := fun c kd Q h => by
  cases c <;> first | exact h.elim | skip
  rename_i m xs
  cases m <;> first | exact h.elim | trivial
theorem RepL.erase {F H : Hp} : ∀ {xs : List D} {vs : List V} {fp : List Addr} (j : Nat) {y : D}, RepL K F H xs vs fp → xs[j]? = some y → y.imm = true → RepL K F H (xs.eraseIdx j) (vs.eraseIdx j) fp ∧ ∃ v, vs[j]? = some v ∧ Rep K F H y v []
  | [], _, _, j, _, _, e, _ => by simp at e
  | x :: xs, _, _, 0, y, r, e, i => by
    have e : x = y := by simpa using e
    subst e
    rw [RepL] at r
    obtain ⟨v, vs', f1, f2, rfl, rfl, r1, r2⟩ := r
    have := r1.ofImm i
    subst this
    exact ⟨r2, v, rfl, r1⟩
  | x :: xs, _, _, j + 1, y, r, e, i => by
    have e : xs[j]? = some y := by simpa using e
    rw [RepL] at r
    obtain ⟨v, vs', f1, f2, rfl, rfl, r1, r2⟩ := r
    obtain ⟨h1, u, h2, h3⟩ := RepL.erase j r2 e i
    refine ⟨?_, u, h2, h3⟩
    rw [List.eraseIdx_cons_succ, List.eraseIdx_cons_succ, RepL]
    exact ⟨v, _, f1, f2, rfl, rfl, r1, h1⟩
theorem seqIx {i : Int} {n : Nat} (h0 : 0 ≤ i) (h1 : i.toNat < n) : seqIndex? i n = some i.toNat := by
  unfold seqIndex?
  simp only [if_neg (show ¬ i < 0 by omega)]
  rw [if_pos]
  simp only [Bool.and_eq_true, decide_eq_true_eq]
  omega
theorem lf_popAt : LfM1 K (fun x y => rPopAt x [y]) oPopAt := fun F H a c d1 v1 fc fa Q R s rc ha nd r1 n1 dj q k => by
  cases c <;> first | exact q.elim | skip
  rename_i m xs
  cases m with
  | false => exact q.elim
  | true =>
  cases d1 <;> first | exact q.elim | skip
  rename_i z
  obtain ⟨⟨z0, z1⟩, q⟩ := q
  cases e : xs[z.toNat]? with
  | none => rw [e] at q; exact q.elim
  | some y =>
  rw [e] at q
  obtain ⟨im, q⟩ := q
  obtain ⟨vs, fi, hH, rl, rfl⟩ := own_list rc
  obtain ⟨na, ni⟩ := List.nodup_cons.mp nd
  have hz := r1
  rw [Rep] at hz
  obtain ⟨e1, rfl⟩ := hz
  obtain ⟨h1, u, h2, h3⟩ := (rl.other (o := .lst (vs.eraseIdx z.toNat)) na).erase z.toNat e im
  obtain ⟨hj, _⟩ := List.getElem?_eq_some_iff.mp h2
  refine ⟨a, vs, z, z.toNat, u, rfl, by rw [e1], hH, by omega, by omega, seqIx z0 hj, h2, ?_⟩
  refine k _ _ _ y u [] (wr_list (fi' := fi) (vs := vs) (xs := xs) rfl h1 h3 ?_ ?_ fun b hb => ?_) q
  · rw [List.append_nil]; exact ni
  · rw [List.append_nil]; exact na
  · rw [List.append_nil] at hb; exact .inl hb
end
section
variable {X : Cx} {K : PySem.W.Frag} {a b c e : Expr} {pos apos : Pos} {p p1 p2 p3 : Bool} {Ta Tb Tc : VT} {ta tb tc : TE} {Tp : VTP}
theorem ve_index (hK : X.K = K) (ha : VE X K p1 a ta Ta) (hb : VE X K p2 b tb Tb) (hbase : attributeBase a "index" X.env (eval a X.env) = eval a X.env := by rfl)
    (hfew : ((backTo pos (starEach [b] X.env)).all (fun x => !x.1) && (backToKw pos (keywordEach [] X.env)).all (fun x => x.1.isSome) && decide ([b].length + ([] : List Keyword).length + (if ([] : List Keyword).isEmpty then 0 else 1) < 30)) = true := by rfl)
    (hline : (apos.endLine == pos.line) = true := by rfl) (hs : starEach [b] X.env = [(false, eval b X.env)] := by rfl) : VE X K (p1 && p2) (.Call (.Attribute a "index" apos) [b] [] pos) (tBM K "list" (rIndex K) ta (tCons tb tNil)) (TB1 p2 Ta Tb oIndex) := by
  subst hK
  exact ⟨pe_bm PySem.F.plainAttrs_list PySem.F.slot_list_index PySem.F.type_list_index mt_index ha.pe (pa_cons hb.pe pa_nil hs) hbase hfew hline hs rfl, Snd.b1 ha.snd hb.snd lf_index⟩
theorem ve_insert (hK : X.K = K) (ha : VP X K p1 a ta Tp) (hb : VE X K p2 b tb Tb) (hc : VE X K p3 c tc Tc) (hbase : attributeBase a "insert" X.env (eval a X.env) = eval a X.env := by rfl)
    (hfew : ((backTo pos (starEach [b, c] X.env)).all (fun x => !x.1) && (backToKw pos (keywordEach [] X.env)).all (fun x => x.1.isSome) && decide ([b, c].length + ([] : List Keyword).length + (if ([] : List Keyword).isEmpty then 0 else 1) < 30)) = true := by rfl)
    (hline : (apos.endLine == pos.line) = true := by rfl) (hs : starEach [b, c] X.env = (false, eval b X.env) :: starEach [c] X.env := by rfl) (hs2 : starEach [c] X.env = [(false, eval c X.env)] := by rfl) (hpl : (backTo pos (starEach [c] X.env)).any (·.1) = false := by rfl) : VE X K false (.Call (.Attribute a "insert" apos) [b, c] [] pos) (tBM K "list" rInsert ta (tCons tb (tCons tc tNil))) (TM2 "list" Tp Tb Tc oInsert) := by
  subst hK
  exact ⟨pe_bm PySem.F.plainAttrs_list PySem.F.slot_list_insert PySem.F.type_list_insert mt_insert ha.pe (pa_cons hb.pe (pa_cons hc.pe pa_nil hs2) hs) hbase hfew hline hs hpl, Snd.m2 lf_insert own_oInsert ha.snd hb.snd hc.snd⟩
theorem ve_popat (hK : X.K = K) (ha : VP X K p1 a ta Tp) (hb : VE X K p2 b tb Tb) (hbase : attributeBase a "pop" X.env (eval a X.env) = eval a X.env := by rfl)
    (hfew : ((backTo pos (starEach [b] X.env)).all (fun x => !x.1) && (backToKw pos (keywordEach [] X.env)).all (fun x => x.1.isSome) && decide ([b].length + ([] : List Keyword).length + (if ([] : List Keyword).isEmpty then 0 else 1) < 30)) = true := by rfl)
    (hline : (apos.endLine == pos.line) = true := by rfl) (hs : starEach [b] X.env = [(false, eval b X.env)] := by rfl) : VE X K false (.Call (.Attribute a "pop" apos) [b] [] pos) (tBM K "list" rPopAt ta (tCons tb tNil)) (TM1 "list" p2 Tp Tb oPopAt) := by
  subst hK
  exact ⟨pe_bm PySem.F.plainAttrs_list PySem.F.slot_list_pop PySem.F.type_list_pop mt_popAt ha.pe (pa_cons hb.pe pa_nil hs) hbase hfew hline hs rfl, Snd.m1 lf_popAt own_oPopAt ha.snd hb.snd⟩
end
/-! ### readings -/
section
variable {S : SV} {Q : SV → Bool → D → Prop} {QB : Bool → D → Prop} {QD : D → D → Prop} {al al1 al2 neg m p2 : Bool} {d d1 d2 : D} {xs ds : List D} {ks : List Key} {i : Int} {x : Str} {Ta Tb Tc : VT} {Tp : VTP} {O : O2} {OO : OM (D × D)} {ty : String}
theorem x_TB1 : TB1 p2 Ta Tb O S Q = Ta S fun S1 al1 d1 => isLst d1 ∧ Tb S1 fun S2 al2 d2 => (p2 || al1 || d1.scal) = true ∧ O al1 d1 al2 d2 (Q S2) := rfl
theorem x_TM2 : TM2 ty Tp Tb Tc OO S Q = Tp S fun S1 i ps => isTy ty (atP S1 i ps) ∧ ps.isEmpty = true ∧ Tb S1 fun S2 _ d1 => d1.scal = true ∧ Tc S2 fun S3 _ d2 => d2.scal = true ∧ (match atP S3 i ps with | some c => OO c (d1, d2) fun c' r => K3 Q ⟨⟩ (putP S3 i ps c') true r | none => False) := rfl
theorem x_TDNew : TDNew S Q = Q S true (.dK true [] []) := rfl
theorem isLst_l : isLst (.lst m xs) = True := rfl
theorem z_sum : oSum al d QB = CO oSum al d QB ⟨⟩ := rfl
theorem z_all : oAll al d QB = CO oAll al d QB ⟨⟩ := rfl
theorem z_any : oAny al d QB = CO oAny al d QB ⟨⟩ := rfl
theorem z_max1 : oMax1 al d QB = CO oMax1 al d QB ⟨⟩ := rfl
theorem z_min1 : oMin1 al d QB = CO oMin1 al d QB ⟨⟩ := rfl
theorem z_sorted : oSorted al d QB = CO oSorted al d QB ⟨⟩ := rfl
theorem z_in : oIn neg al1 d1 al2 d2 QB = CO2 (oIn neg) al1 d1 al2 d2 QB ⟨⟩ := rfl
theorem z_index : oIndex al1 d1 al2 d2 QB = CO2 oIndex al1 d1 al2 d2 QB ⟨⟩ := rfl
theorem y_int1i : oInt1 al (.int i) QB = QB true (.int i) := rfl
theorem y_int1b : oInt1 al (.bl m) QB = K2 QB ⟨⟩ true (.int (if m then 1 else 0)) := rfl
theorem y_listL : oListOf al (.lst m xs) QB = (immL xs = true ∧ QB true (.lst true xs)) := rfl
theorem y_listT : oListOf al (.tup xs) QB = (immL xs = true ∧ QB true (.lst true xs)) := rfl
theorem y_tupL : oTupOf al (.lst m xs) QB = (immL xs = true ∧ QB true (.tup xs)) := rfl
theorem y_tupT : oTupOf al (.tup xs) QB = (immL xs = true ∧ QB true (.tup xs)) := rfl
theorem y_lrg : oLRg al (.int i) QB = (i ≤ 2 ^ 24 ∧ -(2 ^ 62) ≤ i ∧ QB true (.lst true (rng 0 i.toNat))) := rfl
theorem y_trg : oTRg al (.int i) QB = (i ≤ 2 ^ 24 ∧ -(2 ^ 62) ≤ i ∧ QB true (.tup (rng 0 i.toNat))) := rfl
theorem y_dixI : oDIx al1 (.dK m ks ds) al2 (.int i) QB = (match atK ks ds (.inl i) with | some d => K2 QB ⟨⟩ (d.imm || al1) d | none => False) := rfl
theorem y_dixS : oDIx al1 (.dK m ks ds) al2 (.str x) QB = (match atK ks ds (.inr x) with | some d => K2 QB ⟨⟩ (d.imm || al1) d | none => False) := rfl
theorem y_dinI : oDIn neg al1 (.int i) al2 (.dK m ks ds) QB = K2 QB ⟨⟩ true (.bl (neg != inK ks (.inl i))) := rfl
theorem y_dinS : oDIn neg al1 (.str x) al2 (.dK m ks ds) QB = K2 QB ⟨⟩ true (.bl (neg != inK ks (.inr x))) := rfl
def COD (c : D) (kd : D × D) (Q : D → D → Prop) (_ : Mk Q) : Prop := oDSet c kd Q
theorem z_dset {kd : D × D} {c : D} : oDSet c kd QD = COD c kd QD ⟨⟩ := rfl
theorem y_ins {kd : D} : oInsert (.lst true xs) (.int i, kd) QD = (xs.length < sizeLine ∧ (0 ≤ i ∧ i < 2 ^ 63) ∧ K2 QD ⟨⟩ (.lst true (xs.take i.toNat ++ [kd] ++ xs.drop i.toNat)) .non) := rfl
theorem y_popat : oPopAt (.lst true xs) (.int i) QD = ((0 ≤ i ∧ i < 2 ^ 62) ∧ (match xs[i.toNat]? with | some y => y.imm = true ∧ K2 QD ⟨⟩ (.lst true (xs.eraseIdx i.toNat)) y | none => False)) := rfl
theorem scal_dK : D.scal (.dK m ks ds) = false := rfl
theorem imm_dK : D.imm (.dK m ks ds) = !m := by rw [D.imm]
theorem fz_dK : fz (.dK m ks ds) = .dK false ks (fzL ds) := by rw [fz]
theorem nofz_dK : D.nofz (.dK m ks ds) = (m && nofzL ds) := by rw [D.nofz]
theorem isTy_l : isTy "list" (some (.lst true xs)) = True := eq_true rfl
theorem isTy_d : isTy "dict" (some (.dK true ks ds)) = True := eq_true rfl
theorem y_isNd : oIsN neg al (.dK m ks ds) QB = K2 QB ⟨⟩ true (.bl (neg != false)) := rfl
theorem ty_dK : D.ty (.dK m ks ds) = some .dict := rfl
end
/-- a def whose promise is never asked -/
theorem fn_never {P : Program} {w : World} {K : PySem.W.Frag} {mg : Str → Option Value} {base : Heap} {k : Nat} {f : Addr} {fd : FuncData} {ps : List Str} : FnOk P w K mg base CX0 k f fd ps (spC K ps.length fun _ _ => False) :=
  ⟨fun vs H Q E h => h.1, fun A outer s H args us vs Q E hr he hb hv hs => by
    obtain ⟨_, F, ds, fp, Qv, _, _, _, _, hC, _⟩ := hs
    exact hC.elim⟩
theorem fzL_prs {l : List (Int × Int)} : fzL (l.map p2D) = l.map p2D := fzL_map fun p _ => by unfold p2D; rw [fz_tup, fzL_cons, fzL_cons, fzL_nil, fz_int, fz_int]
theorem plnL_prs {k : Nat} {l : List (Int × Int)} : plnL (k + 1) (l.map p2D) = true := plnL_all fun d h => by
  obtain ⟨p, _, rfl⟩ := List.mem_map.mp h
  rfl
theorem prs_at {l : List (Int × Int)} {k : Nat} {x : D} (h : (l.map p2D)[k]? = some x) : ∃ p, p ∈ l ∧ l[k]? = some p ∧ x = .tup [.int p.1, .int p.2] := by
  rw [List.getElem?_map] at h
  cases e : l[k]? with
  | none => rw [e] at h; cases h
  | some j =>
    rw [e] at h
    cases h
    exact ⟨j, List.mem_of_getElem? e, rfl, rfl⟩
/-- one more of a row of ints, or of pairs -/
theorem ints_snocD {l : List Int} {i : Int} : l.map D.int ++ [.int i] = (l ++ [i]).map D.int := by rw [List.map_append]; rfl
theorem prs_snocD {l : List (Int × Int)} {a b : Int} : l.map p2D ++ [.tup [.int a, .int b]] = (l ++ [(a, b)]).map p2D := by rw [List.map_append]; rfl
theorem if_min {a b : Int} : (if b < a then b else a) = min a b := by rw [Int.min_def]; split <;> split <;> omega
theorem if_max {a b : Int} : (if b > a then b else a) = max a b := by rw [Int.max_def]; split <;> split <;> omega
theorem ins_ints {l : List Int} {j : Nat} {i : Int} : (l.map D.int).take j ++ [.int i] ++ (l.map D.int).drop j = (l.take j ++ [i] ++ l.drop j).map D.int := by
  rw [List.map_append, List.map_append, List.map_take, List.map_drop]; rfl
theorem erase_map {α β : Type} {f : α → β} : ∀ {l : List α} {j : Nat}, (l.map f).eraseIdx j = (l.eraseIdx j).map f
  | [], _ => rfl
  | a :: l, 0 => rfl
  | a :: l, j + 1 => by rw [List.map_cons, List.eraseIdx_cons_succ, List.eraseIdx_cons_succ, List.map_cons, erase_map]
theorem erase_sub {α : Type} : ∀ {l : List α} {j : Nat} {x : α}, x ∈ l.eraseIdx j → x ∈ l
  | a :: l, 0, x, h => List.mem_cons_of_mem _ h
  | a :: l, j + 1, x, h => by
    rw [List.eraseIdx_cons_succ] at h
    rcases List.mem_cons.mp h with rfl | h
    · exact List.mem_cons_self ..
    · exact List.mem_cons_of_mem _ (erase_sub h)
theorem x_TPIx {p2 : Bool} {T : VTP} {Ti : VT} {S : SV} {QP : SV → Nat → List Sp1 → Prop} : TPIx p2 T Ti S QP = T S fun S1 i ps => Ti S1 fun S2 _ k => (ps.isEmpty || p2) = true ∧ (match atP S2 i ps, k with
  | some (.lst true xs), .int z => (match ixN xs.length z with
    | some j => QP S2 i (ps ++ [.ix j])
    | none => False)
  | some (.tup xs), .int z => match ixN xs.length z with
    | some j => QP S2 i (ps ++ [.ix j])
    | none => False
  | _, _ => False) := rfl
theorem ixN_nn {n : Nat} {i : Int} (h0 : 0 ≤ i) (h1 : i < n) : ixN n i = some i.toNat := by unfold ixN; rw [if_pos h0, if_pos h1]
/-- rows of rows of ints -/
def nearG (b : Bool) (n : Nat) (g : Nat → List Int) : List D := (List.range n).map fun p => .lst b ((g p).map D.int)
theorem nearG_len {b : Bool} {n : Nat} {g : Nat → List Int} : (nearG b n g).length = n := by simp [nearG]
theorem nearG_at {b : Bool} {n : Nat} {g : Nat → List Int} {p : Nat} (h : p < n) : (nearG b n g)[p]? = some (.lst b ((g p).map D.int)) := by
  unfold nearG
  rw [List.getElem?_map, List.getElem?_range h]
  rfl
theorem nearG_set {b : Bool} {n : Nat} {g : Nat → List Int} {a : Nat} {l : List Int} : (nearG b n g).set a (.lst b (l.map D.int)) = nearG b n (fun p => if p = a then l else g p) := by
  apply List.ext_getElem?
  intro j
  by_cases hj : j < n
  · rw [nearG_at hj]
    by_cases e : a = j
    · subst e
      rw [List.getElem?_set_self (by rw [nearG_len]; exact hj), if_pos rfl]
    · rw [List.getElem?_set_ne e, nearG_at hj, if_neg fun z => e z.symm]
  · rw [List.getElem?_eq_none (by rw [List.length_set, nearG_len]; omega), List.getElem?_eq_none (by rw [nearG_len]; omega)]
theorem nearG_fz {b : Bool} {n : Nat} {g : Nat → List Int} : fzL (nearG b n g) = nearG false n g := by
  unfold nearG
  generalize List.range n = l
  induction l with
  | nil => rfl
  | cons a l ih => rw [List.map_cons, List.map_cons, fzL_cons, ih, fz_lst', fzL_ints]
theorem nearG_congr {b : Bool} {n : Nat} {g h : Nat → List Int} (e : ∀ p, p < n → g p = h p) : nearG b n g = nearG b n h := by
  unfold nearG
  exact List.map_congr_left fun p hp => by rw [e p (List.mem_range.mp hp)]
end VL

namespace VL
open PySem PySem.Spec PyProof.Rows L2
/-! ### more that is walked over: reversed, zip, enumerate -/
section
variable {K : PySem.W.Frag} {F H : Hp}
theorem itok_revL {a : Addr} {vs : List V} {ds : List D} (h : SqL K F a vs) (r : RepL K F H ds vs []) : ItOk K (Itv K a vs.length) F ds.reverse := fun F' H' s1 s2 => by
  have hs : SqL K H' a vs := (s1.trans s2).seqL h
  have hl := r.len
  refine ⟨fun i d e => ?_, fun i hi => show vs.length ≤ i by rw [List.length_reverse] at hi; omega⟩
  obtain ⟨hi, _⟩ := List.getElem?_eq_some_iff.mp e
  rw [List.length_reverse] at hi
  rw [List.getElem?_reverse hi, hl] at e
  obtain ⟨v, ev, rv⟩ := r.at0 e
  refine ⟨⟨by omega, vs, v, hs, ev⟩, fun x H'' y => ?_⟩
  obtain ⟨rfl, y⟩ := y
  have := y vs hs
  rw [ev] at this
  cases this
  exact ⟨F', Grow.refl s2, rv.mono s1 fun b hb => absurd hb (by simp)⟩
theorem itok_revT {a : Addr} {vs : List V} {ds : List D} (h : SqT K F a vs) (r : RepL K F H ds vs []) : ItOk K (RT.ItvT K a vs.length) F ds.reverse := fun F' H' s1 s2 => by
  have hs : SqT K H' a vs := (s1.trans s2).seqT h
  have hl := r.len
  refine ⟨fun i d e => ?_, fun i hi => show vs.length ≤ i by rw [List.length_reverse] at hi; omega⟩
  obtain ⟨hi, _⟩ := List.getElem?_eq_some_iff.mp e
  rw [List.length_reverse] at hi
  rw [List.getElem?_reverse hi, hl] at e
  obtain ⟨v, ev, rv⟩ := r.at0 e
  refine ⟨⟨by omega, vs, v, hs, ev⟩, fun x H'' y => ?_⟩
  obtain ⟨rfl, y⟩ := y
  have := y vs hs
  rw [ev] at this
  cases this
  exact ⟨F', Grow.refl s2, rv.mono s1 fun b hb => absurd hb (by simp)⟩
/-- the pairs that zip gives -/
def zipD (xs ys : List D) : List D := (xs.zip ys).map fun p => .tup [p.1, p.2]
/-- the pairs that enumerate gives -/
def enumD (xs : List D) : List D := (xs.zipIdx).map fun p => .tup [.int (p.2 : Nat), p.1]
theorem zipD_at {xs ys : List D} {i : Nat} {d : D} (h : (zipD xs ys)[i]? = some d) : ∃ x y, xs[i]? = some x ∧ ys[i]? = some y ∧ d = .tup [x, y] := by
  unfold zipD at h
  rw [List.getElem?_map] at h
  cases e : (xs.zip ys)[i]? with
  | none => rw [e] at h; cases h
  | some p =>
    rw [e] at h
    cases h
    obtain ⟨h1, h2⟩ := List.getElem?_zip_eq_some.mp e
    exact ⟨p.1, p.2, h1, h2, rfl⟩
theorem enumD_at {xs : List D} {i : Nat} {d : D} (h : (enumD xs)[i]? = some d) : ∃ x, xs[i]? = some x ∧ d = .tup [.int (i : Nat), x] := by
  unfold enumD at h
  rw [List.getElem?_map, List.getElem?_zipIdx] at h
  cases e : xs[i]? with
  | none => rw [e] at h; cases h
  | some x =>
    rw [e] at h
    cases h
    exact ⟨x, rfl, by simp⟩
end
def TIRev (T : VT) : VTI := fun S Q => T S fun S1 al d => al = true ∧ match d with
  | .lst _ xs => Q S1 (fzL xs).reverse
  | .tup xs => Q S1 (fzL xs).reverse
  | _ => False
def TIEnum (T : VT) : VTI := fun S Q => T S fun S1 al d => al = true ∧ match d with
  | .lst _ xs => Q S1 (enumD (fzL xs))
  | _ => False
/-- both fixed already -/
def TIZip (Ta Tb : VT) : VTI := fun S Q => Ta S fun S1 _ d1 => Tb S1 fun S2 _ d2 => d1.imm = true ∧ d2.imm = true ∧ match d1, d2 with
  | .lst false xs, .lst false ys => Q S2 (zipD xs ys)
  | .tup xs, .tup ys => Q S2 (zipD xs ys)
  | _, _ => False
section
variable {X : Cx} {K : PySem.W.Frag} {p p1 p2 : Bool} {tg e a b : Expr} {te ta tb : TE} {Te Ta Tb : VT} {P0 pos tpos : Pos} {elts : List Expr} {kk : Nat}
theorem vi_rev (hK : X.K = K) (hg : Gl X "reversed") (hm : X.mg "reversed" = none) (h : VE X K p e te Te) (hs : starEach [e] X.env = (false, eval e X.env) :: starEach [] X.env := by rfl) : VI X K p tg (.Call (.Name "reversed" P0) [e] [] pos) (RT.iRevA K te) (TIRev Te) := by
  subst hK
  refine ⟨RT.pi_revA hg hm h.pe hs, fun F H σ S fp Q R g q k => h.snd F H σ S fp _ _ g q fun F1 H1 S1 fp1 al d v fq r q1 => ?_⟩
  obtain ⟨ea, q1⟩ := q1
  subst ea
  obtain ⟨g', st', rf, pu⟩ := r.fix
  cases d <;> first | exact q1.elim | skip
  · rename_i xs
    rw [fz, Rep] at rf
    obtain ⟨a, vs, rfl, hs, rl⟩ := rf
    exact ⟨a, vs, rfl, .inr ⟨g'.sub.seqT hs.sq, k _ H1 S1 fp1 _ _ g' st' pu (itok_revT hs.sq rl) q1⟩⟩
  · rename_i m xs
    rw [fz, Rep] at rf
    obtain ⟨a, vs, fq', rfl, rl, hs | ⟨_, hs, _, rfl⟩⟩ := rf
    · exact nomatch hs.1
    · exact ⟨a, vs, rfl, .inl ⟨g'.sub.seqL hs, k _ H1 S1 fp1 _ _ g' st' pu (itok_revL hs rl) q1⟩⟩
end
section
variable {S : SV} {QI : SV → List D → Prop} {T Ta Tb : VT}
theorem x_TIRev : TIRev T S QI = T S fun S1 al d => al = true ∧ (match d with | .lst _ xs => QI S1 (fzL xs).reverse | .tup xs => QI S1 (fzL xs).reverse | _ => False) := rfl
theorem x_TIEnum : TIEnum T S QI = T S fun S1 al d => al = true ∧ (match d with | .lst _ xs => QI S1 (enumD (fzL xs)) | _ => False) := rfl
theorem x_TIZip : TIZip Ta Tb S QI = Ta S fun S1 _ d1 => Tb S1 fun S2 _ d2 => d1.imm = true ∧ d2.imm = true ∧ (match d1, d2 with | .lst false xs, .lst false ys => QI S2 (zipD xs ys) | .tup xs, .tup ys => QI S2 (zipD xs ys) | _, _ => False) := rfl
end
end VL
namespace VL
open PySem PySem.Spec PyProof.Rows L2
/-! ### extend by a list of one's own -/
def oExtend : OM D := fun c d Q => match c, d with
  | .lst true xs, .lst true ys => xs.length + ys.length ≤ sizeLine ∧ Q (.lst true (xs ++ ys)) .non
  | _, _ => False
theorem own_oExtend : Own1 oExtend := fun c kd Q h => by
  cases c <;> first | exact h.elim | skip
  rename_i m xs
  cases m <;> first | exact h.elim | trivial
section
variable {K : PySem.W.Frag}
theorem lf_extend : LfM1 K (fun x y => rExtend x [y]) oExtend := fun F H a c d1 v1 fc fa Q R s rc ha nd r1 n1 dj q k => by
  cases c <;> first | exact q.elim | skip
  rename_i m xs
  cases m with
  | false => exact q.elim
  | true =>
  cases d1 <;> first | exact q.elim | skip
  rename_i m ys
  cases m with
  | false => exact q.elim
  | true =>
  obtain ⟨hz, q⟩ := q
  obtain ⟨vs, fi, hH, rl, rfl⟩ := own_list rc
  have r1' := r1
  rw [Rep] at r1'
  obtain ⟨b, ws, fj, rfl, rl2, ⟨_, hB, rfl⟩ | ⟨z, _⟩⟩ := r1'
  · obtain ⟨na, ni⟩ := List.nodup_cons.mp nd
    obtain ⟨nb, nj⟩ := List.nodup_cons.mp n1
    have naf : a ∉ fj := fun z => dj a (by simp [z]) (by simp)
    refine ⟨a, b, vs, ws, rfl, rfl, hH, hB, by rw [← rl.len, ← rl2.len]; exact hz, ?_⟩
    refine k _ _ _ .non .non [] (wr_list (fi' := fi ++ fj) (vs := vs) (xs := xs) rfl ((rl.other na).app (rl2.other naf)) rep_non ?_ ?_ fun x hx => ?_) q
    · rw [List.append_nil]
      exact List.nodup_append.mpr ⟨ni, nj, fun x hx y hy e => by subst e; exact dj x (by simp [hy]) (by simp [hx])⟩
    · rw [List.append_nil]
      exact fun z => (List.mem_append.mp z).elim na naf
    · rw [List.append_nil] at hx
      exact (List.mem_append.mp hx).imp id fun y => by simp [y]
  · cases z
end
section
variable {X : Cx} {K : PySem.W.Frag} {a b : Expr} {pos apos : Pos} {p1 p2 : Bool} {Tb : VT} {ta tb : TE} {Tp : VTP} {xs ys : List D} {QD : D → D → Prop}
theorem ve_extend (hK : X.K = K) (ha : VP X K p1 a ta Tp) (hb : VE X K p2 b tb Tb) (hbase : attributeBase a "extend" X.env (eval a X.env) = eval a X.env := by rfl)
    (hfew : ((backTo pos (starEach [b] X.env)).all (fun x => !x.1) && (backToKw pos (keywordEach [] X.env)).all (fun x => x.1.isSome) && decide ([b].length + ([] : List Keyword).length + (if ([] : List Keyword).isEmpty then 0 else 1) < 30)) = true := by rfl)
    (hline : (apos.endLine == pos.line) = true := by rfl) (hs : starEach [b] X.env = [(false, eval b X.env)] := by rfl) : VE X K false (.Call (.Attribute a "extend" apos) [b] [] pos) (tBM K "list" rExtend ta (tCons tb tNil)) (TM1 "list" p2 Tp Tb oExtend) := by
  subst hK
  exact ⟨pe_bm PySem.F.plainAttrs_list PySem.F.slot_list_extend PySem.F.type_list_extend mt_extend ha.pe (pa_cons hb.pe pa_nil hs) hbase hfew hline hs rfl, Snd.m1 lf_extend own_oExtend ha.snd hb.snd⟩
theorem y_ext : oExtend (.lst true xs) (.lst true ys) QD = (xs.length + ys.length ≤ sizeLine ∧ K2 QD ⟨⟩ (.lst true (xs ++ ys)) .non) := rfl
end
end VL
namespace VL
open PySem PySem.Spec PyProof.Rows L2
/-! ### a list as often as a number tells -/
def oRep : O2 := fun _ d1 _ d2 Q => match d1, d2 with
  | .lst true xs, .int k => immL xs = true ∧ (-(2 ^ 63) ≤ k ∧ k < 2 ^ 63) ∧ xs.length * k.toNat ≤ sizeLine ∧ Q true (.lst true (List.replicate k.toNat xs).flatten)
  | _, _ => False
theorem RepL.rep {K : PySem.W.Frag} {F H : Hp} {xs : List D} {vs : List V} (r : RepL K F H xs vs []) : ∀ k : Nat, RepL K F H (List.replicate k xs).flatten (List.replicate k vs).flatten []
  | 0 => by rw [List.replicate_zero, List.replicate_zero, List.flatten_nil, List.flatten_nil, RepL]; exact ⟨rfl, rfl⟩
  | k + 1 => by
    rw [List.replicate_succ, List.replicate_succ, List.flatten_cons, List.flatten_cons]
    exact r.app (RepL.rep r k)
theorem lf_rep {K : PySem.W.Frag} : Lf2 K rRep oRep := fun F H al1 d1 v1 q1 al2 d2 v2 q2 Q R s o1 o2 _ q k => by
  cases d1 <;> first | exact q.elim | skip
  rename_i m xs
  cases m with
  | false => exact q.elim
  | true =>
  cases d2 <;> first | exact q.elim | skip
  rename_i j
  obtain ⟨im, ⟨h1, h2⟩, hz, q⟩ := q
  have r := o1.rep
  rw [Rep] at r
  obtain ⟨a, vs, fi, rfl, rl, ⟨_, hH, rfl⟩ | ⟨z, _⟩⟩ := r
  · have := rl.ofImm im
    subst this
    exact ⟨a, j, vs, rfl, o2.int, hH, h1, h2, by rw [← rl.len]; exact hz, fun p hp => k _ _ _ _ _ _ ((Ans.newL (al1 := al1) (q1 := [a]) s hp (rl.rep j.toNat)).src fun x hx => .inl hx) q⟩
  · cases z
section
variable {X : Cx} {K : PySem.W.Frag} {a b : Expr} {pos : Pos} {p1 p2 al1 al2 : Bool} {Ta Tb : VT} {ta tb : TE} {xs : List D} {i : Int} {QB : Bool → D → Prop}
theorem ve_rep (ha : VE X K p1 a ta Ta) (hb : VE X K p2 b tb Tb) : VE X K (p1 && p2) (.BinOp a .Mult b pos) (tOp rRep ta tb) (T2 p2 Ta Tb oRep) := ve_op op_rep lf_rep ha hb
theorem y_rep : oRep al1 (.lst true xs) al2 (.int i) QB = (immL xs = true ∧ (-(2 ^ 63) ≤ i ∧ i < 2 ^ 63) ∧ xs.length * i.toNat ≤ sizeLine ∧ K2 QB ⟨⟩ true (.lst true (List.replicate i.toNat xs).flatten)) := rfl
end
end VL

namespace VL
open PySem PySem.Spec PyProof.Rows L2
/-! ### d.get(k, x): k and x plain -/
def isDK : D → Prop
  | .dK _ _ _ => True
  | _ => False
def TDG2 (Ta Tb Tc : VT) : VT := fun S Q => Ta S fun S1 _ d1 => isDK d1 ∧ Tb S1 fun S2 _ d2 => Tc S2 fun S3 _ d3 => d3.scal = true ∧ match d1, keyD d2 with
  | .dK _ ks ds, some k => (match atK ks ds k with
    | some d => d.imm = true ∧ Q S3 true d
    | none => Q S3 true d3)
  | _, _ => False
section
variable {X : Cx} {K : PySem.W.Frag} {a b c : Expr} {apos pos : Pos} {p1 : Bool} {Ta Tb Tc : VT} {ta tb tc : TE}
theorem Snd.dg2 (h1 : Snd K p1 ta Ta) (h2 : Snd K true tb Tb) (h3 : Snd K true tc Tc) : Snd K p1 (tDGet2 ta tb tc) (TDG2 Ta Tb Tc) := fun F H σ S fp Q R g q k => by
  refine h1 F H σ S fp _ _ g q fun F1 H1 S1 fp1 al1 d1 v1 fq1 r1 q1 => ?_
  obtain ⟨il, q1⟩ := q1
  cases d1 <;> first | exact il.elim | skip
  rename_i m ks ds
  obtain ⟨a, vs, fi, rfl, hd, _⟩ := dict_rd r1.good.sub r1.rep
  refine ⟨a, rfl, .inl ⟨_, hd⟩, ?_⟩
  refine h2 F1 H1 σ S1 fp1 _ _ r1.good q1 fun F2 H2 S2 fp2 al2 d2 v2 fq2 r2 q2 => ?_
  refine h3 F2 H2 σ S2 fp2 _ _ r2.good q2 fun F3 H3 S3 fp3 al3 d3 v3 fq3 r3 q3 => ?_
  obtain ⟨sc, q3⟩ := q3
  have r12 := sub_res r1 r2.good r2.step r2.pure rfl
  have r13 := sub_res r12 r3.good r3.step r3.pure rfl
  have k2 := sub_res r2 r3.good r3.step r3.pure rfl
  obtain ⟨a', vs', fi', e', hd', hl, rl, _, _⟩ := dict_rd r13.good.sub r13.rep
  cases e'
  have pu : p1 = true → S3 = S ∧ fp3 = fp ∧ Grow F H F3 H3 := fun z => r13.pure (by rw [z]; rfl)
  cases ek : keyD d2 with
  | none => rw [ek] at q3; exact q3.elim
  | some kk =>
  rw [ek] at q3
  simp only at q3
  obtain ⟨e1, _⟩ := keyD_rep k2.rep ek
  refine ⟨_, .inl ⟨_, kk, hd', e1, rfl⟩, ?_⟩
  rw [valV_zip (hl.trans rl.len)]
  unfold atK at q3
  cases ej : idxK ks kk with
  | none =>
    rw [ej] at q3
    obtain ⟨rfl, rr⟩ := r3.rep.scal0 sc
    exact k F3 H3 S3 fp3 true d3 v3 [] ⟨r13.good, rr F3 H3, r13.step, fun _ => ⟨List.nodup_nil, fun x hx => absurd hx (by simp)⟩, pu⟩ q3
  | some j =>
    rw [ej] at q3
    show R (((vs'[j]?)).getD v3) H3
    have q3 : (match ds[j]? with | some d => d.imm = true ∧ Q S3 true d | none => Q S3 true d3) := q3
    cases e : ds[j]? with
    | none =>
      rw [e] at q3
      have : vs'[j]? = none := List.getElem?_eq_none (by rw [← rl.len]; exact List.getElem?_eq_none_iff.mp e)
      rw [this]
      obtain ⟨rfl, rr⟩ := r3.rep.scal0 sc
      exact k F3 H3 S3 fp3 true d3 v3 [] ⟨r13.good, rr F3 H3, r13.step, fun _ => ⟨List.nodup_nil, fun x hx => absurd hx (by simp)⟩, pu⟩ q3
    | some d =>
      rw [e] at q3
      obtain ⟨im, q3⟩ := q3
      obtain ⟨v, f1, f2, f3, ev, _, rd⟩ := rl.at e
      rw [ev]
      have := rd.ofImm im
      subst this
      exact k F3 H3 S3 fp3 true d v [] ⟨r13.good, rd, r13.step, fun _ => ⟨List.nodup_nil, fun x hx => absurd hx (by simp)⟩, pu⟩ q3
theorem ve_dget2 (hu : X.A.units + 1 < cLine) (h1 : VE X K p1 a ta Ta) (h2 : VE X K true b tb Tb) (h3 : VE X K true c tc Tc) (m : M2 X a "get" apos b c pos) : VE X K p1 (.Call (.Attribute a "get" apos) [b, c] [] pos) (tDGet2 ta tb tc) (TDG2 Ta Tb Tc) := ⟨pe_dget2 hu h1.pe h2.pe h3.pe m, Snd.dg2 h1.snd h2.snd h3.snd⟩
theorem isDK_d {m : Bool} {ks : List Key} {ds : List D} : isDK (.dK m ks ds) = True := rfl
theorem keyD_i {i : Int} : keyD (.int i) = some (.inl i) := rfl
theorem keyD_s {x : Str} : keyD (.str x) = some (.inr x) := rfl
theorem x_TDG2 {S : SV} {Q : SV → Bool → D → Prop} : TDG2 Ta Tb Tc S Q = Ta S fun S1 _ d1 => isDK d1 ∧ Tb S1 fun S2 _ d2 => Tc S2 fun S3 _ d3 => d3.scal = true ∧ (match d1, keyD d2 with
  | .dK _ ks ds, some k => (match atK ks ds k with
    | some d => d.imm = true ∧ K3 Q ⟨⟩ S3 true d
    | none => K3 Q ⟨⟩ S3 true d3)
  | _, _ => False) := rfl
end
end VL

namespace VL
open PySem PySem.Spec PyProof.Rows L2
/-! ### xs[i] += y, ints -/
def rGetL (K : PySem.W.Frag) : V → V → Hp → VK → Prop := fun o i H Q => ∃ p xs k v, o = .ref p ∧ i = .int k ∧ SqL K H p xs ∧ (0 ≤ k ∧ k < 2 ^ 62) ∧ xs[k.toNat]? = some v ∧ Q v H
theorem get_listN {X : Cx} : PGet X (rGetL X.K) := by
  intro pins s σ H o i ov iv Q I ro ri h
  obtain ⟨p, xs, k, v, rfl, rfl, hq, ⟨k0, k1⟩, hv, q⟩ := h
  cases ro
  obtain ⟨t, rfl⟩ := ri
  obtain ⟨its, r, pl, _⟩ := I.list hq
  obtain ⟨w, ew, rw'⟩ := r.get hv
  exact wpAny_getItem_list pl.isList k0 (by omega) (by simpa using ew) ⟨v, H, I, rw', q⟩
def TAugI (Tp : VTP) (Tb Tc : VT) : VTS := fun W S => Tp S fun S1 i ps => Tb S1 fun S2 _ d1 => match atP S2 i ps, d1 with
  | some (.lst true xs), .int z => (0 ≤ z ∧ z < 2 ^ 62) ∧ match xs[z.toNat]? with
    | some (.int x) => Tc S2 fun S3 _ d3 => match d3 with
      | .int y => W.nx (putP S3 i ps (.lst true (xs.set z.toNat (.int (x + y)))))
      | _ => False
    | _ => False
  | _, _ => False
section
variable {X : Cx} {K : PySem.W.Frag} {pin : List Nat} {a b c : Expr} {tpos pos : Pos} {p1 : Bool} {Tp : VTP} {Tb Tc : VT} {ta tb tc : TE}
theorem SndS.augI (ha : SndP K p1 ta Tp) (hb : Snd K true tb Tb) (hc : Snd K true tc Tc) : SndS X K pin (tAugS ta tb tc (rGetL K) (ipI fun i j => i + j) rSetL) (TAugI Tp Tb Tc) := fun F H σ S fp W M g q l => by
  refine ha F H σ S fp _ _ g q fun F1 H1 S1 fp1 i ps u g1 st1 pu1 at1 q1 => ?_
  refine hb F1 H1 σ S1 fp1 _ _ g1 q1 fun F2 H2 S2 fp2 al1 d1 v1 k1 r2 q2 => ?_
  have at2 := at1.carry (p2 := true) (by simp) r2.pure
  cases ea : atP S2 i ps with
  | none => rw [ea] at q2; exact q2.elim
  | some cc =>
  rw [ea] at q2
  cases cc <;> first | exact q2.elim | skip
  rename_i m xs
  cases m with
  | false => cases d1 <;> exact q2.elim
  | true =>
  cases d1 <;> first | exact q2.elim | skip
  rename_i z
  obtain ⟨⟨z0, z1⟩, q2⟩ := q2
  cases ex : xs[z.toNat]? with
  | none => rw [ex] at q2; exact q2.elim
  | some dx =>
  rw [ex] at q2
  cases dx <;> first | exact q2.elim | skip
  rename_i x
  have q2 : Tc S2 fun S3 _ d3 => match d3 with
    | .int y => W.nx (putP S3 i ps (.lst true (xs.set z.toNat (.int (x + y)))))
    | _ => False := q2
  obtain ⟨_, f2, _, _, rc2, _⟩ := r2.good.at at2 ea
  have ev1 := r2.rep
  rw [Rep] at ev1
  obtain ⟨rfl, _⟩ := ev1
  obtain ⟨aa, rfl, _⟩ := own_at rc2 trivial
  obtain ⟨vs, fi, hH, rl, _⟩ := own_list rc2
  obtain ⟨vx, _, _, _, evx, _, rx⟩ := rl.at ex
  rw [Rep] at rx
  obtain ⟨rfl, _⟩ := rx
  refine ⟨aa, vs, z, _, rfl, rfl, SqL.of hH, ⟨z0, z1⟩, evx, ?_⟩
  refine hc F2 H2 σ S2 fp2 _ _ r2.good q2 fun F3 H3 S3 fp3 al3 d3 v3 k3 r3 q3 => ?_
  cases d3 <;> first | exact q3.elim | skip
  rename_i y
  have ev3 := r3.rep
  rw [Rep] at ev3
  obtain ⟨rfl, _⟩ := ev3
  refine ⟨x, y, rfl, rfl, ?_⟩
  obtain ⟨eS, eF, gr3⟩ := r3.pure rfl
  subst eS
  subst eF
  have at3 := at2.carry (p2 := true) (F2 := F3) (H2 := H3) (by simp) fun _ => ⟨rfl, rfl, gr3⟩
  obtain ⟨f1, f2, f3, ef, rc, pt⟩ := r3.good.at at3 ea
  have haf : aa ∈ f2 := by
    obtain ⟨a', e', h'⟩ := own_at rc trivial
    cases e'
    exact h'
  obtain ⟨vs', fi', hH', rl', e2⟩ := own_list rc
  subst e2
  have hv : vs' = vs := by
    have := gr3.hsub _ _ hH
    rw [this] at hH'
    cases hH'
    rfl
  subst hv
  have hj : z.toNat < vs'.length := (List.getElem?_eq_some_iff.mp evx).1
  refine ⟨aa, vs', z, z.toNat, rfl, rfl, hH', ixN_nn z0 (by omega), ?_⟩
  have nf2 : (aa :: fi').Nodup := by
    have := r3.good.nd
    rw [ef] at this
    exact (List.nodup_append.mp (List.nodup_append.mp this).2.1).1
  obtain ⟨na, ni⟩ := List.nodup_cons.mp nf2
  obtain ⟨vx2, g1', g2', g3', _, eg, rx2, pt2⟩ := rl'.lens ex
  rw [Rep] at rx2
  obtain ⟨_, rfl⟩ := rx2
  subst eg
  have rn : RepL K F3 (upd H3 aa (.lst (vs'.set z.toNat (.int (x + y))))) (xs.set z.toNat (.int (x + y))) (vs'.set z.toNat (.int (x + y))) (g1' ++ ([] ++ g3')) := pt2 Sub.refl (fun b hb o e => by
    rw [upd_ne]
    · exact e
    · rintro rfl
      exact na (by simpa using hb)) (by rw [Rep]; exact ⟨rfl, rfl⟩)
  have w : Wr K F3 H3 aa (aa :: (g1' ++ ([] ++ g3'))) [] (upd H3 aa (.lst (vs'.set z.toNat (.int (x + y))))) (.lst true (xs.set z.toNat (.int (x + y)))) (aa :: (g1' ++ ([] ++ g3'))) .non .non [] :=
    wr_list (vs := vs') (xs := xs) rfl rn rep_non (by rw [List.append_nil]; exact ni) (by rw [List.append_nil]; exact na) fun b hb => by rw [List.append_nil] at hb; exact .inl hb
  obtain ⟨g4, st4, _, _⟩ := wr_good (fa := []) r3.good ef haf (fun x hx => absurd hx (by simp)) w pt
  rw [List.nil_append] at st4
  exact l.nx F3 _ σ _ _ g4 (((st1.trans r2.step).trans r3.step).trans st4) Pin.refl q3
theorem vs_augsub (hK : X.K = K) (ha : VP X K p1 a ta Tp) (hb : VE X K true b tb Tb) (hc : VE X K true c tc Tc)
    (hA : ∀ ov iv new, augStore b ov iv new = (do holding [new, ov, iv] (setItem ov iv new); release [new, ov, iv] []; pure .next) := by intros; rfl) : VS X K pin (.AugAssign (.Subscript a b tpos) .Add c pos) (TAugI Tp Tb Tc) := by
  subst hK
  exact ⟨_, ps_augS ha.pe hb.pe get_listN hc.pe ip_add set_list hA, SndS.augI ha.snd hb.snd hc.snd⟩
theorem x_TAugI {W : VD} {S : SV} : TAugI Tp Tb Tc W S = Tp S fun S1 i ps => Tb S1 fun S2 _ d1 => (match atP S2 i ps, d1 with
  | some (.lst true xs), .int z => (0 ≤ z ∧ z < 2 ^ 62) ∧ (match xs[z.toNat]? with
    | some (.int x) => Tc S2 fun S3 _ d3 => (match d3 with
      | .int y => K1 W.nx ⟨⟩ (putP S3 i ps (.lst true (xs.set z.toNat (.int (x + y)))))
      | _ => False)
    | _ => False)
  | _, _ => False) := rfl
end
end VL

namespace VL
open PySem PySem.Spec PyProof.Rows L2
/-! ### xs.count(i), ints -/
def rCountI (K : PySem.W.Frag) : V → List V → Hp → VK → Prop := fun x xs H Q => ∃ (a : Addr) (ns : List Int) (i : Int), x = .ref a ∧ xs = [.int i] ∧ SqL K H a (ns.map V.int) ∧ Q (.int (ns.count i : Nat)) H
theorem mt_countI {X : Cx} : MtR X "list.count" (rCountI X.K) := by
  intro pins s σ H x xs v us Q I rx rv h
  obtain ⟨a, ns, i, rfl, rfl, hq, q⟩ := h
  cases rx
  obtain ⟨u, rfl, ru⟩ := Vals.one rv
  obtain ⟨t, rfl⟩ := ru
  obtain ⟨its, r, pl, _⟩ := I.list hq
  exact count_list_ints pl.isList (RZ.intsAre_vals r) ⟨.int _, H, I.tok _, ⟨_, rfl⟩, q⟩
def oCount : O2 := fun _ d1 _ d2 Q => ∃ (ns : List Int) (i : Int), (∃ m, d1 = .lst m (ns.map D.int)) ∧ d2 = .int i ∧ Q true (.int (ns.count i : Nat))
theorem lf_count {K : PySem.W.Frag} : Lf2 K (fun x y => rCountI K x [y]) oCount := fun F H al1 d1 v1 q1 al2 d2 v2 q2 Q R s o1 o2 dj q k => by
  obtain ⟨ns, i, ⟨m, rfl⟩, rfl, q⟩ := q
  obtain ⟨a, vs, rfl, h1, rl⟩ := seqL_imm s o1.rep immL_ints
  obtain ⟨rfl, _⟩ := rl.ints
  have e := o2.int
  subst e
  exact ⟨a, ns, i, rfl, rfl, h1, k F H true _ _ [] (Ans.int s) q⟩
section
variable {X : Cx} {K : PySem.W.Frag} {a b : Expr} {pos apos : Pos} {p1 p2 al1 al2 : Bool} {Ta Tb : VT} {ta tb : TE} {d1 d2 : D} {QB : Bool → D → Prop}
theorem ve_count (hK : X.K = K) (ha : VE X K p1 a ta Ta) (hb : VE X K p2 b tb Tb) (hbase : attributeBase a "count" X.env (eval a X.env) = eval a X.env := by rfl)
    (hfew : ((backTo pos (starEach [b] X.env)).all (fun x => !x.1) && (backToKw pos (keywordEach [] X.env)).all (fun x => x.1.isSome) && decide ([b].length + ([] : List Keyword).length + (if ([] : List Keyword).isEmpty then 0 else 1) < 30)) = true := by rfl)
    (hline : (apos.endLine == pos.line) = true := by rfl) (hs : starEach [b] X.env = [(false, eval b X.env)] := by rfl) : VE X K (p1 && p2) (.Call (.Attribute a "count" apos) [b] [] pos) (tBM K "list" (rCountI K) ta (tCons tb tNil)) (TB1 p2 Ta Tb oCount) := by
  subst hK
  exact ⟨pe_bm PySem.F.plainAttrs_list PySem.F.slot_list_count PySem.F.type_list_count mt_countI ha.pe (pa_cons hb.pe pa_nil hs) hbase hfew hline hs rfl, Snd.b1 ha.snd hb.snd lf_count⟩
theorem z_count : oCount al1 d1 al2 d2 QB = CO2 oCount al1 d1 al2 d2 QB ⟨⟩ := rfl
end
end VL

namespace VL
open PySem PySem.Spec PyProof.Rows L2
/-! ### min and max of a tuple of ints -/
theorem dpInts {K : PySem.W.Frag} {H : Hp} : ∀ {ns : List Int}, DpAll K H (ns.map V.int) (ns.map PyData.int)
  | [] => .nil
  | n :: ns => .cons (.int n) dpInts
def minT (n : Int) (ns : List Int) : Int := PySem.W.minOf n ns
def maxT (n : Int) (ns : List Int) : Int := PySem.W.maxOf n ns
def rMinT (K : PySem.W.Frag) : List V → Hp → VK → Prop := fun vs H Q => ∃ (a : Addr) (n : Int) (ns : List Int), vs = [V.ref a] ∧ SqT K H a ((n :: ns).map V.int) ∧ Q (.int (minT n ns)) H
def rMaxT (K : PySem.W.Frag) : List V → Hp → VK → Prop := fun vs H Q => ∃ (a : Addr) (n : Int) (ns : List Int), vs = [V.ref a] ∧ SqT K H a ((n :: ns).map V.int) ∧ Q (.int (maxT n ns)) H
theorem holds_int {h : Heap} {v : Value} {k : Int} (x : PySem.W.Holds h v k) : ∃ t, v = .int k t := by
  obtain ⟨as, r⟩ := x
  cases r
  exact ⟨_, rfl⟩
theorem cr_minT {X : Cx} (hc : X.calm = true) (hu : X.A.units + 1 < cLine) : CallR X (.builtin "min") (rMinT X.K) := by
  intro pins s σ H vs us Q I r h
  obtain ⟨a, n, ns, rfl, hs, q⟩ := h
  obtain ⟨its, rv, pl, _⟩ := I.tuple hs
  rw [Vals.ref1 r]
  obtain ⟨as, hr⟩ := Dp.readsAll I ((n :: ns).map PyData.int) _ its dpInts rv
  refine PySem.W.min_tuple_datum (x := n) (xs := ns) (I.ok.hd hc) pl ⟨as, hr⟩ hu fun i v h' tk _ hv hk => ?_
  obtain ⟨t, rfl⟩ := holds_int hv
  exact ⟨.int _, H, I.kept hk, ⟨t, rfl⟩, q⟩
theorem cr_maxT {X : Cx} (hc : X.calm = true) (hu : X.A.units + 1 < cLine) : CallR X (.builtin "max") (rMaxT X.K) := by
  intro pins s σ H vs us Q I r h
  obtain ⟨a, n, ns, rfl, hs, q⟩ := h
  obtain ⟨its, rv, pl, _⟩ := I.tuple hs
  rw [Vals.ref1 r]
  obtain ⟨as, hr⟩ := Dp.readsAll I ((n :: ns).map PyData.int) _ its dpInts rv
  refine PySem.W.max_tuple_datum (x := n) (xs := ns) (I.ok.hd hc) pl ⟨as, hr⟩ hu fun i v h' tk _ hv hk => ?_
  obtain ⟨t, rfl⟩ := holds_int hv
  exact ⟨.int _, H, I.kept hk, ⟨t, rfl⟩, q⟩
theorem minT_two {a b : Int} : minT a [b] = min a b := by
  show (if (PySem.W.DatumOrd.lt b a) = true then b else a) = min a b
  rw [show PySem.W.DatumOrd.lt b a = decide (b < a) from rfl, ← if_min]
  by_cases h : b < a <;> simp [h]
theorem maxT_two {a b : Int} : maxT a [b] = max a b := by
  show (if (PySem.W.DatumOrd.lt a b) = true then b else a) = max a b
  rw [show PySem.W.DatumOrd.lt a b = decide (a < b) from rfl, ← if_max]
  by_cases h : a < b <;> simp [h]
def oMinT : O1 := fun al d Q => match d with
  | .tup xs => ∃ (n : Int) (ns : List Int), xs = (n :: ns).map D.int ∧ Q true (.int (minT n ns))
  | _ => oMin1 al d Q
def oMaxT : O1 := fun al d Q => match d with
  | .tup xs => ∃ (n : Int) (ns : List Int), xs = (n :: ns).map D.int ∧ Q true (.int (maxT n ns))
  | _ => oMax1 al d Q
section
variable {K : PySem.W.Frag}
theorem lf_minT : Lf1 K (fun v H Q => rMin K [v] H Q ∨ rMinT K [v] H Q) oMinT := fun F H al1 d1 v1 q1 Q R s o1 q k => by
  cases d1 with
  | tup xs =>
    obtain ⟨n, ns, rfl, q⟩ := q
    obtain ⟨a, vs, rfl, h1, rl⟩ := seqT_imm o1.rep immL_ints
    obtain ⟨rfl, _⟩ := RepL.ints (ns := n :: ns) rl
    exact .inr ⟨a, n, ns, rfl, s.seqT h1, k F H true _ _ [] (Ans.int s) q⟩
  | _ => exact .inl (lf_min1 F H al1 _ v1 q1 Q R s o1 q k)
theorem lf_maxT : Lf1 K (fun v H Q => rMax K [v] H Q ∨ rMaxT K [v] H Q) oMaxT := fun F H al1 d1 v1 q1 Q R s o1 q k => by
  cases d1 with
  | tup xs =>
    obtain ⟨n, ns, rfl, q⟩ := q
    obtain ⟨a, vs, rfl, h1, rl⟩ := seqT_imm o1.rep immL_ints
    obtain ⟨rfl, _⟩ := RepL.ints (ns := n :: ns) rl
    exact .inr ⟨a, n, ns, rfl, s.seqT h1, k F H true _ _ [] (Ans.int s) q⟩
  | _ => exact .inl (lf_max1 F H al1 _ v1 q1 Q R s o1 q k)
end
section
variable {X : Cx} {K : PySem.W.Frag} {a : Expr} {pos P0 : Pos} {p al : Bool} {Ta : VT} {ta : TE} {d : D} {QB : Bool → D → Prop}
theorem ve_minT (hK : X.K = K) (hc : X.calm = true) (hu : X.A.units + 1 < cLine) (hg : Gl X "min") (hm : X.mg "min" = none) (ha : VE X K p a ta Ta) (he : starEach [a] X.env = [(false, eval a X.env)] := by rfl) : VE X K p (.Call (.Name "min" P0) [a] [] pos) (tUn (fun v H Q => rMin K [v] H Q ∨ rMinT K [v] H Q) ta) (TU Ta oMinT) := by
  subst hK; exact ve_b1 (r := fun vs H Q => rMin X.K vs H Q ∨ rMinT X.K vs H Q) (CallR.or (cr_min hc) (cr_minT hc hu)) lf_minT hg hm (by decide +kernel) ha (by decide) (by decide) he
theorem ve_maxT (hK : X.K = K) (hc : X.calm = true) (hu : X.A.units + 1 < cLine) (hg : Gl X "max") (hm : X.mg "max" = none) (ha : VE X K p a ta Ta) (he : starEach [a] X.env = [(false, eval a X.env)] := by rfl) : VE X K p (.Call (.Name "max" P0) [a] [] pos) (tUn (fun v H Q => rMax K [v] H Q ∨ rMaxT K [v] H Q) ta) (TU Ta oMaxT) := by
  subst hK; exact ve_b1 (r := fun vs H Q => rMax X.K vs H Q ∨ rMaxT X.K vs H Q) (CallR.or (cr_max hc) (cr_maxT hc hu)) lf_maxT hg hm (by decide +kernel) ha (by decide) (by decide) he
theorem z_minT : oMinT al d QB = CO oMinT al d QB ⟨⟩ := rfl
theorem z_maxT : oMaxT al d QB = CO oMaxT al d QB ⟨⟩ := rfl
end
end VL

namespace VL
open PySem PySem.Spec PyProof.Rows L2

/-! ### an order over plain data: ints, texts, tuples of such -/
def thn : Ordering → Ordering → Ordering
  | .eq, p => p
  | .lt, _ => .lt
  | .gt, _ => .gt
def ord2 (p q : Bool) : Ordering := if p then .lt else if q then .gt else .eq
def ordZ (i j : Int) : Ordering := ord2 (decide (i < j)) (decide (j < i))
def ordN (i j : Nat) : Ordering := ord2 (decide (i < j)) (decide (j < i))
def ordS (x y : Str) : Ordering := ord2 (decide (x.cps.toList < y.cps.toList)) (decide (y.cps.toList < x.cps.toList))
/-- of three things: a to b, b to c, a to c -/
structure Oks (o p r : Ordering) : Prop where
  e1 : o = .eq → r = p
  e2 : p = .eq → r = o
  lt : o = .lt → p = .lt → r = .lt
  gt : o = .gt → p = .gt → r = .gt
theorem ord2_lt {p q : Bool} : ord2 p q = .lt ↔ p = true := by
  unfold ord2; cases p <;> cases q <;> simp
theorem ord2_gt {p q : Bool} : ord2 p q = .gt ↔ p = false ∧ q = true := by
  unfold ord2; cases p <;> cases q <;> simp
theorem ord2_eq {p q : Bool} : ord2 p q = .eq ↔ p = false ∧ q = false := by
  unfold ord2; cases p <;> cases q <;> simp
theorem ok_lin {α : Type} (lt : α → α → Prop) [DecidableRel lt] (as : ∀ a b, lt a b → ¬ lt b a) (tr : ∀ a b c, lt a b → lt b c → lt a c) (tri : ∀ a b, ¬ lt a b → ¬ lt b a → a = b) (a b c : α) :
    Oks (ord2 (decide (lt a b)) (decide (lt b a))) (ord2 (decide (lt b c)) (decide (lt c b))) (ord2 (decide (lt a c)) (decide (lt c a))) := by
  refine ⟨fun h => ?_, fun h => ?_, fun h1 h2 => ?_, fun h1 h2 => ?_⟩
  · obtain ⟨h1, h2⟩ := ord2_eq.mp h
    rw [tri a b (of_decide_eq_false h1) (of_decide_eq_false h2)]
  · obtain ⟨h1, h2⟩ := ord2_eq.mp h
    rw [tri b c (of_decide_eq_false h1) (of_decide_eq_false h2)]
  · have h1 := of_decide_eq_true (ord2_lt.mp h1)
    have h2 := of_decide_eq_true (ord2_lt.mp h2)
    exact ord2_lt.mpr (decide_eq_true (tr _ _ _ h1 h2))
  · have h1 := of_decide_eq_true (ord2_gt.mp h1).2
    have h2 := of_decide_eq_true (ord2_gt.mp h2).2
    have h3 := tr _ _ _ h2 h1
    exact ord2_gt.mpr ⟨decide_eq_false (as _ _ h3), decide_eq_true h3⟩
theorem ordZ_ok (a b c : Int) : Oks (ordZ a b) (ordZ b c) (ordZ a c) := ok_lin (· < ·) (fun _ _ h => by omega) (fun _ _ _ h h' => by omega) (fun _ _ h h' => by omega) a b c
theorem ordN_ok (a b c : Nat) : Oks (ordN a b) (ordN b c) (ordN a c) := ok_lin (· < ·) (fun _ _ h => by omega) (fun _ _ _ h h' => by omega) (fun _ _ h h' => by omega) a b c
theorem ordS_ok (a b c : Str) : Oks (ordS a b) (ordS b c) (ordS a c) := by
  have h := ok_lin (α := List Nat) (· < ·) (fun x y h => List.lt_asymm h) (fun _ _ _ h h' => List.lt_trans h h') (fun _ _ h h' => List.le_antisymm (List.not_lt.mp h') (List.not_lt.mp h)) a.cps.toList b.cps.toList c.cps.toList
  exact h
theorem ordZ_eq {a b : Int} : ordZ a b = .eq ↔ a = b := by
  unfold ordZ; rw [ord2_eq, decide_eq_false_iff_not, decide_eq_false_iff_not]; omega
theorem ordN_eq {a b : Nat} : ordN a b = .eq ↔ a = b := by
  unfold ordN; rw [ord2_eq, decide_eq_false_iff_not, decide_eq_false_iff_not]; omega
theorem ordS_eq {a b : Str} : ordS a b = .eq ↔ a = b := by
  unfold ordS
  rw [ord2_eq, decide_eq_false_iff_not, decide_eq_false_iff_not]
  constructor
  · rintro ⟨h, h'⟩
    have e := List.le_antisymm (List.not_lt.mp h') (List.not_lt.mp h)
    cases a; cases b
    simp only at e
    rw [Array.ext' e]
  · rintro rfl
    exact ⟨List.lt_irrefl _, List.lt_irrefl _⟩
theorem ok_then {o p r o' p' r' : Ordering} (h : Oks o p r) (h' : o = .eq → p = .eq → Oks o' p' r') : Oks (thn o o') (thn p p') (thn r r') := by
  obtain ⟨h1, h2, h3, h4⟩ := h
  cases o <;> cases p <;> simp only [reduceCtorEq, forall_const, false_implies, true_implies] at h1 h2 h3 h4 <;> (try subst h1) <;> (try subst h2) <;> (try subst h3) <;> (try subst h4) <;> (try exact h' rfl rfl) <;>
    refine ⟨?_, ?_, ?_, ?_⟩ <;> simp [thn] <;> intro h <;> simp [h, thn]
def tagD : D → Nat
  | .int _ => 0
  | .str _ => 1
  | .tup _ => 2
  | _ => 3
mutual
def inD : D → D → Ordering
  | .int i, .int j => ordZ i j
  | .str x, .str y => ordS x y
  | .tup xs, .tup ys => cmpL xs ys
  | _, _ => .eq
def cmpL : List D → List D → Ordering
  | [], [] => .eq
  | [], _ :: _ => .lt
  | _ :: _, [] => .gt
  | x :: xs, y :: ys => thn (thn (ordN (tagD x) (tagD y)) (inD x y)) (cmpL xs ys)
end
def cmpD (a b : D) : Ordering := thn (ordN (tagD a) (tagD b)) (inD a b)
theorem cmpL_cons {x y : D} {xs ys : List D} : cmpL (x :: xs) (y :: ys) = thn (cmpD x y) (cmpL xs ys) := by rw [cmpL]; rfl
theorem tag_int {d : D} (h : tagD d = 0) : ∃ i, d = .int i := by cases d <;> simp [tagD] at h; exact ⟨_, rfl⟩
theorem tag_str {d : D} (h : tagD d = 1) : ∃ i, d = .str i := by cases d <;> simp [tagD] at h; exact ⟨_, rfl⟩
theorem tag_tup {d : D} (h : tagD d = 2) : ∃ i, d = .tup i := by cases d <;> simp [tagD] at h; exact ⟨_, rfl⟩
theorem in_odd {d e : D} (h : tagD d = 3) : inD d e = .eq := by cases d <;> simp [tagD] at h <;> cases e <;> rw [inD] <;> simp
theorem eqs_ok : Oks .eq .eq .eq := ⟨fun _ => rfl, fun _ => rfl, (fun h => nomatch h), (fun h => nomatch h)⟩
mutual
theorem inD_ok : ∀ (a b c : D), tagD a = tagD b → tagD b = tagD c → Oks (inD a b) (inD b c) (inD a c)
  | .int i, b, c, h1, h2 => by
    obtain ⟨j, rfl⟩ := tag_int (d := b) (by rw [← h1]; rfl)
    obtain ⟨k, rfl⟩ := tag_int (d := c) (by rw [← h2]; rfl)
    rw [inD, inD, inD]; exact ordZ_ok i j k
  | .str i, b, c, h1, h2 => by
    obtain ⟨j, rfl⟩ := tag_str (d := b) (by rw [← h1]; rfl)
    obtain ⟨k, rfl⟩ := tag_str (d := c) (by rw [← h2]; rfl)
    rw [inD, inD, inD]; exact ordS_ok i j k
  | .tup i, b, c, h1, h2 => by
    obtain ⟨j, rfl⟩ := tag_tup (d := b) (by rw [← h1]; rfl)
    obtain ⟨k, rfl⟩ := tag_tup (d := c) (by rw [← h2]; rfl)
    rw [inD, inD, inD]; exact cmpL_ok i j k
  | .unk, b, c, h1, h2 => by rw [in_odd rfl, in_odd (by rw [← h1]; rfl), in_odd rfl]; exact eqs_ok
  | .non, b, c, h1, h2 => by rw [in_odd rfl, in_odd (by rw [← h1]; rfl), in_odd rfl]; exact eqs_ok
  | .bl _, b, c, h1, h2 => by rw [in_odd rfl, in_odd (by rw [← h1]; rfl), in_odd rfl]; exact eqs_ok
  | .lst _ _, b, c, h1, h2 => by rw [in_odd rfl, in_odd (by rw [← h1]; rfl), in_odd rfl]; exact eqs_ok
  | .dK _ _ _, b, c, h1, h2 => by rw [in_odd rfl, in_odd (by rw [← h1]; rfl), in_odd rfl]; exact eqs_ok
  | .exc _ _, b, c, h1, h2 => by rw [in_odd rfl, in_odd (by rw [← h1]; rfl), in_odd rfl]; exact eqs_ok
  | .dT _ _ _, b, c, h1, h2 => by rw [in_odd rfl, in_odd (by rw [← h1]; rfl), in_odd rfl]; exact eqs_ok
theorem cmpL_ok : ∀ (a b c : List D), Oks (cmpL a b) (cmpL b c) (cmpL a c)
  | [], [], [] => by rw [cmpL]; exact eqs_ok
  | [], [], _ :: _ => by rw [cmpL, cmpL]; exact ⟨by simp, by simp, by simp, by simp⟩
  | [], _ :: _, [] => by rw [cmpL, cmpL, cmpL]; exact ⟨by simp, by simp, by simp, by simp⟩
  | [], y :: ys, z :: zs => by rw [cmpL, cmpL]; exact ⟨by simp, by simp, by simp, by simp⟩
  | _ :: _, [], [] => by rw [cmpL, cmpL]; exact ⟨by simp, by simp, by simp, by simp⟩
  | _ :: _, [], _ :: _ => by rw [cmpL, cmpL]; exact ⟨by simp, by simp, by simp, by simp⟩
  | _ :: _, y :: ys, [] => by rw [cmpL, cmpL]; exact ⟨by simp, by simp, by simp, by simp⟩
  | x :: xs, y :: ys, z :: zs => by
    rw [cmpL, cmpL, cmpL]
    exact ok_then (ok_then (ordN_ok _ _ _) fun e1 e2 => inD_ok x y z (ordN_eq.mp e1) (ordN_eq.mp e2)) fun _ _ => cmpL_ok xs ys zs
end
theorem cmpD_ok (a b c : D) : Oks (cmpD a b) (cmpD b c) (cmpD a c) := ok_then (ordN_ok _ _ _) fun e1 e2 => inD_ok a b c (ordN_eq.mp e1) (ordN_eq.mp e2)
mutual
theorem inD_rfl : ∀ (a : D), inD a a = .eq
  | .int i => by rw [inD]; exact ordZ_eq.mpr rfl
  | .str i => by rw [inD]; exact ordS_eq.mpr rfl
  | .tup i => by rw [inD]; exact cmpL_rfl i
  | .unk => in_odd rfl | .non => in_odd rfl | .bl _ => in_odd rfl | .lst _ _ => in_odd rfl | .dK _ _ _ => in_odd rfl | .dT _ _ _ => in_odd rfl | .exc _ _ => in_odd rfl
theorem cmpL_rfl : ∀ (a : List D), cmpL a a = .eq
  | [] => by rw [cmpL]
  | x :: xs => by rw [cmpL, ordN_eq.mpr rfl, inD_rfl x, cmpL_rfl xs]; rfl
end
theorem cmpD_rfl (a : D) : cmpD a a = .eq := by unfold cmpD; rw [ordN_eq.mpr rfl, inD_rfl]; rfl
theorem cmpD_eq_symm {a b : D} (h : cmpD a b = .eq) : cmpD b a = .eq := by
  have := (cmpD_ok a b a).e1 h
  rw [cmpD_rfl] at this; exact this.symm
theorem cmpD_lt_gt {a b : D} : cmpD a b = .lt ↔ cmpD b a = .gt := by
  have h := cmpD_ok a b a
  have h' := cmpD_ok b a b
  rw [cmpD_rfl] at h h'
  constructor
  · intro e
    cases e2 : cmpD b a with
    | lt => exact absurd (h.lt e e2) (by simp)
    | eq => have := h.e2 e2; rw [e] at this; cases this
    | gt => rfl
  · intro e
    cases e2 : cmpD a b with
    | lt => rfl
    | eq => have := h'.e2 e2; rw [e] at this; cases this
    | gt => exact absurd (h'.gt e e2) (by simp)
def ltD (a b : D) : Bool := cmpD a b == .lt
theorem ltD_iff {a b : D} : ltD a b = true ↔ cmpD a b = .lt := by unfold ltD; simp
theorem ltD_no {a b : D} : ltD a b = false ↔ cmpD a b ≠ .lt := by unfold ltD; simp
theorem ltD_asym {a b : D} (h : ltD a b = true) : ltD b a = false := by
  rw [ltD_iff] at h; rw [ltD_no, cmpD_lt_gt.mp h]; simp
theorem ltD_tr {x y z : D} (h1 : ltD y x = false) (h2 : ltD z y = false) : ltD z x = false := by
  rw [ltD_no] at *
  have h := cmpD_ok z y x
  cases e1 : cmpD z y with
  | lt => exact absurd e1 h2
  | eq => rw [h.e1 e1]; exact h1
  | gt =>
    cases e2 : cmpD y x with
    | lt => exact absurd e2 h1
    | eq => rw [h.e2 e2, e1]; simp
    | gt => rw [h.gt e1 e2]; simp
theorem ltD_trans {x y z : D} (h1 : ltD x y = true) (h2 : ltD y z = true) : ltD x z = true := by
  rw [ltD_iff] at *; exact (cmpD_ok x y z).lt h1 h2

/-! plain: ints, texts, tuples of such to a depth -/
mutual
def pD : Nat → D → Bool
  | _, .int _ => true
  | _, .str _ => true
  | k + 1, .tup xs => pL k xs
  | _, _ => false
def pL : Nat → List D → Bool
  | _, [] => true
  | k, d :: ds => pD k d && pL k ds
end
theorem pD_int {k : Nat} {i : Int} : pD k (.int i) = true := by rw [pD]
theorem pD_str {k : Nat} {i : Str} : pD k (.str i) = true := by rw [pD]
theorem pD_tup {k : Nat} {xs : List D} : pD (k + 1) (.tup xs) = pL k xs := by rw [pD]
theorem pL_all {k : Nat} : ∀ {l : List D}, pL k l = true ↔ ∀ d ∈ l, pD k d = true
  | [] => by rw [pL]; simp
  | d :: l => by rw [pL, Bool.and_eq_true, pL_all]; simp
theorem pL_at {k j : Nat} {l : List D} {d : D} (h : pL k l = true) (e : l[j]? = some d) : pD k d = true := pL_all.mp h d (List.mem_of_getElem? e)
theorem pL_ints {k : Nat} {l : List Int} : pL k (l.map D.int) = true := pL_all.mpr fun d h => by
  obtain ⟨i, _, rfl⟩ := List.mem_map.mp h
  exact pD_int
mutual
theorem pD_eq : ∀ {k k' : Nat} {a b : D}, pD k a = true → pD k' b = true → tagD a = tagD b → inD a b = .eq → a = b
  | _, _, .int i, b, _, _, ht, h => by
    obtain ⟨j, rfl⟩ := tag_int (d := b) (by rw [← ht]; rfl)
    rw [inD] at h; rw [ordZ_eq.mp h]
  | _, _, .str i, b, _, _, ht, h => by
    obtain ⟨j, rfl⟩ := tag_str (d := b) (by rw [← ht]; rfl)
    rw [inD] at h; rw [ordS_eq.mp h]
  | 0, _, .tup i, b, h1, _, _, _ => by simp [pD] at h1
  | k + 1, 0, .tup i, b, _, h2, ht, h => by
    obtain ⟨j, rfl⟩ := tag_tup (d := b) (by rw [← ht]; rfl)
    simp [pD] at h2
  | k + 1, k' + 1, .tup i, b, h1, h2, ht, h => by
    obtain ⟨j, rfl⟩ := tag_tup (d := b) (by rw [← ht]; rfl)
    rw [inD] at h
    rw [pD] at h1 h2
    rw [pL_eq h1 h2 h]
  | _, _, .unk, b, h1, _, _, _ => by simp [pD] at h1
  | _, _, .non, b, h1, _, _, _ => by simp [pD] at h1
  | _, _, .bl _, b, h1, _, _, _ => by simp [pD] at h1
  | _, _, .lst _ _, b, h1, _, _, _ => by simp [pD] at h1
  | _, _, .dK _ _ _, b, h1, _, _, _ => by simp [pD] at h1
  | _, _, .dT _ _ _, b, h1, _, _, _ => by simp [pD] at h1
theorem pL_eq : ∀ {k k' : Nat} {a b : List D}, pL k a = true → pL k' b = true → cmpL a b = .eq → a = b
  | _, _, [], [], _, _, _ => rfl
  | _, _, [], _ :: _, _, _, h => by rw [cmpL] at h; cases h
  | _, _, _ :: _, [], _, _, h => by rw [cmpL] at h; cases h
  | k, k', x :: xs, y :: ys, h1, h2, h => by
    rw [pL, Bool.and_eq_true] at h1 h2
    rw [cmpL] at h
    cases e0 : ordN (tagD x) (tagD y) with
    | lt => rw [e0] at h; cases h
    | gt => rw [e0] at h; cases h
    | eq =>
      rw [e0] at h
      cases e1 : inD x y with
      | lt => rw [e1] at h; cases h
      | gt => rw [e1] at h; cases h
      | eq =>
        rw [e1] at h
        rw [pD_eq h1.1 h2.1 (ordN_eq.mp e0) e1, pL_eq h1.2 h2.2 h]
end
theorem pD_cmp {k k' : Nat} {a b : D} (h1 : pD k a = true) (h2 : pD k' b = true) : cmpD a b = .eq ↔ a = b := by
  constructor
  · intro h
    unfold cmpD at h
    cases e0 : ordN (tagD a) (tagD b) with
    | lt => rw [e0] at h; cases h
    | gt => rw [e0] at h; cases h
    | eq => rw [e0] at h; exact pD_eq h1 h2 (ordN_eq.mp e0) h
  · rintro rfl; exact cmpD_rfl a
/-! those that may be compared by < -/
mutual
def okD : D → D → Bool
  | .int _, .int _ => true
  | .str _, .str _ => true
  | .tup xs, .tup ys => okL xs ys
  | _, _ => false
def okL : List D → List D → Bool
  | x :: xs, y :: ys => okD x y && okL xs ys
  | _, _ => true
end
theorem okL_at : ∀ {xs ys : List D} {j : Nat} {x y : D}, okL xs ys = true → xs[j]? = some x → ys[j]? = some y → okD x y = true
  | [], _, _, _, _, _, e, _ => by simp at e
  | _ :: _, [], _, _, _, _, _, e => by simp at e
  | x :: xs, y :: ys, 0, _, _, h, e1, e2 => by
    simp at e1 e2; subst e1; subst e2
    rw [okL, Bool.and_eq_true] at h; exact h.1
  | x :: xs, y :: ys, j + 1, _, _, h, e1, e2 => by
    rw [okL, Bool.and_eq_true] at h
    exact okL_at h.2 (by simpa using e1) (by simpa using e2)
theorem okD_tag {x y : D} (h : okD x y = true) : tagD x = tagD y ∧ tagD x < 3 := by
  cases x <;> cases y <;> simp [okD, tagD] at h ⊢

/-! sorted, as a function -/
def leD (a b : D) : Bool := !ltD b a
theorem leD_iff {a b : D} : leD a b = true ↔ ltD b a = false := by unfold leD; simp
def srtD (ds : List D) : List D := ds.mergeSort leD
theorem srtD_perm {ds : List D} : (srtD ds).Perm ds := List.mergeSort_perm ds leD
theorem srtD_len {ds : List D} : (srtD ds).length = ds.length := srtD_perm.length_eq
theorem srtD_srt {ds : List D} : (srtD ds).Pairwise fun a b => leD a b = true := by
  refine List.pairwise_mergeSort (fun a b c h1 h2 => ?_) (fun a b => ?_) ds
  · rw [leD_iff] at *; exact ltD_tr h1 h2
  · rw [Bool.or_eq_true, leD_iff, leD_iff]
    cases h : ltD b a with
    | false => exact .inl rfl
    | true => exact .inr (ltD_asym h)
theorem srtD_uniq {k : Nat} {ds es : List D} (hp : es.Perm ds) (hs : es.Pairwise fun a b => leD a b = true) (hk : pL k ds = true) : es = srtD ds := by
  refine List.Perm.eq_of_pairwise (le := fun a b => leD a b = true) (fun a b ha hb h1 h2 => ?_) hs srtD_srt (hp.trans srtD_perm.symm)
  rw [leD_iff] at h1 h2
  have pa := pL_all.mp hk a (hp.mem_iff.mp ha)
  have pb := pL_all.mp hk b (srtD_perm.mem_iff.mp hb)
  refine (pD_cmp pa pb).mp ?_
  cases e : cmpD a b with
  | lt => rw [ltD_iff.mpr e] at h2; cases h2
  | eq => rfl
  | gt => rw [ltD_iff.mpr (cmpD_lt_gt.mpr e)] at h1; cases h1
end VL

namespace VL
open PySem PySem.Spec PyProof.Rows L2

/-! ### plain data as it lies in the heap -/
mutual
def DatH (h : Heap) : D → Value → Prop
  | .int i, v => ∃ t, v = .int i t
  | .str x, v => ∃ t, v = .str x t
  | .tup ds, v => ∃ a items, v = .ref a ∧ h.IsTuple a items ∧ DatL h ds items.toList
  | _, _ => False
def DatL (h : Heap) : List D → List Value → Prop
  | [], vs => vs = []
  | d :: ds, vs => ∃ u us, vs = u :: us ∧ DatH h d u ∧ DatL h ds us
end
theorem datH_int {h : Heap} {i : Int} {v : Value} : DatH h (.int i) v = ∃ t, v = .int i t := by rw [DatH]
theorem datH_str {h : Heap} {i : Str} {v : Value} : DatH h (.str i) v = ∃ t, v = .str i t := by rw [DatH]
theorem datL_nil {h : Heap} {vs : List Value} : DatL h [] vs = (vs = []) := by rw [DatL]
theorem datL_cons {h : Heap} {d : D} {ds : List D} {vs : List Value} : DatL h (d :: ds) vs = ∃ u us, vs = u :: us ∧ DatH h d u ∧ DatL h ds us := by rw [DatL]
theorem DatL.len {h : Heap} : ∀ {ds : List D} {vs : List Value}, DatL h ds vs → ds.length = vs.length
  | [], _, r => by rw [DatL] at r; rw [r]; rfl
  | d :: ds, _, r => by
    rw [DatL] at r
    obtain ⟨u, us, rfl, _, r⟩ := r
    rw [List.length_cons, List.length_cons, DatL.len r]
theorem DatL.at {h : Heap} : ∀ {ds : List D} {vs : List Value} {j : Nat} {v : Value}, DatL h ds vs → vs[j]? = some v → ∃ d, ds[j]? = some d ∧ DatH h d v
  | [], _, _, _, r, e => by rw [DatL] at r; rw [r] at e; simp at e
  | d :: ds, _, 0, _, r, e => by
    rw [DatL] at r
    obtain ⟨u, us, rfl, r1, r⟩ := r
    simp at e; subst e
    exact ⟨d, rfl, r1⟩
  | d :: ds, _, j + 1, _, r, e => by
    rw [DatL] at r
    obtain ⟨u, us, rfl, r1, r⟩ := r
    obtain ⟨d', e1, r2⟩ := DatL.at r (by simpa using e)
    exact ⟨d', by simpa using e1, r2⟩
mutual
theorem DatH.keep {h h' : Heap} (k : ∀ b o, h.get? b = some o → o.cls = .type "tuple" → h'.get? b = some o) : ∀ {d : D} {v : Value}, DatH h d v → DatH h' d v
  | .int i, _, r => by rw [DatH] at *; exact r
  | .str i, _, r => by rw [DatH] at *; exact r
  | .tup ds, _, r => by
    rw [DatH] at *
    obtain ⟨a, items, e, ⟨o, ho, hc, n, hd⟩, r⟩ := r
    exact ⟨a, items, e, ⟨o, k _ _ ho hc, hc, n, hd⟩, DatL.keep k r⟩
  | .unk, _, r => by rw [DatH] at r <;> simp at * 
  | .non, _, r => by rw [DatH] at r <;> simp at *
  | .bl _, _, r => by rw [DatH] at r <;> simp at *
  | .lst _ _, _, r => by rw [DatH] at r <;> simp at *
  | .dK _ _ _, _, r => by rw [DatH] at r <;> simp at *
  | .dT _ _ _, _, r => by rw [DatH] at r <;> simp at *
  | .exc _ _, _, r => by rw [DatH] at r <;> simp at *
theorem DatL.keep {h h' : Heap} (k : ∀ b o, h.get? b = some o → o.cls = .type "tuple" → h'.get? b = some o) : ∀ {ds : List D} {vs : List Value}, DatL h ds vs → DatL h' ds vs
  | [], _, r => by rw [DatL] at *; exact r
  | d :: ds, _, r => by
    rw [DatL] at *
    obtain ⟨u, us, e, r1, r⟩ := r
    exact ⟨u, us, e, DatH.keep k r1, DatL.keep k r⟩
end
theorem istup_inj {h : Heap} {a : Addr} {xs ys : Array Value} (x : h.IsTuple a xs) (y : h.IsTuple a ys) : xs = ys := by
  obtain ⟨o, e, _, n, d⟩ := x
  obtain ⟨o', e', _, n', d'⟩ := y
  rw [e] at e'; cases e'
  rw [d] at d'
  injection d'
mutual
theorem DatH.inj {h : Heap} : ∀ {d e : D} {v : Value}, DatH h d v → DatH h e v → d = e
  | .int i, e, _, r, q => by
    rw [DatH] at r
    obtain ⟨t, rfl⟩ := r
    cases e <;> rw [DatH] at q <;> first | (obtain ⟨t', q⟩ := q; injection q with q1; rw [q1]) | (obtain ⟨_, _, q, _⟩ := q; cases q) | (obtain ⟨_, q⟩ := q; cases q) | simp at *
  | .str i, e, _, r, q => by
    rw [DatH] at r
    obtain ⟨t, rfl⟩ := r
    cases e <;> rw [DatH] at q <;> first | (obtain ⟨t', q⟩ := q; injection q with q1; rw [q1]) | (obtain ⟨_, _, q, _⟩ := q; cases q) | (obtain ⟨_, q⟩ := q; cases q) | simp at *
  | .tup ds, e, _, r, q => by
    rw [DatH] at r
    obtain ⟨a, items, rfl, hi, r⟩ := r
    cases e with
    | tup es =>
      rw [DatH] at q
      obtain ⟨a', items', ea, hi', q⟩ := q
      injection ea with ea
      subst ea
      rw [istup_inj hi' hi] at q
      rw [DatL.inj r q]
    | int _ => rw [DatH] at q; obtain ⟨_, q⟩ := q; cases q
    | str _ => rw [DatH] at q; obtain ⟨_, q⟩ := q; cases q
    | _ => rw [DatH] at q <;> simp at *
  | .unk, _, _, r, _ => by rw [DatH] at r <;> simp at *
  | .non, _, _, r, _ => by rw [DatH] at r <;> simp at *
  | .bl _, _, _, r, _ => by rw [DatH] at r <;> simp at *
  | .lst _ _, _, _, r, _ => by rw [DatH] at r <;> simp at *
  | .dK _ _ _, _, _, r, _ => by rw [DatH] at r <;> simp at *
  | .dT _ _ _, _, _, r, _ => by rw [DatH] at r <;> simp at *
theorem DatL.inj {h : Heap} : ∀ {ds es : List D} {vs : List Value}, DatL h ds vs → DatL h es vs → ds = es
  | [], [], _, _, _ => rfl
  | [], e :: es, _, r, q => by
    rw [datL_nil] at r
    rw [datL_cons] at q
    obtain ⟨u, us, e1, _⟩ := q
    rw [r] at e1; cases e1
  | d :: ds, [], _, r, q => by
    rw [datL_nil] at q
    rw [datL_cons] at r
    obtain ⟨u, us, e1, _⟩ := r
    rw [q] at e1; cases e1
  | d :: ds, e :: es, _, r, q => by
    rw [DatL] at r q
    obtain ⟨u, us, rfl, r1, r⟩ := r
    obtain ⟨u', us', e1, q1, q⟩ := q
    cases e1
    rw [DatH.inj r1 q1, DatL.inj r q]
end
/-! equality and order of two lists, place by place -/
theorem all_cmpL : ∀ (xs ys : List D), ((List.range (min xs.length ys.length)).all (fun j => cmpD (xs.getD j .unk) (ys.getD j .unk) == .eq) && xs.length == ys.length) = (cmpL xs ys == .eq)
  | [], [] => by rw [cmpL]; rfl
  | [], y :: ys => by rw [cmpL]; simp
  | x :: xs, [] => by rw [cmpL]; simp
  | x :: xs, y :: ys => by
    rw [cmpL_cons, List.length_cons, List.length_cons, Nat.succ_min_succ, List.range_succ_eq_map, List.all_cons, List.all_map]
    have ih := all_cmpL xs ys
    have e : ((fun j => cmpD ((x :: xs).getD j .unk) ((y :: ys).getD j .unk) == .eq) ∘ Nat.succ) = fun j => cmpD (xs.getD j .unk) (ys.getD j .unk) == .eq := rfl
    rw [e]
    have e2 : (xs.length + 1 == ys.length + 1) = (xs.length == ys.length) := by
      by_cases h : xs.length = ys.length <;> simp [h]
    rw [e2, Bool.and_assoc, ih]
    show ((cmpD x y == .eq) && (cmpL xs ys == .eq)) = (thn (cmpD x y) (cmpL xs ys) == .eq)
    cases cmpD x y <;> simp [thn]
theorem lexAt_shift {e r : Nat → Bool} {z : Bool} : ∀ (k i : Nat), Ob.lexAt e r z (i + 1) k = Ob.lexAt (e ∘ Nat.succ) (r ∘ Nat.succ) z i k
  | 0, _ => rfl
  | k + 1, i => by
    rw [Ob.lexAt_succ, Ob.lexAt_succ, lexAt_shift k (i + 1)]
    rfl
theorem lex_cmpL : ∀ (xs ys : List D), Ob.lexAt (fun j => cmpD (xs.getD j .unk) (ys.getD j .unk) == .eq) (fun j => cmpD (xs.getD j .unk) (ys.getD j .unk) == .lt) (decide (xs.length < ys.length)) 0 (min xs.length ys.length) = (cmpL xs ys == .lt)
  | [], [] => by rw [cmpL]; rfl
  | [], y :: ys => by rw [cmpL]; simp [Ob.lexAt]
  | x :: xs, [] => by rw [cmpL]; simp [Ob.lexAt]
  | x :: xs, y :: ys => by
    rw [cmpL_cons, List.length_cons, List.length_cons, Nat.succ_min_succ, Ob.lexAt_succ, lexAt_shift]
    have ih := lex_cmpL xs ys
    have e : ((fun j => cmpD ((x :: xs).getD j .unk) ((y :: ys).getD j .unk) == .eq) ∘ Nat.succ) = fun j => cmpD (xs.getD j .unk) (ys.getD j .unk) == .eq := rfl
    have e' : ((fun j => cmpD ((x :: xs).getD j .unk) ((y :: ys).getD j .unk) == .lt) ∘ Nat.succ) = fun j => cmpD (xs.getD j .unk) (ys.getD j .unk) == .lt := rfl
    have e2 : decide (xs.length + 1 < ys.length + 1) = decide (xs.length < ys.length) := by
      by_cases h : xs.length < ys.length <;> simp [h]
    rw [e, e', e2, ih]
    show (if (cmpD x y == .eq) = true then (cmpL xs ys == .lt) else (cmpD x y == .lt)) = (thn (cmpD x y) (cmpL xs ys) == .lt)
    cases cmpD x y <;> simp [thn]
theorem getD_of {xs : List D} {j : Nat} {d : D} (e : xs[j]? = some d) : xs.getD j .unk = d := by rw [List.getD_eq_getElem?_getD, e]; rfl
section
variable {s : Shared}
open SeqAt
theorem cmp_tag_ne {d e : D} (h : tagD d ≠ tagD e) : (cmpD d e == .eq) = false := by
  have : cmpD d e ≠ .eq := fun z => by
    unfold cmpD at z
    cases e0 : ordN (tagD d) (tagD e) with
    | lt => rw [e0] at z; cases z
    | gt => rw [e0] at z; cases z
    | eq => exact h (ordN_eq.mp e0)
  simpa using this
theorem cmp_int {i j : Int} : cmpD (.int i) (.int j) = ordZ i j := by unfold cmpD; rw [inD, show ordN (tagD (.int i)) (tagD (.int j)) = .eq from ordN_eq.mpr rfl]; rfl
theorem cmp_str {i j : Str} : cmpD (.str i) (.str j) = ordS i j := by unfold cmpD; rw [inD, show ordN (tagD (.str i)) (tagD (.str j)) = .eq from ordN_eq.mpr rfl]; rfl
theorem cmp_tup {i j : List D} : cmpD (.tup i) (.tup j) = cmpL i j := by unfold cmpD; rw [inD, show ordN (tagD (.tup i)) (tagD (.tup j)) = .eq from ordN_eq.mpr rfl]; rfl
theorem ordZ_beq {i j : Int} : (ordZ i j == .eq) = (i == j) := by
  rw [Bool.eq_iff_iff]; simp [ordZ_eq]
theorem ordS_beq {i j : Str} : (ordS i j == .eq) = (i == j) := by
  rw [Bool.eq_iff_iff]; simp [ordS_eq]
theorem ordZ_lt {i j : Int} : (ordZ i j == .lt) = decide (i < j) := by
  rw [Bool.eq_iff_iff]; simp [ordZ, ord2_lt]
theorem ordS_lt {i j : Str} : (ordS i j == .lt) = decide (i.cps.toList < j.cps.toList) := by
  rw [Bool.eq_iff_iff]; simp [ordS, ord2_lt]
theorem dat_eq : ∀ (k : Nat) {A : Around} {d e : D} {v u : Value}, pD k d = true → pD k e = true → DatH s.heap d v → DatH s.heap e u → A.units + k < cLine → EqAt A s v u (cmpD d e == .eq) := by
  intro k
  induction k with
  | zero =>
    intro A d e v u h1 h2 r q hu
    cases d <;> simp only [pD, Bool.false_eq_true] at h1 <;> cases e <;> simp only [pD, Bool.false_eq_true] at h2 <;> simp only [datH_int, datH_str] at r q <;> obtain ⟨t, rfl⟩ := r <;> obtain ⟨t', rfl⟩ := q
    · rw [cmp_int, ordZ_beq]; exact EqAt.int_int _ _ _ _
    · rw [cmp_tag_ne (by simp [tagD])]; exact EqAt.int_str _ _ _ _
    · rw [cmp_tag_ne (by simp [tagD])]; exact EqAt.str_int _ _ _ _
    · rw [cmp_str, ordS_beq]; exact EqAt.str_str _ _ _ _
  | succ k ih =>
    intro A d e v u h1 h2 r q hu
    cases d with
    | int i =>
      rw [DatH] at r
      obtain ⟨t, rfl⟩ := r
      cases e with
      | int j => rw [DatH] at q; obtain ⟨t', rfl⟩ := q; rw [cmp_int, ordZ_beq]; exact EqAt.int_int _ _ _ _
      | str j => rw [DatH] at q; obtain ⟨t', rfl⟩ := q; rw [cmp_tag_ne (by simp [tagD])]; exact EqAt.int_str _ _ _ _
      | tup j => rw [DatH] at q; obtain ⟨a, items, rfl, hi, _⟩ := q; rw [cmp_tag_ne (by simp [tagD])]; exact EqAt.int_tuple _ _ hi (by omega)
      | _ => simp [pD] at h2
    | str i =>
      rw [DatH] at r
      obtain ⟨t, rfl⟩ := r
      cases e with
      | int j => rw [DatH] at q; obtain ⟨t', rfl⟩ := q; rw [cmp_tag_ne (by simp [tagD])]; exact EqAt.str_int _ _ _ _
      | str j => rw [DatH] at q; obtain ⟨t', rfl⟩ := q; rw [cmp_str, ordS_beq]; exact EqAt.str_str _ _ _ _
      | tup j => rw [DatH] at q; obtain ⟨a, items, rfl, hi, _⟩ := q; rw [cmp_tag_ne (by simp [tagD])]; exact EqAt.str_tuple _ _ hi (by omega)
      | _ => simp [pD] at h2
    | tup ds =>
      rw [DatH] at r
      obtain ⟨a, items, rfl, hi, r⟩ := r
      cases e with
      | int j => rw [DatH] at q; obtain ⟨t', rfl⟩ := q; rw [cmp_tag_ne (by simp [tagD])]; exact EqAt.tuple_int _ _ hi (by omega)
      | str j => rw [DatH] at q; obtain ⟨t', rfl⟩ := q; rw [cmp_tag_ne (by simp [tagD])]; exact EqAt.tuple_str _ _ hi (by omega)
      | tup es =>
        rw [DatH] at q
        obtain ⟨a', items', rfl, hi', q⟩ := q
        rw [pD_tup] at h1 h2
        by_cases ea : a = a'
        · subst ea
          rw [istup_inj hi' hi] at q
          rw [r.inj q, cmpD_rfl]
          exact EqAt.same _
        · refine EqAt.of_refs ea ?_
          have l1 : ds.length = items.size := r.len.trans Array.length_toList
          have l2 : es.length = items'.size := q.len.trans Array.length_toList
          have z := RcAt.tuples (A := A) (e := fun j => cmpD (ds.getD j .unk) (es.getD j .unk) == .eq) hi hi' (by omega) fun j j1 j2 => by
            obtain ⟨d', e1, r1⟩ := r.at (j := j) (v := items[j]) (by rw [Array.getElem?_toList]; exact Array.getElem?_eq_getElem j1)
            obtain ⟨e', e2, q1⟩ := q.at (j := j) (v := items'[j]) (by rw [Array.getElem?_toList]; exact Array.getElem?_eq_getElem j2)
            rw [getD_of e1, getD_of e2]
            exact ih (pL_at h1 e1) (pL_at h2 e2) r1 q1 (by show A.units + 1 + k < cLine; omega)
          rw [cmp_tup, ← all_cmpL, l1, l2]
          exact z
      | _ => simp [pD] at h2
    | _ => simp [pD] at h1
theorem dat_lt : ∀ (k : Nat) {A : Around} {d e : D} {v u : Value}, pD k d = true → pD k e = true → okD d e = true → DatH s.heap d v → DatH s.heap e u → A.units + k < cLine → Ob.RcOp .Lt A s v u (cmpD d e == .lt) := by
  intro k
  induction k with
  | zero =>
    intro A d e v u h1 h2 ok r q hu
    cases d <;> simp only [pD, Bool.false_eq_true] at h1 <;> cases e <;> simp only [pD, Bool.false_eq_true] at h2 <;> simp only [okD, Bool.false_eq_true] at ok <;> simp only [datH_int, datH_str] at r q <;> obtain ⟨t, rfl⟩ := r <;> obtain ⟨t', rfl⟩ := q
    · rw [cmp_int, ordZ_lt]; exact Ob.RcOp.lt_int _ _ _ _
    · rw [cmp_str, ordS_lt]; exact fun _ _ _ _ h => PyProof.Rows.lt_str h
  | succ k ih =>
    intro A d e v u h1 h2 ok r q hu
    cases d with
    | int i =>
      cases e <;> simp only [okD, Bool.false_eq_true] at ok
      rw [DatH] at r q; obtain ⟨t, rfl⟩ := r; obtain ⟨t', rfl⟩ := q
      rw [cmp_int, ordZ_lt]; exact Ob.RcOp.lt_int _ _ _ _
    | str i =>
      cases e <;> simp only [okD, Bool.false_eq_true] at ok
      rw [DatH] at r q; obtain ⟨t, rfl⟩ := r; obtain ⟨t', rfl⟩ := q
      rw [cmp_str, ordS_lt]; exact fun _ _ _ _ h => PyProof.Rows.lt_str h
    | tup ds =>
      cases e with
      | tup es =>
        rw [DatH] at r q
        obtain ⟨a, items, rfl, hi, r⟩ := r
        obtain ⟨a', items', rfl, hi', q⟩ := q
        rw [pD_tup] at h1 h2
        rw [okD] at ok
        have l1 : ds.length = items.size := r.len.trans Array.length_toList
        have l2 : es.length = items'.size := q.len.trans Array.length_toList
        have z := Ob.RcOp.tuples_lt (A := A) (e := fun j => cmpD (ds.getD j .unk) (es.getD j .unk) == .eq) (r := fun j => cmpD (ds.getD j .unk) (es.getD j .unk) == .lt) hi hi' (by omega) (fun j j1 j2 => by
            obtain ⟨d', e1, r1⟩ := r.at (j := j) (v := items[j]) (by rw [Array.getElem?_toList]; exact Array.getElem?_eq_getElem j1)
            obtain ⟨e', e2, q1⟩ := q.at (j := j) (v := items'[j]) (by rw [Array.getElem?_toList]; exact Array.getElem?_eq_getElem j2)
            rw [getD_of e1, getD_of e2]
            exact dat_eq k (pL_at h1 e1) (pL_at h2 e2) r1 q1 (by show A.units + 1 + k < cLine; omega)) (fun j j1 j2 _ => by
            obtain ⟨d', e1, r1⟩ := r.at (j := j) (v := items[j]) (by rw [Array.getElem?_toList]; exact Array.getElem?_eq_getElem j1)
            obtain ⟨e', e2, q1⟩ := q.at (j := j) (v := items'[j]) (by rw [Array.getElem?_toList]; exact Array.getElem?_eq_getElem j2)
            rw [getD_of e1, getD_of e2]
            exact ih (pL_at h1 e1) (pL_at h2 e2) (okL_at ok e1 e2) r1 q1 (by show A.units + 1 + k < cLine; omega))
        rw [cmp_tup, ← lex_cmpL, l1, l2]
        exact z
      | _ => simp [okD] at ok
    | _ => simp [pD] at h1
end
end VL

namespace VL
open PySem PySem.Spec PyProof.Rows L2

/-! ### sorted over plain data of any length -/
structure SrtOk (ds : List D) : Prop where
  kind : 2 ≤ ds.length → (∀ d ∈ ds, tagD d = 0) ∨ (∀ d ∈ ds, tagD d = 1) ∨ ∃ t, t < 3 ∧ ∀ d ∈ ds, ∃ x xs, d = .tup (x :: xs) ∧ tagD x = t
  ok : ∀ d ∈ ds, ∀ e ∈ ds, okD d e = true
open Classical in
noncomputable def decD (h : Heap) (v : Value) : D := if e : ∃ d, DatH h d v then e.choose else .unk
theorem decD_eq {h : Heap} {d : D} {v : Value} (r : DatH h d v) : decD h v = d := by
  unfold decD
  have e : ∃ d, DatH h d v := ⟨d, r⟩
  rw [dif_pos e]
  exact e.choose_spec.inj r
noncomputable def ltV (h : Heap) (v u : Value) : Bool := ltD (decD h v) (decD h u)
theorem ltV_swo (h : Heap) : SrtO.Swo (ltV h) := ⟨fun _ _ e => ltD_asym e, fun _ _ _ e1 e2 => ltD_tr e1 e2⟩
def tyN : Nat → String
  | 0 => "int" | 1 => "str" | _ => "tuple"
theorem looks_dat {M : Model} {h : Heap} {d : D} {v : Value} (r : DatH h d v) : PySem.W.Looks M h (typeOf v) (.type (tyN (tagD d))) := by
  cases d with
  | int i => rw [datH_int] at r; obtain ⟨t, rfl⟩ := r; exact .of_pure rfl
  | str i => rw [datH_str] at r; obtain ⟨t, rfl⟩ := r; exact .of_pure rfl
  | tup ds =>
    rw [DatH] at r
    obtain ⟨a, items, rfl, ⟨o, ho, hc, n, hd⟩, _⟩ := r
    have z : PySem.W.Looks M h (typeOf (.ref a)) o.cls := (PySem.W.Looks.ld ho).andThen .now
    rw [hc] at z
    exact z
  | _ => rw [DatH] at r <;> simp at *
theorem DatL.mem {h : Heap} {ds : List D} {vs : List Value} {v : Value} (r : DatL h ds vs) (hv : v ∈ vs) : ∃ d, d ∈ ds ∧ DatH h d v := by
  obtain ⟨j, hj⟩ := List.mem_iff_getElem?.mp hv
  obtain ⟨d, e, q⟩ := r.at hj
  exact ⟨d, List.mem_of_getElem? e, q⟩
theorem kat_dats {h : Heap} {t : Nat} : ∀ {ds : List D} {vs : List Value}, DatL h ds vs → (∀ d ∈ ds, ∃ x xs, d = .tup (x :: xs) ∧ tagD x = t) → ∃ fs, PySem.W.KatTups h vs fs ∧ fs.length = vs.length ∧ ∀ f ∈ fs, ∃ x, tagD x = t ∧ DatH h x f
  | [], _, r, _ => by rw [datL_nil] at r; subst r; exact ⟨[], trivial, rfl, fun _ hf => absurd hf (by simp)⟩
  | d :: ds, _, r, hd => by
    rw [datL_cons] at r
    obtain ⟨u, us, rfl, r1, r⟩ := r
    obtain ⟨fs, k1, k2, k3⟩ := kat_dats r fun e he => hd e (List.mem_cons_of_mem _ he)
    obtain ⟨x, xs, rfl, hx⟩ := hd d List.mem_cons_self
    rw [DatH] at r1
    obtain ⟨a, items, rfl, ⟨o, ho, hc, n, hdd⟩, r1⟩ := r1
    rw [datL_cons] at r1
    obtain ⟨f, rest, ef, rf, _⟩ := r1
    refine ⟨f :: fs, PySem.W.KatTups.cons ho hc hdd ?_ k1, by rw [List.length_cons, List.length_cons, k2], fun g hg => ?_⟩
    · rw [← Array.getElem?_toList, ef]; rfl
    · rcases List.mem_cons.mp hg with rfl | hg
      · exact ⟨x, hx, rf⟩
      · exact k3 g hg
section
variable {prog : Program} {w : World} {A : Around} {E : Value → Shared → Prop} {s : Shared}
theorem one_dat {k : Nat} (c : Bool) {d e : D} {v u : Value} {Q : Bool → Shared → Prop} (h1 : pD k d = true) (h2 : pD k e = true) (ok : okD d e = true) (hc : c = true → tagD d ≠ 2) (r : DatH s.heap d v) (q : DatH s.heap e u) (hu : A.units + k < cLine) (h : Q (ltD d e) s) :
    wpAny (model prog w) A (oneLt' c v u) Q E s := by
  cases c with
  | false =>
    refine PySem.W.kat_one _ _ (dat_lt k h1 h2 ok r q hu prog w _ _ ?_)
    exact h
  | true =>
    cases d with
    | int i =>
      cases e <;> simp only [okD, Bool.false_eq_true] at ok
      rw [datH_int] at r q; obtain ⟨t, rfl⟩ := r; obtain ⟨t', rfl⟩ := q
      refine oneLt_int ?_
      unfold ltD at h
      rw [cmp_int, ordZ_lt] at h; exact h
    | str i =>
      cases e <;> simp only [okD, Bool.false_eq_true] at ok
      rw [datH_str] at r q; obtain ⟨t, rfl⟩ := r; obtain ⟨t', rfl⟩ := q
      refine oneLt_str ?_
      unfold ltD at h
      rw [cmp_str, ordS_lt] at h; exact h
    | tup ds => exact absurd rfl (hc rfl)
    | _ => rw [DatH] at r <;> simp at *
theorem kat_lex {k : Nat} {b : Bool} {Q : Bool → Shared → Prop} (hu : A.units + k < cLine) : ∀ {ds es : List D} {vs us : List Value} {i : Nat}, pL k ds = true → pL k es = true → okL ds es = true → DatL s.heap ds vs → DatL s.heap es us →
    (b = true → i = 0 → ∀ x, ds[0]? = some x → tagD x ≠ 2) → Q (cmpL ds es == .lt) s → PySem.W.KatLex prog w A b (decide (ds.length < es.length)) Q (vs.zip us) i s
  | [], es, vs, us, i, _, _, _, r, q, _, h => by
    rw [datL_nil] at r; subst r
    rw [List.zip_nil_left]
    refine PySem.W.kat_nil ?_
    cases es with
    | nil => rw [cmpL] at h; simpa using h
    | cons e es => rw [cmpL] at h; simpa using h
  | d :: ds, [], vs, us, i, _, _, _, r, q, _, h => by
    rw [datL_nil] at q; subst q
    rw [List.zip_nil_right]
    refine PySem.W.kat_nil ?_
    rw [cmpL] at h; simpa using h
  | d :: ds, e :: es, vs, us, i, h1, h2, ok, r, q, hb, h => by
    rw [datL_cons] at r q
    obtain ⟨v, vs, rfl, r1, r⟩ := r
    obtain ⟨u, us, rfl, q1, q⟩ := q
    rw [pL, Bool.and_eq_true] at h1 h2
    rw [okL, Bool.and_eq_true] at ok
    rw [List.zip_cons_cons]
    rw [cmpL_cons] at h
    refine PySem.W.kat_cons (dat_eq k h1.1 h2.1 r1 q1 hu prog w _ _ ?_)
    have efin : decide ((d :: ds).length < (e :: es).length) = decide (ds.length < es.length) := by
      rw [List.length_cons, List.length_cons]
      by_cases hh : ds.length < es.length <;> simp [hh]
    rw [efin]
    refine PySem.W.kat_go (fun e1 => ?_) (fun e1 => ?_)
    · have ec : cmpD d e = .eq := by simpa using e1
      rw [ec] at h
      exact PySem.W.kat_yes (kat_lex hu h1.2 h2.2 ok.2 r q (fun _ z => absurd z (by omega)) h)
    · have ec : cmpD d e ≠ .eq := by simpa using e1
      refine PySem.W.kat_no (one_dat (k := k) _ h1.1 h2.1 ok.1 (fun hc => ?_) r1 q1 hu ?_)
      · rw [Bool.and_eq_true] at hc
        exact hb hc.1 (by simpa using hc.2) d rfl
      · unfold ltD
        have : (thn (cmpD d e) (cmpL ds es) == .lt) = (cmpD d e == .lt) := by cases ec' : cmpD d e <;> simp [thn]; exact absurd ec' ec
        rw [this] at h
        exact h
theorem dat_cmp {k : Nat} {h0 : Heap} {b : Bool} {κ : SortKind} {ds : List D} {vs : List Value} (r0 : DatL h0 ds vs) (r : DatL s.heap ds vs) (hk : pL k ds = true) (ok : ∀ d ∈ ds, ∀ e ∈ ds, okD d e = true)
    (hκ : (κ = oneType' ∧ (∀ d ∈ ds, tagD d ≠ 2)) ∨ (κ = tuples' b ∧ ∀ d ∈ ds, ∃ x xs, d = .tup (x :: xs) ∧ (b = true → tagD x ≠ 2))) (hu : A.units + k < cLine) : SrtO.Cmp prog w A s κ (fun p => p.1 ∈ vs) (SrtO.lt2 (ltV h0)) := by
  intro p q hp hq
  obtain ⟨j, hj⟩ := List.mem_iff_getElem?.mp hp
  obtain ⟨j', hj'⟩ := List.mem_iff_getElem?.mp hq
  obtain ⟨d, ed, rd⟩ := r.at hj
  obtain ⟨e, ee, re⟩ := r.at hj'
  obtain ⟨d0, ed0, rd0⟩ := r0.at hj
  obtain ⟨e0, ee0, re0⟩ := r0.at hj'
  rw [ed] at ed0; cases ed0
  rw [ee] at ee0; cases ee0
  have hd := List.mem_of_getElem? ed
  have he := List.mem_of_getElem? ee
  show wpAny (model prog w) A (keyLt' κ p.1 q.1) (fun r s' => s' = s ∧ r = ltD (decD h0 p.1) (decD h0 q.1)) (fun _ _ => False) s
  rw [decD_eq rd0, decD_eq re0]
  rcases hκ with ⟨rfl, ht⟩ | ⟨rfl, ht⟩
  · rw [keyLt'_oneType]
    exact one_dat (k := k) true (pL_at hk ed) (pL_at hk ee) (ok d hd e he) (fun _ => ht d hd) rd re hu ⟨rfl, rfl⟩
  · obtain ⟨x, xs, rfl, hx⟩ := ht d hd
    obtain ⟨y, ys, rfl, _⟩ := ht e he
    rw [DatH] at rd re
    obtain ⟨a, items, ea, ⟨o, ho, hc, n, hdd⟩, rl⟩ := rd
    obtain ⟨a', items', ea', ⟨o', ho', hc', n', hdd'⟩, ql⟩ := re
    rw [ea, ea']
    refine PySem.W.kat_lt ho hdd ho' hdd' ?_
    have p1 := pL_at hk ed
    have p2 := pL_at hk ee
    have ok' := ok _ hd _ he
    rw [okD] at ok'
    have l1 : (x :: xs).length = items.size := rl.len.trans Array.length_toList
    have l2 : (y :: ys).length = items'.size := ql.len.trans Array.length_toList
    cases k with
    | zero => simp [pD] at p1
    | succ k =>
      rw [pD_tup] at p1 p2
      rw [← l1, ← l2]
      refine kat_lex (k := k) (by omega) p1 p2 ok' rl ql (fun hb _ z hz => ?_) ⟨rfl, ?_⟩
      · cases hz; exact hx hb
      · unfold ltD; rw [cmp_tup]
theorem dat_sortable {k : Nat} {h0 : Heap} {a : Addr} {ds : List D} {vs : List Value} (r0 : DatL h0 ds vs) (r : DatL s.heap ds vs) (hk : pL k ds = true) (S : SrtOk ds) (h2 : 2 ≤ vs.length) (ha : ∀ o, s.heap.get? a = some o → o.cls ≠ .type "tuple") (hu : A.units + k < cLine) :
    SrtO.SortableO prog w A s a vs (ltV h0) := by
  intro h' keep
  have r' : DatL h' ds vs := r.keep fun b o e c => keep b o (fun z => by subst z; exact ha o e c) e
  rcases S.kind (by rw [r0.len]; exact h2) with ht | ht | ⟨t, ht3, ht⟩
  · refine ⟨oneType', fun Q E hq => ?_, dat_cmp (s := { s with heap := h' }) (b := true) r0 r' hk S.ok (.inl ⟨rfl, fun d hd => by rw [ht d hd]; decide⟩) hu⟩
    refine PySem.W.kas_kind (T := .type "int") h2 (fun v hv => ?_) (by first | rfl | decide) (by rfl) hq
    obtain ⟨d, hd, rd⟩ := r'.mem hv
    have := looks_dat (M := model prog w) rd
    rw [ht d hd] at this
    exact this
  · refine ⟨oneType', fun Q E hq => ?_, dat_cmp (s := { s with heap := h' }) (b := true) r0 r' hk S.ok (.inl ⟨rfl, fun d hd => by rw [ht d hd]; decide⟩) hu⟩
    refine PySem.W.kas_kind (T := .type "str") h2 (fun v hv => ?_) (by first | rfl | decide) (by rfl) hq
    obtain ⟨d, hd, rd⟩ := r'.mem hv
    have := looks_dat (M := model prog w) rd
    rw [ht d hd] at this
    exact this
  · obtain ⟨fs, k1, k2, k3⟩ := kat_dats r' ht
    refine ⟨tuples' (Value.type (tyN t) != Value.type "tuple"), fun Q E hq => ?_, dat_cmp (s := { s with heap := h' }) (b := Value.type (tyN t) != Value.type "tuple") r0 r' hk S.ok (.inr ⟨rfl, fun d hd => ?_⟩) hu⟩
    · refine PySem.W.kat_kind (T := .type (tyN t)) k1 (by omega) (fun f hf => ?_) (by have : t = 0 ∨ t = 1 ∨ t = 2 := by omega
                                                                                      rcases this with rfl | rfl | rfl <;> rfl) hq
      obtain ⟨x, hx, rx⟩ := k3 f hf
      have := looks_dat (M := model prog w) rx
      rw [hx] at this
      exact this
    · obtain ⟨x, xs, e, hx⟩ := ht d hd
      refine ⟨x, xs, e, fun hb => ?_⟩
      rw [hx]
      rintro rfl
      exact absurd hb (by simp [tyN])
/-- sorted(l), l a list or a tuple -/
theorem sorted_seq {l : Addr} {T : String} {o : Obj} {items : Array Value} {n : Nat} {ltv : Value → Value → Bool} {Q : Value → Shared → Prop} (O : SrtO.Swo ltv) (hT : T = "list" ∨ T = "tuple") (ho : s.heap.get? l = some o) (hc : o.cls = .type T) (hd : o.data = .seq items n) (hz : items.size ≤ sizeLine)
    (hS : 2 ≤ items.toList.length → ∀ (h₁ : Heap) (a : Addr), h₁.get? a = some (seqObj "list" items 0) → (∀ b o, s.heap.get? b = some o → b ≠ a ∧ h₁.get? b = some o) → SrtO.SortableO prog w A.in1.in1 { s with heap := h₁ } a items.toList ltv)
    (h : ∀ (h1 : Heap) (out : List Value) (h' : Heap) (d : Addr), (∀ b o, s.heap.get? b = some o → h1.get? b = some o) → SrtO.Srtd ltv out → SrtO.Stb ltv out items.toList → (∀ b o, h1.get? b = some o → h'.get? b = some o) → h1.objs.size ≤ d → (∃ m, h'.get? d = some (seqObj "list" out.toArray m)) → Q (.ref d) { s with heap := h' }) :
    wpAny (model prog w) A (call (.builtin "sorted") [.ref l]) Q E s := by
  refine Calls.call_function_entry kind_sorted plain_sorted entry_sorted (args_sorted1 _) ?_
  unfold Builtin.«sorted»
  refine wpAny_bind (m := checkCount "sorted" 1 1 _) (wpAny_pure ?_)
  refine wpAny_bind (wpAny_collect_seq l hT ho hc hd (fun h1 k1 => ?_) hz)
  have hz' : items.toList.length ≤ sizeLine := by rw [Array.length_toList]; exact hz
  refine wpAny_bind (wpAny_newList ?_ hz')
  have hoL : (h1.push (seqObj "list" items.toList.toArray 0)).get? h1.objs.size = some (seqObj "list" items.toList.toArray 0) := Heap.get?_push_size _ rfl
  have keep : ∀ b o, s.heap.get? b = some o → b ≠ h1.objs.size ∧ (h1.push (seqObj "list" items.toList.toArray 0)).get? b = some o := fun b o q => by
    have q1 := k1 b o q
    exact ⟨Nat.ne_of_lt (Heap.lt_size q1), Heap.get?_push_of_some _ q1⟩
  refine wpAny_bind (wpAny_holding (wpAny_call_entry slot_list_sort ⟨_, hoL, rfl⟩ entry_list_sort (SrtO.list_sort_ord O hoL hz' (fun h2 => ?_) fun out hs hb => ⟨_, rfl, ?_⟩) (args_list_sort _)))
  · have e : items.toList.toArray = items := by simp
    exact hS h2 _ _ (by rw [← e]; exact hoL) keep
  · refine wpAny_pure ⟨_, rfl, h h1 out _ h1.objs.size k1 hs hb (fun b o q => ?_) (Nat.le_refl _) (sortedHeap_at hoL)⟩
    have q1 : b ≠ h1.objs.size := Nat.ne_of_lt (Heap.lt_size q)
    have q2 : (h1.push (seqObj "list" items.toList.toArray 0)).get? b = some o := Heap.get?_push_of_some _ q
    show (sortedHeap (h1.push (seqObj "list" items.toList.toArray 0)) h1.objs.size items.toList out.toArray).get? b = some o
    rw [sortedHeap_old q1 (Heap.lt_size q2)]
    exact q2
end

/-! ### as a rule over trees -/
theorem datH_of {X : Cx} {K : PySem.W.Frag} {F : Hp} {pins : List (Addr × Obj)} {σ : L2.St} {H : Hp} {s : Shared} (hK : X.K = K) (I : Inv X pins σ H s) (sub : Sub F H) : ∀ {k : Nat} {d : D} {v : V} {u : Value} {fp : List Addr}, pD k d = true → Rep K F H d v fp → RelV v u → DatH s.heap d u := by
  intro k
  subst hK
  induction k with
  | zero =>
    intro d v u fp hk r q
    cases d <;> simp only [pD, Bool.false_eq_true] at hk
    · rw [Rep] at r; obtain ⟨rfl, _⟩ := r; obtain ⟨t, rfl⟩ := q; rw [datH_int]; exact ⟨t, rfl⟩
    · rw [Rep] at r; obtain ⟨rfl, _⟩ := r; obtain ⟨t, rfl⟩ := q; rw [datH_str]; exact ⟨t, rfl⟩
  | succ k ih =>
    intro d v u fp hk r q
    cases d with
    | int i => rw [Rep] at r; obtain ⟨rfl, _⟩ := r; obtain ⟨t, rfl⟩ := q; rw [datH_int]; exact ⟨t, rfl⟩
    | str i => rw [Rep] at r; obtain ⟨rfl, _⟩ := r; obtain ⟨t, rfl⟩ := q; rw [datH_str]; exact ⟨t, rfl⟩
    | tup ds =>
      rw [Rep] at r
      obtain ⟨a, vs, rfl, hs, rl⟩ := r
      obtain rfl : u = Value.ref a := q
      obtain ⟨its, rv, pt, hz0⟩ := I.tuple (sub.seqT hs.sq)
      clear hz0
      rw [DatH]
      refine ⟨a, its.toArray, rfl, pt, ?_⟩
      rw [pD_tup] at hk
      have e : its.toArray.toList = its := by simp
      rw [e]
      clear hs pt e
      induction ds generalizing vs its fp with
      | nil => rw [RepL] at rl; obtain ⟨rfl, _⟩ := rl; cases rv; rw [datL_nil]
      | cons d ds ih2 =>
        rw [RepL] at rl
        obtain ⟨v, vs', f1, f2, rfl, rfl, r1, r2⟩ := rl
        cases rv with
        | cons q1 q2 =>
          rw [pL, Bool.and_eq_true] at hk
          rw [datL_cons]
          exact ⟨_, _, rfl, ih hk.1 r1 q1, ih2 hk.2 _ r2 _ q2⟩
    | _ => simp [pD] at hk
theorem datL_of {X : Cx} {K : PySem.W.Frag} {F : Hp} {pins : List (Addr × Obj)} {σ : L2.St} {H : Hp} {s : Shared} (hK : X.K = K) (I : Inv X pins σ H s) (sub : Sub F H) {k : Nat} : ∀ {ds : List D} {vs : List V} {us : List Value} {fp : List Addr}, pL k ds = true → RepL K F H ds vs fp → Vals vs us → DatL s.heap ds us
  | [], _, _, _, _, rl, rv => by rw [RepL] at rl; obtain ⟨rfl, _⟩ := rl; cases rv; rw [datL_nil]
  | d :: ds, _, _, _, hk, rl, rv => by
    rw [RepL] at rl
    obtain ⟨v, vs', f1, f2, rfl, rfl, r1, r2⟩ := rl
    cases rv with
    | cons q1 q2 =>
      rw [pL, Bool.and_eq_true] at hk
      rw [datL_cons]
      exact ⟨_, _, rfl, datH_of hK I sub hk.1 r1 q1, datL_of hK I sub hk.2 r2 q2⟩
def absD (u : Value) : V := (absV u).getD .non
theorem absD_eq {v : V} {u : Value} (r : RelV v u) : absD u = v := by unfold absD; rw [r.abs]; rfl
/-- each of some items, gathered anew -/
theorem regather {K : PySem.W.Frag} {F H : Hp} {h : Heap} {ds : List D} {vs : List V} {us : List Value} (rl : RepL K F H ds vs []) (rv : Vals vs us) (dl : DatL h ds us) : ∀ {out : List Value}, (∀ u ∈ out, u ∈ us) → RepL K F H (out.map (decD h)) (out.map absD) [] ∧ Vals (out.map absD) out
  | [], _ => ⟨by rw [List.map_nil, List.map_nil, RepL]; exact ⟨rfl, rfl⟩, .nil⟩
  | u :: out, hm => by
    obtain ⟨j, hj⟩ := List.mem_iff_getElem?.mp (hm u List.mem_cons_self)
    obtain ⟨d, ed, dd⟩ := dl.at hj
    obtain ⟨v, ev, rv1⟩ := rl.at0 ed
    obtain ⟨u', eu, rq⟩ := rv.get ev
    rw [hj] at eu; cases eu
    obtain ⟨i1, i2⟩ := regather rl rv dl (out := out) fun x hx => hm x (List.mem_cons_of_mem _ hx)
    refine ⟨?_, ?_⟩
    · rw [List.map_cons, List.map_cons, decD_eq dd, absD_eq rq, RepL]
      exact ⟨_, _, [], [], rfl, rfl, rv1, i1⟩
    · rw [List.map_cons, absD_eq rq]
      exact .cons rq i2
def rSortG (K : PySem.W.Frag) : List V → Hp → VK → Prop := fun vs H Q => ∃ (F : Hp) (a : Addr) (xs : List V) (ds : List D) (k : Nat), vs = [.ref a] ∧ Sub F H ∧ (SqL K H a xs ∨ SqT K H a xs) ∧ RepL K F H ds xs [] ∧ pL k ds = true ∧ k ≤ 60 ∧ SrtOk ds ∧
  ∀ ys p, RepL K F H (srtD ds) ys [] → H p = none → Q (.ref p) (upd H p (.lst ys))
theorem cr_sortG {X : Cx} (hu : X.A.units + 64 < cLine) : CallR X (.builtin "sorted") (rSortG X.K) := by
  intro pins s σ H vs us Q I r h
  obtain ⟨F, a, xs, ds, k, rfl, sub, hs, rl, hk, hk60, S, q⟩ := h
  obtain ⟨u, rfl, ru⟩ := vals1 r
  obtain rfl : u = Value.ref a := ru
  have main : ∀ (T : String) (o : Obj) (its : List Value) (n : Nat), (T = "list" ∨ T = "tuple") → s.heap.get? a = some o → o.cls = .type T → o.data = .seq its.toArray n → Vals xs its → xs.length ≤ sizeLine →
      wpAny (model X.prog X.w) X.A (call (.builtin "sorted") [.ref a]) (EP X pins σ Q) X.xe s := by
    intro T o its n hT ho hc hd rv hz
    have dl := datL_of rfl I sub hk rl rv
    have hz' : its.toArray.size ≤ sizeLine := by rw [List.size_toArray, ← rv.length]; exact hz
    have et : its.toArray.toList = its := by simp
    refine sorted_seq (ltv := ltV s.heap) (ltV_swo _) hT ho hc hd hz' (fun h2 h₁ b hb kk => ?_) fun h1 out h' d k1 hso hst kp hd' hat => ?_
    · rw [et] at h2 ⊢
      refine dat_sortable (s := { s with heap := h₁ }) dl (dl.keep fun c o e _ => (kk c o e).2) hk S h2 (fun o e => ?_) (by show X.A.units + 1 + 1 + k < cLine; omega)
      have e' : some o = some (seqObj "list" its.toArray 0) := e.symm.trans hb
      cases e'
      intro c
      exact absurd (Value.type.inj c) (by decide)
    · rw [et] at hst
      obtain ⟨g1, g2⟩ := regather rl rv dl (out := out) fun u hu => hst.perm.mem_iff.mp hu
      have edec : its.map (decD s.heap) = ds := by
        clear hst g1 g2 et hz' hz hd ho q S hk hs
        induction ds generalizing xs its with
        | nil => rw [datL_nil] at dl; subst dl; rfl
        | cons e es ih =>
          rw [datL_cons] at dl
          obtain ⟨u, us, rfl, d1, d2⟩ := dl
          rw [List.map_cons, decD_eq d1]
          rw [RepL] at rl
          obtain ⟨v, vs', f1, f2, rfl, e0, r1, r2⟩ := rl
          have : f1 = [] ∧ f2 = [] := List.append_eq_nil_iff.mp e0.symm
          obtain ⟨rfl, rfl⟩ := this
          cases rv with
          | cons q1 q2 =>
            have z : us.map (decD s.heap) = es := by first | exact ih r2 q2 d2 | exact ih _ r2 _ q2 d2 | exact ih _ _ r2 q2 d2 | exact ih _ r2 _ d2 q2
            rw [z]
      have hperm : (out.map (decD s.heap)).Perm ds := by
        have := hst.perm.map (decD s.heap)
        rw [edec] at this
        exact this
      have hsrt : (out.map (decD s.heap)).Pairwise fun a b => leD a b = true := List.pairwise_map.mpr (hso.imp fun {x y} e => leD_iff.mpr e)
      have e := srtD_uniq hperm hsrt hk
      rw [e] at g1
      obtain ⟨m, hm⟩ := hat
      have I1 : Inv X pins σ H { s with heap := h1 } := I.kept (t' := s.toks) k1
      refine ⟨.ref d, upd H d (.lst (out.map absD)), I1.laid (t' := s.toks) kp hd' ⟨?_, out, m, g2, hm⟩, rfl, q _ d g1 (I1.hok.fresh hd')⟩
      rw [List.length_map, hst.len, ← rv.length]
      exact hz
  rcases hs with hs | hs
  · obtain ⟨its, rv, ⟨o, n, ho, hc, _, hd⟩, hz⟩ := I.list hs
    exact main "list" o its n (.inl rfl) ho hc hd rv hz
  · obtain ⟨its, rv, ⟨o, ho, hc, n, hd⟩, hz⟩ := I.tuple hs
    exact main "tuple" o its n (.inr rfl) ho hc hd rv hz
end VL

namespace VL
open PySem PySem.Spec PyProof.Rows L2

/-! ### set(xs) of a list or a tuple of ints -/
abbrev bareSet (w : World) : Obj := { cls := .type "set", dict := none, data := .set #[] 0 (.fresh 0 0 (!w.params.followText "set-order")) }
abbrev lstIter (l : Addr) : Obj := { cls := .type "list_iterator", data := .fields #[.ref l, .int 0 0] }
section
variable {P : Program} {w : World} {A : Around} {E : Value → Shared → Prop} {s : Shared}
set_option maxHeartbeats 3200000 in
theorem set_of_list {l : Addr} {its : Array Value} (ns : List Int) {Q : Value → Shared → Prop} (hh : A.handled = none) (hl : s.heap.IsList l its) (hi : IntsAre its.toList ns) (hb : ns.length + 1 < scanBound)
    (h : ∀ (h' : Heap) (tk c : Nat), SetR w h' s.heap.objs.size (fun j => decide (j ∈ ns)) c → c ≤ ns.length → (∀ b o, s.heap.get? b = some o → h'.get? b = some o) → Q (.ref s.heap.objs.size) { s with heap := h', toks := tk }) :
    wpAny (model P w) A (call (.type "set") [.ref l]) Q E s := by
  have hn : its.size = ns.length := Array.length_toList.symm.trans (IntsAre.length hi)
  have ⟨c, tl, hmro⟩ := F.called_set.mro
  have k1 := F.called_set.made
  have k2 := F.called_set.sub
  refine wpAny_call (codeAny_of_tree (show wpAny _ _ (callAny (.type "set") _) _ _ _ from ?_))
  refine wpAny_pure ⟨Code.quiet_builtin _ (by decide +kernel), codeAny_builtin F.entry_type_call ?_⟩
  rw [Around.under_plain (weight_type_call_type "set" [.ref l] []) rfl]
  have k3 := F.called_set.notType
  have k4 := F.called_set.canCreate
  have k5 := F.typeCall_set_1 (.ref l)
  repeat (any_goals (first | assumption | wp_step))
  refine codeAny_mono (code_set_led1 (.ref l) (E := E) (Q₁ := fun x s₁ => x = .ref s.heap.objs.size ∧ s₁ = { s with heap := s.heap.push (bareSet w) }) ⟨rfl, rfl⟩) fun r s₁ hr => ?_
  rcases r with e | fl
  · exact hr
  cases fl <;> first | exact hr.elim | skip
  obtain ⟨rfl, rfl⟩ := hr
  have at0 : (s.heap.push (bareSet w)).get? s.heap.objs.size = some (bareSet w) := Heap.get?_push_size _ rfl
  have ty0 : Shared.TypeIs { s with heap := s.heap.push (bareSet w) } (.ref s.heap.objs.size) "set" := ⟨_, at0, rfl⟩
  have k6 := F.called_set.init.lookup
  have k7 := F.called_set.init.bind (.ref s.heap.objs.size)
  repeat (any_goals (first | assumption | wp_step))
  refine codeAny_mono (codeAny_call_builtin (R := wants (fun r s₂ => r = .none ∧ ∃ h' tk c, s₂ = { s with heap := h', toks := tk } ∧ SetR w h' s.heap.objs.size (fun j => decide (j ∈ ns)) c ∧ c ≤ ns.length ∧ (∀ b o, s.heap.get? b = some o → h'.get? b = some o)) E)
    F.called_set.init.plain F.entry_set_init (check_set_init_1 ty0 ?_)) fun r₂ s₂ hr₂ => ?_
  rotate_left
  · rcases r₂ with e | fl₂
    · exact hr₂
    cases fl₂ <;> first | exact hr₂.elim | skip
    obtain ⟨rfl, h', tk, c, rfl, q1, q2, q3⟩ := hr₂
    repeat (any_goals (first | assumption | wp_step))
    exact h _ _ _ q1 q2 q3
  have ⟨⟨ocls, odict, odata, oslots⟩, hol, hcl, nl, hdl⟩ := id hl
  simp only at hcl hdl
  subst hcl hdl
  have hol' : (s.heap.push (bareSet w)).get? l = some { cls := .type "list", dict := odict, data := .seq its nl, slots := oslots } := Heap.get?_push_of_some _ hol
  have j1 := F.sub_list_set
  have j2 := F.sub_list_frozenset
  have j3 : (Value.type "list" == Value.type "dict") = false := by decide
  have hl1 : (s.heap.push (bareSet w)).IsList l its := ⟨_, hol', rfl, nl, rfl⟩
  unfold Builtin.«set.__init__» noKeywords Builtin.Frozenset.updateFrom
  generalize hPI : pyIter = PI
  wp_walk
  subst hPI
  refine wpAny_pyIter_list hl1 (wpAny_bind (wpAny_runValue ?_))
  have hlS : l < s.heap.objs.size := Heap.lt_size hol
  have hh3 : A.in1.in1.in1.handled = none := by simp [hh]
  have sz : (s.heap.push (bareSet w)).objs.size = s.heap.objs.size + 1 := Heap.size_push ..
  have neI : l ≠ (s.heap.push (bareSet w)).objs.size := by rw [sz]; exact Nat.ne_of_lt (Nat.lt_succ_of_lt hlS)
  refine set_update_ints ((Walks.list hh3 _ l neI its).toS) s.heap.objs.size ?_ ns hn hb (fun i v hv => ?_) (its.size - 0) 0 _ (by omega) (Nat.zero_le _) ⟨⟨_, Heap.get?_push_size _ rfl, rfl, rfl⟩, (hl1.push _)⟩ ?_ ?_
  · rw [sz]; simp only [List.mem_cons, List.not_mem_nil, or_false, not_or]
    exact ⟨Nat.ne_of_lt (Nat.lt_succ_self _), Nat.ne_of_gt hlS⟩
  · have hi2 : i < ns.length := by rw [← hn]; exact (Array.getElem?_eq_some_iff.mp hv).1
    obtain ⟨t, e⟩ := IntsAre.int_at hi i v (by rw [Array.getElem?_toList]; exact hv)
    refine ⟨ns[i], t, List.getElem?_eq_getElem hi2, ?_⟩
    rw [e, List.getD_eq_getElem?_getD, List.getElem?_eq_getElem hi2]; rfl
  · have g : ((s.heap.push (bareSet w)).push (lstIter l)).get? s.heap.objs.size = some (bareSet w) := Heap.get?_push_of_some _ at0
    exact ⟨0, Nat.le_refl 0, setR_new_at g⟩
  · intro s' c' hm hc' hS'
    have hs' : s' = { s with heap := s'.heap, toks := s'.toks } := by
      obtain ⟨h', g2, d', tk', os'⟩ := s'
      have eg : g2 = s.gens := hm.gens
      have ed : d' = s.drawn := hm.drawn
      have eo : os' = s.os := hm.os
      subst eg ed eo; rfl
    show wpAny _ _ _ _ _ _
    refine wpAny_pure (show wpAny _ _ (ret Value.none) _ _ _ from wpAny_pure ⟨rfl, s'.heap, s'.toks, c', hs', hS', by rw [← hn]; exact hc', fun b o e => ?_⟩)
    have hb0 : b < s.heap.objs.size := Heap.lt_size e
    have hb2 : b ≠ (s.heap.push (bareSet w)).objs.size := by rw [sz]; exact Nat.ne_of_lt (Nat.lt_succ_of_lt hb0)
    exact hm.heap b o (by simp only [List.mem_cons, List.not_mem_nil, or_false, not_or]; exact ⟨Nat.ne_of_lt hb0, hb2⟩) (Heap.get?_push_of_some _ (Heap.get?_push_of_some _ e))
end
theorem setR_card {w : World} {h : Heap} {a : Addr} {ns : List Int} {c : Nat} (R : SetR w h a (fun j => decide (j ∈ ns)) c) : ∃ ks : List Int, ks.Nodup ∧ (∀ k, k ∈ ks ↔ k ∈ ns) ∧ ks.length = c := by
  obtain ⟨o, es, ep, t, _, _, _, _, nd, hm, _, _, hn, _⟩ := R
  exact ⟨es.toList.map keyOf, nd, fun k => by rw [← hm k]; simp, by rw [List.length_map, Array.length_toList]; exact hn⟩
def rSetI (K : PySem.W.Frag) (w : World) : List V → Hp → VK → Prop := fun vs H Q => ∃ (a : Addr) (ns : List Int), vs = [V.ref a] ∧ (SqL K H a (ns.map V.int) ∨ SqT K H a (ns.map V.int)) ∧ ns.length < 4000 ∧
  ∀ (p : Addr) (c : Nat), H p = none → (∃ ks : List Int, ks.Nodup ∧ (∀ k, k ∈ ks ↔ k ∈ ns) ∧ ks.length = c) → Q (.ref p) (upd H p (SetO w p (fun j => decide (j ∈ ns)) c))
theorem cr_setI {X : Cx} (hc : X.calm = true) : CallR X (.type "set") (rSetI X.K X.w) := by
  intro pins s σ H vs us Q I r h
  obtain ⟨a, ns, rfl, hs, hl, q⟩ := h
  obtain ⟨u, rfl, ru⟩ := vals1 r
  obtain rfl : u = Value.ref a := ru
  have fin : ∀ (h' : Heap) (tk c : Nat), SetR X.w h' s.heap.objs.size (fun j => decide (j ∈ ns)) c → c ≤ ns.length → (∀ b o, s.heap.get? b = some o → h'.get? b = some o) → EP X pins σ Q (.ref s.heap.objs.size) { s with heap := h', toks := tk } := fun h' tk c R _ k =>
    ⟨.ref _, upd H s.heap.objs.size (SetO X.w s.heap.objs.size (fun j => decide (j ∈ ns)) c), I.laid (t' := tk) k (Nat.le_refl _) (setO_new R), rfl, q _ c (I.hok.fresh (Nat.le_refl _)) (setR_card R)⟩
  have hb : ns.length + 1 < scanBound := by unfold scanBound; omega
  rcases hs with hs | hs
  · obtain ⟨its, rv, pl, _⟩ := I.list hs
    exact set_of_list ns (I.ok.hd hc) pl.isList (by simpa using rv.ints) hb fin
  · obtain ⟨its, rv, pt, _⟩ := I.tuple hs
    exact call_set_tupI ns (I.ok.hd hc) pt (by simpa using rv.ints) hb fin
/-! sorted(set(xs)), len(set(xs)) -/
theorem srtZ_tr (a b c : Int) (h1 : decide (a ≤ b) = true) (h2 : decide (b ≤ c) = true) : decide (a ≤ c) = true := by
  rw [decide_eq_true_eq] at *; omega
theorem srtZ_tot (a b : Int) : (decide (a ≤ b) || decide (b ≤ a)) = true := by
  rw [Bool.or_eq_true, decide_eq_true_eq, decide_eq_true_eq]; omega
/-- the sorted row of some ints -/
def srtI (ns : List Int) : List Int := ns.mergeSort fun a b => decide (a ≤ b)
theorem srtI_perm {ns : List Int} : (srtI ns).Perm ns := List.mergeSort_perm ..
theorem srtI_le {ns : List Int} : (srtI ns).Pairwise (· ≤ ·) := (List.pairwise_mergeSort srtZ_tr srtZ_tot ns).imp fun h => by simpa using h
theorem srtI_uniq {ns rs : List Int} (hp : rs.Perm ns) (hs : rs.Pairwise (· ≤ ·)) : rs = srtI ns :=
  List.Perm.eq_of_pairwise (le := (· ≤ ·)) (fun a b _ _ h1 h2 => by omega) hs srtI_le (hp.trans srtI_perm.symm)
def ddI {α : Type} [DecidableEq α] : List α → List α
  | [] => []
  | x :: xs => if x ∈ xs then ddI xs else x :: ddI xs
theorem ddI_mem {α : Type} [DecidableEq α] {y : α} : ∀ {l : List α}, y ∈ ddI l ↔ y ∈ l
  | [] => Iff.rfl
  | x :: xs => by
    rw [ddI]
    by_cases h : x ∈ xs
    · rw [if_pos h, ddI_mem, List.mem_cons]
      exact ⟨.inr, fun z => z.elim (fun e => by rw [e]; exact h) id⟩
    · rw [if_neg h, List.mem_cons, List.mem_cons, ddI_mem]
theorem ddI_nd {α : Type} [DecidableEq α] : ∀ {l : List α}, (ddI l).Nodup
  | [] => List.nodup_nil
  | x :: xs => by
    rw [ddI]
    by_cases h : x ∈ xs
    · rw [if_pos h]; exact ddI_nd
    · rw [if_neg h]; exact List.nodup_cons.mpr ⟨fun z => h (ddI_mem.mp z), ddI_nd⟩
/-- the rising row of some ints, each once -/
def riseI (ns : List Int) : List Int := srtI (ddI ns)
theorem riseI_mem {ns : List Int} {x : Int} : x ∈ riseI ns ↔ x ∈ ns := by
  unfold riseI; rw [srtI_perm.mem_iff, ddI_mem]
theorem riseI_nd {ns : List Int} : (riseI ns).Nodup := srtI_perm.nodup_iff.mpr ddI_nd
theorem riseI_lt {ns : List Int} : (riseI ns).Pairwise (· < ·) := by
  have h1 : (riseI ns).Pairwise (· ≤ ·) := srtI_le
  have h2 : (riseI ns).Pairwise (· ≠ ·) := riseI_nd
  exact (h1.and h2).imp fun ⟨a, b⟩ => by omega
theorem rise_uniq {rs ns : List Int} (hr : rs.Pairwise (· < ·)) (hm : ∀ k, k ∈ rs ↔ k ∈ ns) : rs = riseI ns := by
  refine List.Perm.eq_of_pairwise (le := (· < ·)) (fun a b _ _ h1 h2 => by omega) hr riseI_lt ?_
  refine (List.perm_ext_iff_of_nodup (hr.imp fun h e => by omega) riseI_nd).mpr fun x => ?_
  rw [hm x, riseI_mem]
theorem riseI_len {ns : List Int} : (riseI ns).length ≤ ns.length := List.Nodup.length_le_of_subset riseI_nd fun x hx => riseI_mem.mp hx
def oSortSet : O1 := fun _ d Q => ∃ ns : List Int, (d = .tup (ns.map D.int) ∨ ∃ m, d = .lst m (ns.map D.int)) ∧ ns.length < 4000 ∧ (riseI ns).length < 64 ∧ Q true (.lst true ((riseI ns).map D.int))
def oLenSet : O1 := fun _ d Q => ∃ ns : List Int, (d = .tup (ns.map D.int) ∨ ∃ m, d = .lst m (ns.map D.int)) ∧ ns.length < 4000 ∧ Q true (.int (riseI ns).length)
def rSortSet (K : PySem.W.Frag) (w : World) : V → Hp → VK → Prop := fun v H Q => rSetI K w [v] H fun v' H' => rSortedSet w [v'] H' Q
/-- the row of ints, wherever it lies -/
theorem row_ints {K : PySem.W.Frag} {F H : Hp} {al : Bool} {ns : List Int} {d : D} {v : V} {fq : List Addr} (s : Sub F H) (o : Opd K F H al d v fq) (hd : d = .tup (ns.map D.int) ∨ ∃ m, d = .lst m (ns.map D.int)) : ∃ a, v = .ref a ∧ (SqL K H a (ns.map V.int) ∨ SqT K H a (ns.map V.int)) := by
  rcases hd with rfl | ⟨m, rfl⟩
  · obtain ⟨a, vs, rfl, h1, rl⟩ := seqT_imm o.rep immL_ints
    obtain ⟨rfl, _⟩ := rl.ints
    exact ⟨a, rfl, .inr (s.seqT h1)⟩
  · obtain ⟨a, vs, rfl, h1, rl⟩ := seqL_imm s o.rep immL_ints
    obtain ⟨rfl, _⟩ := rl.ints
    exact ⟨a, rfl, .inl h1⟩
theorem card_rise {ns ks : List Int} (n1 : ks.Nodup) (n2 : ∀ k, k ∈ ks ↔ k ∈ ns) : ks.length = (riseI ns).length := by
  refine List.Perm.length_eq ((List.perm_ext_iff_of_nodup n1 riseI_nd).mpr fun x => ?_)
  rw [n2 x, riseI_mem]
theorem lf_sortset {K : PySem.W.Frag} {w : World} : Lf1 K (rSortSet K w) oSortSet := fun F H al1 d1 v1 q1 Q R s o1 q k => by
  obtain ⟨ns, hd, hl, h64, q⟩ := q
  obtain ⟨a, rfl, hs⟩ := row_ints s o1 hd
  refine ⟨a, ns, rfl, hs, hl, fun p c hp ⟨ks, n1, n2, n3⟩ => ⟨p, _, c, rfl, upd_same, by rw [← n3, card_rise n1 n2]; exact h64, fun rs p2 r1 r2 _ hp2 => ?_⟩⟩
  have g1 : Grow F H F (upd H p (SetO w p (fun j => decide (j ∈ ns)) c)) := Grow.owned s hp
  have s1 := g1.sub
  have e0 : rs = riseI ns := rise_uniq r1 fun x => by rw [r2 x]; simp
  rw [e0]
  have an := Ans.newL (K := K) (al1 := al1) (q1 := q1) s1 hp2 (RepL.ofInts (ns := riseI ns))
  refine k F _ true _ _ [p2] ⟨an.rep, g1.trans an.grow, fun z => ⟨(an.sep z).1, fun b hb => ?_⟩⟩ q
  have e : b = p2 := by simpa using hb
  subst e
  refine ⟨((an.sep z).2 b hb).1, .inl ?_⟩
  cases e : H b with
  | none => rfl
  | some o => have := g1.hsub b o e; rw [hp2] at this; cases this
def rLenSet (w : World) : List V → Hp → VK → Prop := fun vs H Q => ∃ (a : Addr) (S : Int → Bool) (n : Nat), vs = [V.ref a] ∧ H a = some (SetO w a S n) ∧ Q (.int n) H
theorem cr_lenSet {X : Cx} : CallR X (.builtin "len") (rLenSet X.w) := by
  intro pins s σ H vs us Q I r h
  obtain ⟨a, S, n, rfl, ha, q⟩ := h
  obtain ⟨o, es, ep, t, ho, hex, hd, _, _, _, hb, hf, hn, _⟩ := setO_get I ha
  rw [Vals.ref1 r]
  have : (scanBound : Nat) ≤ 4096 := by unfold scanBound; omega
  exact call_len_set ho hex hd hf (by rw [hn]; have : n < 4096 := by rw [← hn]; exact Nat.lt_of_lt_of_le hb this
                                      omega) ⟨.int n, H, I.tok _, ⟨_, by rw [hn]⟩, q⟩
def rLenSet1 (K : PySem.W.Frag) (w : World) : V → Hp → VK → Prop := fun v H Q => rSetI K w [v] H fun v' H' => rLenSet w [v'] H' Q
theorem lf_lenset {K : PySem.W.Frag} {w : World} : Lf1 K (rLenSet1 K w) oLenSet := fun F H al1 d1 v1 q1 Q R s o1 q k => by
  obtain ⟨ns, hd, hl, q⟩ := q
  obtain ⟨a, rfl, hs⟩ := row_ints s o1 hd
  refine ⟨a, ns, rfl, hs, hl, fun p c hp ⟨ks, n1, n2, n3⟩ => ⟨p, _, c, rfl, upd_same, ?_⟩⟩
  have g1 : Grow F H F (upd H p (SetO w p (fun j => decide (j ∈ ns)) c)) := Grow.owned s hp
  refine k F _ true (.int c) _ [] ⟨by rw [Rep]; exact ⟨rfl, rfl⟩, g1, fun z => ⟨List.nodup_nil, fun b hb => absurd hb (by simp)⟩⟩ ?_
  rw [← n3, card_rise n1 n2]; exact q
section
variable {X : Cx} {K : PySem.W.Frag} {a : Expr} {ta : TE} {Ta : VT} {P0 P1 pos pos1 : Pos} {p : Bool}
theorem tUn_un {r1 r2 : V → Hp → VK → Prop} {t : TE} : tUn r2 (tUn r1 t) = tUn (fun v H Q => r1 v H fun v' H' => r2 v' H' Q) t := rfl
theorem ve_sortset (hK : X.K = K) (hc : X.calm = true) (hg : Gl X "sorted") (hm : X.mg "sorted" = none) (hg2 : Gl X "set") (hm2 : X.mg "set" = none) (ha : VE X K p a ta Ta)
    (he : starEach [.Call (.Name "set" P1) [a] [] pos1] X.env = [(false, eval (.Call (.Name "set" P1) [a] [] pos1) X.env)] := by rfl) (he2 : starEach [a] X.env = [(false, eval a X.env)] := by rfl) :
    VE X K p (.Call (.Name "sorted" P0) [.Call (.Name "set" P1) [a] [] pos1] [] pos) (tUn (rSortSet K X.w) ta) (TU Ta oSortSet) := by
  subst hK
  refine ⟨?_, Snd.un ha.snd lf_sortset⟩
  exact pe_callB (cr_sortedSet hc) hg hm (by decide) (pa_cons (pe_callTy (cr_setI hc) hg2 hm2 (by decide) (pa_cons ha.pe pa_nil he2) (by decide) (by decide) he2 rfl) pa_nil he) (by decide) (by decide) he rfl
theorem ve_lenset (hK : X.K = K) (hc : X.calm = true) (hg : Gl X "len") (hm : X.mg "len" = none) (hg2 : Gl X "set") (hm2 : X.mg "set" = none) (ha : VE X K p a ta Ta)
    (he : starEach [.Call (.Name "set" P1) [a] [] pos1] X.env = [(false, eval (.Call (.Name "set" P1) [a] [] pos1) X.env)] := by rfl) (he2 : starEach [a] X.env = [(false, eval a X.env)] := by rfl) :
    VE X K p (.Call (.Name "len" P0) [.Call (.Name "set" P1) [a] [] pos1] [] pos) (tUn (rLenSet1 K X.w) ta) (TU Ta oLenSet) := by
  subst hK
  refine ⟨?_, Snd.un ha.snd lf_lenset⟩
  exact pe_callB cr_lenSet hg hm (by decide) (pa_cons (pe_callTy (cr_setI hc) hg2 hm2 (by decide) (pa_cons ha.pe pa_nil he2) (by decide) (by decide) he2 rfl) pa_nil he) (by decide) (by decide) he rfl
end
/-! sorted, over trees -/
theorem immL_pL {k : Nat} : ∀ {ds : List D}, pL k ds = true → immL ds = true := by
  induction k with
  | zero =>
    intro ds
    induction ds with
    | nil => intro _; rw [immL]
    | cons d ds ih =>
      intro h
      rw [pL, Bool.and_eq_true] at h
      rw [immL, ih h.2, Bool.and_true]
      cases d <;> simp only [pD, Bool.false_eq_true, false_and] at h <;> rfl
  | succ k ihk =>
    intro ds
    induction ds with
    | nil => intro _; rw [immL]
    | cons d ds ih =>
      intro h
      rw [pL, Bool.and_eq_true] at h
      rw [immL, ih h.2, Bool.and_true]
      cases d with
      | int _ => rfl
      | str _ => rfl
      | tup xs => rw [imm_tup]; exact ihk (by rw [← pD_tup]; exact h.1)
      | _ => simp [pD] at h
def oSrt : O1 := fun _ d Q => ∃ ds, (d = .tup ds ∨ ∃ m, d = .lst m ds) ∧ (∃ k, k ≤ 60 ∧ pL k ds = true) ∧ SrtOk ds ∧ Q true (.lst true (srtD ds))
theorem lf_srt {K : PySem.W.Frag} : Lf1 K (fun v => rSortG K [v]) oSrt := fun F H al1 d1 v1 q1 Q R s o1 q k => by
  obtain ⟨ds, hd, ⟨n, hn, hp⟩, S, q⟩ := q
  rcases hd with rfl | ⟨m, rfl⟩
  · obtain ⟨a, vs, rfl, h1, rl⟩ := seqT_imm o1.rep (immL_pL hp)
    exact ⟨F, a, vs, ds, n, rfl, s, .inr (s.seqT h1), rl.mono Sub.refl fun _ h => absurd h (by simp), hp, hn, S, fun ys p r hq => k _ _ _ _ _ _ (Ans.newL s hq r) q⟩
  · obtain ⟨a, vs, rfl, h1, rl⟩ := seqL_imm s o1.rep (immL_pL hp)
    exact ⟨F, a, vs, ds, n, rfl, s, .inl h1, rl.mono Sub.refl fun _ h => absurd h (by simp), hp, hn, S, fun ys p r hq => k _ _ _ _ _ _ (Ans.newL s hq r) q⟩
section
variable {X : Cx} {K : PySem.W.Frag} {a b : Expr} {ta tb : TE} {Ta Tb : VT} {P0 pos : Pos} {p p1 p2 : Bool}
theorem ve_srt (hK : X.K = K) (hu : X.A.units + 64 < cLine) (hg : Gl X "sorted") (hm : X.mg "sorted" = none) (ha : VE X K p a ta Ta) (he : starEach [a] X.env = [(false, eval a X.env)] := by rfl) : VE X K p (.Call (.Name "sorted" P0) [a] [] pos) (tUn (fun v => rSortG K [v]) ta) (TU Ta oSrt) := by
  subst hK; exact ve_b1 (cr_sortG hu) lf_srt hg hm (by decide) ha (by decide) (by decide) he
end
theorem srtD_ints {ns : List Int} : srtD (ns.map D.int) = (srtI ns).map D.int := by
  refine (srtD_uniq (k := 0) (srtI_perm.map _) (List.pairwise_map.mpr (srtI_le.imp fun {a b} h => ?_)) pL_ints).symm
  rw [leD_iff, ltD_no, cmp_int]
  unfold ordZ
  rw [ne_eq, ord2_lt, decide_eq_true_eq]; omega
theorem srtOk_ints {ns : List Int} : SrtOk (ns.map D.int) := ⟨fun _ => .inl fun d hd => by obtain ⟨i, _, rfl⟩ := List.mem_map.mp hd; rfl, fun d hd e he => by
  obtain ⟨i, _, rfl⟩ := List.mem_map.mp hd
  obtain ⟨j, _, rfl⟩ := List.mem_map.mp he
  rw [okD]⟩
/-- pairs of ints in order -/
def ltP2 (p q : Int × Int) : Prop := p.1 < q.1 ∨ (p.1 = q.1 ∧ p.2 < q.2)
instance : DecidableRel ltP2 := fun p q => by unfold ltP2; exact inferInstance
instance lePr_dec : DecidableRel lePr := fun p q => by unfold lePr; exact inferInstance
def srtP (ps : List (Int × Int)) : List (Int × Int) := ps.mergeSort fun a b => decide (lePr a b)
theorem srtP_perm {ns : List (Int × Int)} : (srtP ns).Perm ns := List.mergeSort_perm ..
theorem srtP_le {ns : List (Int × Int)} : (srtP ns).Pairwise lePr := (List.pairwise_mergeSort (fun a b c h1 h2 => by rw [decide_eq_true_eq] at *; unfold lePr at *; omega) (fun a b => by rw [Bool.or_eq_true, decide_eq_true_eq, decide_eq_true_eq]; unfold lePr; omega) ns).imp fun h => by simpa using h
theorem srtP_uniq {ns rs : List (Int × Int)} (hp : rs.Perm ns) (hs : rs.Pairwise lePr) : rs = srtP ns :=
  List.Perm.eq_of_pairwise (le := lePr) (fun a b _ _ h1 h2 => by
    unfold lePr at *
    exact Prod.ext (by omega) (by omega)) hs srtP_le (hp.trans srtP_perm.symm)
theorem pL_prs {k : Nat} {l : List (Int × Int)} : pL (k + 1) (l.map p2D) = true := pL_all.mpr fun d h => by
  obtain ⟨p, _, rfl⟩ := List.mem_map.mp h
  rfl
theorem cmp_p2D {p q : Int × Int} : cmpD (p2D p) (p2D q) = thn (ordZ p.1 q.1) (ordZ p.2 q.2) := by
  unfold p2D
  rw [cmp_tup, cmpL_cons, cmpL_cons, cmpL, cmp_int, cmp_int]
  cases ordZ p.1 q.1 <;> cases ordZ p.2 q.2 <;> rfl
theorem le_p2D {p q : Int × Int} : leD (p2D p) (p2D q) = true ↔ lePr p q := by
  rw [leD_iff, ltD_no, cmp_p2D]
  unfold lePr ordZ ord2
  by_cases h1 : q.1 < p.1
  · simp [h1, thn]; omega
  · by_cases h2 : p.1 < q.1
    · simp [h1, h2, thn]
    · have e : p.1 = q.1 := by omega
      by_cases h3 : q.2 < p.2
      · simp [e, h3, thn]
      · by_cases h4 : p.2 < q.2
        · simp [e, h3, h4, thn]; omega
        · simp [e, h3, h4, thn]; omega
theorem srtD_prs {ns : List (Int × Int)} : srtD (ns.map p2D) = (srtP ns).map p2D :=
  (srtD_uniq (k := 1) (srtP_perm.map _) (List.pairwise_map.mpr (srtP_le.imp fun {a b} h => le_p2D.mpr h)) pL_prs).symm
theorem srtOk_prs {ns : List (Int × Int)} : SrtOk (ns.map p2D) := ⟨fun _ => .inr (.inr ⟨0, by decide, fun d hd => by obtain ⟨i, _, rfl⟩ := List.mem_map.mp hd; exact ⟨_, _, rfl, rfl⟩⟩), fun d hd e he => by
  obtain ⟨i, _, rfl⟩ := List.mem_map.mp hd
  obtain ⟨j, _, rfl⟩ := List.mem_map.mp he
  rfl⟩
/-! the walk -/
section
variable {al : Bool} {m : Bool} {ns : List Int} {ps : List (Int × Int)} {QB : Bool → D → Prop} {d : D}
theorem srt_is (q : QB true (.lst true ((srtI ns).map D.int))) (hd : d = .tup (ns.map D.int) ∨ ∃ m, d = .lst m (ns.map D.int)) : oSrt al d QB := ⟨_, hd, ⟨0, by decide, pL_ints⟩, srtOk_ints, by rw [srtD_ints]; exact q⟩
theorem srt_ps (q : QB true (.lst true ((srtP ps).map p2D))) (hd : d = .tup (ps.map p2D) ∨ ∃ m, d = .lst m (ps.map p2D)) : oSrt al d QB := ⟨_, hd, ⟨1, by decide, pL_prs⟩, srtOk_prs, by rw [srtD_prs]; exact q⟩
theorem oSrt_back {d : D} (h : oSrt al d QB) : ∃ ds, (d = .tup ds ∨ ∃ m, d = .lst m ds) ∧ QB true (.lst true (srtD ds)) := let ⟨ds, h1, _, _, h4⟩ := h; ⟨ds, h1, h4⟩
theorem s_iL : oSrt al (.lst m (ns.map D.int)) QB = K2 QB ⟨⟩ true (.lst true ((srtI ns).map D.int)) := propext (Iff.intro (fun h => by
  obtain ⟨ds, h1 | ⟨_, h1⟩, h2⟩ := oSrt_back h
  · cases h1
  · cases h1; rw [srtD_ints] at h2; exact h2) fun h => srt_is h (.inr ⟨_, rfl⟩))
theorem s_iT : oSrt al (.tup (ns.map D.int)) QB = K2 QB ⟨⟩ true (.lst true ((srtI ns).map D.int)) := propext (Iff.intro (fun h => by
  obtain ⟨ds, h1 | ⟨_, h1⟩, h2⟩ := oSrt_back h
  · cases h1; rw [srtD_ints] at h2; exact h2
  · cases h1) fun h => srt_is h (.inl rfl))
theorem s_pL : oSrt al (.lst m (ps.map p2D)) QB = K2 QB ⟨⟩ true (.lst true ((srtP ps).map p2D)) := propext (Iff.intro (fun h => by
  obtain ⟨ds, h1 | ⟨_, h1⟩, h2⟩ := oSrt_back h
  · cases h1
  · cases h1; rw [srtD_prs] at h2; exact h2) fun h => srt_ps h (.inr ⟨_, rfl⟩))
theorem s_pT : oSrt al (.tup (ps.map p2D)) QB = K2 QB ⟨⟩ true (.lst true ((srtP ps).map p2D)) := propext (Iff.intro (fun h => by
  obtain ⟨ds, h1 | ⟨_, h1⟩, h2⟩ := oSrt_back h
  · cases h1; rw [srtD_prs] at h2; exact h2
  · cases h1) fun h => srt_ps h (.inl rfl))
theorem z_srt : oSrt al d QB = CO oSrt al d QB ⟨⟩ := rfl
theorem int_inj : Function.Injective D.int := fun _ _ h => by cases h; rfl
theorem intsL_inj {a b : List Int} (h : a.map D.int = b.map D.int) : a = b := List.map_inj_right (fun _ _ e => by cases e; rfl) |>.mp h
theorem s_ssL : oSortSet al (.lst m (ns.map D.int)) QB = (ns.length < 4000 ∧ (riseI ns).length < 64 ∧ K2 QB ⟨⟩ true (.lst true ((riseI ns).map D.int))) := propext (Iff.intro (fun h => by
  obtain ⟨ns', h1 | ⟨_, h1⟩, h2⟩ := h
  · cases h1
  · injection h1 with _ h1; rw [intsL_inj h1]; exact h2) fun h => ⟨ns, .inr ⟨_, rfl⟩, h⟩)
theorem s_ssT : oSortSet al (.tup (ns.map D.int)) QB = (ns.length < 4000 ∧ (riseI ns).length < 64 ∧ K2 QB ⟨⟩ true (.lst true ((riseI ns).map D.int))) := propext (Iff.intro (fun h => by
  obtain ⟨ns', h1 | ⟨_, h1⟩, h2⟩ := h
  · injection h1 with h1; rw [intsL_inj h1]; exact h2
  · cases h1) fun h => ⟨ns, .inl rfl, h⟩)
theorem s_lsL : oLenSet al (.lst m (ns.map D.int)) QB = (ns.length < 4000 ∧ K2 QB ⟨⟩ true (.int (riseI ns).length)) := propext (Iff.intro (fun h => by
  obtain ⟨ns', h1 | ⟨_, h1⟩, h2⟩ := h
  · cases h1
  · injection h1 with _ h1; rw [intsL_inj h1]; exact h2) fun h => ⟨ns, .inr ⟨_, rfl⟩, h⟩)
theorem s_lsT : oLenSet al (.tup (ns.map D.int)) QB = (ns.length < 4000 ∧ K2 QB ⟨⟩ true (.int (riseI ns).length)) := propext (Iff.intro (fun h => by
  obtain ⟨ns', h1 | ⟨_, h1⟩, h2⟩ := h
  · injection h1 with h1; rw [intsL_inj h1]; exact h2
  · cases h1) fun h => ⟨ns, .inl rfl, h⟩)
theorem c_iL {mk : Mk QB} : CO oSrt al (.lst m (ns.map D.int)) QB mk = K2 QB ⟨⟩ true (.lst true ((srtI ns).map D.int)) := s_iL
theorem c_iT {mk : Mk QB} : CO oSrt al (.tup (ns.map D.int)) QB mk = K2 QB ⟨⟩ true (.lst true ((srtI ns).map D.int)) := s_iT
theorem c_pL {mk : Mk QB} : CO oSrt al (.lst m (ps.map p2D)) QB mk = K2 QB ⟨⟩ true (.lst true ((srtP ps).map p2D)) := s_pL
theorem c_pT {mk : Mk QB} : CO oSrt al (.tup (ps.map p2D)) QB mk = K2 QB ⟨⟩ true (.lst true ((srtP ps).map p2D)) := s_pT
theorem c_ssL {mk : Mk QB} : CO oSortSet al (.lst m (ns.map D.int)) QB mk = (ns.length < 4000 ∧ (riseI ns).length < 64 ∧ K2 QB ⟨⟩ true (.lst true ((riseI ns).map D.int))) := s_ssL
theorem c_ssT {mk : Mk QB} : CO oSortSet al (.tup (ns.map D.int)) QB mk = (ns.length < 4000 ∧ (riseI ns).length < 64 ∧ K2 QB ⟨⟩ true (.lst true ((riseI ns).map D.int))) := s_ssT
theorem c_lsL {mk : Mk QB} : CO oLenSet al (.lst m (ns.map D.int)) QB mk = (ns.length < 4000 ∧ K2 QB ⟨⟩ true (.int (riseI ns).length)) := s_lsL
theorem c_lsT {mk : Mk QB} : CO oLenSet al (.tup (ns.map D.int)) QB mk = (ns.length < 4000 ∧ K2 QB ⟨⟩ true (.int (riseI ns).length)) := s_lsT
theorem z_sortset : oSortSet al d QB = CO oSortSet al d QB ⟨⟩ := rfl
theorem z_lenset : oLenSet al d QB = CO oLenSet al d QB ⟨⟩ := rfl
end
end VL

namespace VL
open PySem PySem.Spec PyProof.Rows L2
/-! ### a tuple as often as a number tells -/
theorem tuple_mul_none (l : Addr) (n : Nat) (dd : Option Addr) (sl : Array (Option Value)) (x : Int) (u : Tok) (c0 : (decide (x < -(2 ^ 63)) || decide (x ≥ 2 ^ 63)) = false) :
    Meets (Builtin.«tuple.__mul__» ⟨[.ref l, .int x u], []⟩) (fun _ R s => s.heap.get? l = some { cls := .type "tuple", dict := dd, data := .seq #[] n, slots := sl } ∧ R (.ok (.ret (Value.ref l))) s) :=
  .of_wp fun prog w A R s h => by
    obtain ⟨hp, g, d, tk, os⟩ := s
    obtain ⟨hl, h⟩ := h
    have f1 := AutoSeq1.idx_int
    have fe : ((#[] : Array Value).isEmpty || x == 1) = true := rfl
    wp_walk using PySem.AutoSeq1.wpAny_loadPart' hl
    repeat (first
      | (refine wpAny_ite_false (decide_eq_false (by rw [c0]; exact Bool.false_ne_true)) ?_; wp_walk using PySem.AutoSeq1.wpAny_loadPart' hl)
      | (refine wpAny_ite_true (decide_eq_true fe) ?_; wp_walk using PySem.AutoSeq1.wpAny_loadPart' hl))
    exact ⟨_, rfl, h⟩
def rRepT0 (K : PySem.W.Frag) : R2 := fun x y H Q => ∃ l k, x = .ref l ∧ y = .int k ∧ SqT K H l [] ∧ -(2 ^ 63) ≤ k ∧ k < 2 ^ 63 ∧ Q x H
theorem op_repT0 {X : Cx} : OpR X (binaryOp .Mult) (rRepT0 X.K) := by
  intro pins s σ H x y v u Q I rx ry h
  obtain ⟨l, k, rfl, rfl, hT, k0, k1, q⟩ := h
  obtain rfl : v = Value.ref l := rx
  obtain ⟨t, rfl⟩ := ry
  obtain ⟨its, r, ⟨⟨cls, dd, data, sl⟩, ho, hc, n, hd⟩, hs⟩ := I.tuple hT
  simp only at hc hd
  subst hc hd
  cases r
  have c0 : (decide (k < -(2 ^ 63)) || decide (k ≥ 2 ^ 63)) = false := by
    rw [decide_eq_false (by omega), decide_eq_false (by omega)]; rfl
  refine wpAny_binaryOp_repeat_ref (T := "tuple") (U := "int") (by decide) ⟨_, ho, rfl⟩ (fun s' => typeIs_int s' k t) noFill_tuple_mul F.fills_int_mul F.slot_int_rmul repeat_tuple F.slot_int_index.lookup
    (call_meets F.slot_int_rmul (typeIs_int s k t) F.entry_int_rmul (F.args_int_rmul_2 _ _) (int_rmul_tuple k t l #[] n dd sl)
      ⟨ho, rfl, ⟨_, ho, rfl⟩, call_meets F.slot_tuple_mul ⟨_, ho, rfl⟩ F.entry_tuple_mul (F.args_tuple_mul_2 _ _) (tuple_mul_none l n dd sl k t c0) ⟨ho, ?_⟩⟩)
  exact ⟨.ref l, H, I, rfl, q⟩
def rRepN (K : PySem.W.Frag) : R2 := fun x y H Q => ∃ l k xs, x = .ref l ∧ y = .int k ∧ SqT K H l xs ∧ xs ≠ [] ∧ 2 ≤ k ∧ k ≤ 1000 ∧ xs.length ≤ 1000 ∧ NewT H (List.replicate k.toNat xs).flatten Q
theorem rep_few {α : Type} {k : Int} {xs : List α} (h1 : k ≤ 1000) (h2 : xs.length ≤ 1000) : (List.replicate k.toNat xs).flatten.length ≤ sizeLine := by
  rw [PyProof.Rows.lm_len_rep_flat, sizeLine_eq]
  have : k.toNat * xs.length ≤ 1000 * 1000 := Nat.mul_le_mul (by omega) h2
  omega
theorem op_repN {X : Cx} : OpR X (binaryOp .Mult) (rRepN X.K) := fun pins s σ H x y v u Q I rx ry h => by
  obtain ⟨l, k, xs, rfl, rfl, hT, hne, h1, h2, hz, q⟩ := h
  obtain rfl : v = Value.ref l := rx
  obtain ⟨t, rfl⟩ := ry
  obtain ⟨its, r, ⟨⟨cls, dd, data, sl⟩, ho, hc, n, hd⟩, _⟩ := I.tuple hT
  simp only at hc hd
  subst hc hd
  have hl : its.length = xs.length := r.length.symm
  have hp : 0 < its.length := by rw [hl]; exact List.length_pos_iff.mpr hne
  have hi : its.toArray.isEmpty = false := by
    cases its with
    | nil => simp at hp
    | cons _ _ => rfl
  have few := rep_few h2 (show its.length ≤ 1000 by omega)
  have c0 : (decide (k < -(2 ^ 63)) || decide (k ≥ 2 ^ 63)) = false := by
    rw [decide_eq_false (by omega), decide_eq_false (by omega)]; rfl
  have c1 : (its.toArray.isEmpty || k == 1) = false := by rw [hi, Bool.false_or]; exact beq_eq_false_iff_ne.mpr (by omega)
  have c2 : (decide (k ≤ 0) || its.toArray.isEmpty) = false := by rw [hi, Bool.or_false]; exact decide_eq_false (by omega)
  have c3 : ((its.toArray.size : Nat) : Int) * k ≤ 1000000 := by
    rw [List.size_toArray, hl]
    have : ((xs.length : Nat) : Int) * k ≤ 1000 * k := Int.mul_le_mul_of_nonneg_right (by omega) (by omega)
    omega
  have c4 : Builtin.Tuple.tupleTooMany (((its.toArray.size : Nat) : Int) * k) = false := by
    unfold Builtin.Tuple.tupleTooMany
    rw [sizeLine_eq]
    exact decide_eq_false (by omega)
  refine wpAny_binaryOp_repeat_ref (T := "tuple") (U := "int") (by decide) ⟨_, ho, rfl⟩ (fun s' => typeIs_int s' k t) noFill_tuple_mul F.fills_int_mul F.slot_int_rmul repeat_tuple F.slot_int_index.lookup
    (call_meets F.slot_int_rmul (typeIs_int s k t) F.entry_int_rmul (F.args_int_rmul_2 _ _) (int_rmul_tuple k t l its.toArray n dd sl)
      ⟨ho, rfl, ⟨_, ho, rfl⟩, call_meets F.slot_tuple_mul ⟨_, ho, rfl⟩ F.entry_tuple_mul (F.args_tuple_mul_2 _ _) (tuple_mulW l its.toArray n dd sl k t c0 c1 c2 (by omega) c4 (by rw [size_rep, List.size_toArray]; exact few)) ⟨ho, ?_⟩⟩)
  rw [size_rep]
  exact newTup (t' := s.toks) I (r.rep k.toNat) (rep_few h2 hz) (Nat.le_refl _) (fun b ob e => Heap.get?_push_of_some _ e) (Heap.get?_push_size _ rfl) q
def oRepT : O2 := fun _ d1 _ d2 Q => match d1, d2 with
  | .tup xs, .int k => immL xs = true ∧ (2 ≤ k ∧ k ≤ 1000) ∧ xs.length ≤ 1000 ∧ Q true (.tup (List.replicate k.toNat xs).flatten)
  | _, _ => False
def rRepTA (K : PySem.W.Frag) : R2 := fun x y H Q => rRepN K x y H Q ∨ rRepT0 K x y H Q
theorem flat_nil {α : Type} : ∀ n : Nat, (List.replicate n ([] : List α)).flatten = []
  | 0 => rfl
  | n + 1 => by rw [List.replicate_succ, List.flatten_cons, flat_nil n]; rfl
theorem lf_repT {K : PySem.W.Frag} : Lf2 K (rRepTA K) oRepT := fun F H al1 d1 v1 q1 al2 d2 v2 q2 Q R s o1 o2 _ q k => by
  cases d1 <;> first | exact q.elim | skip
  rename_i xs
  cases d2 <;> first | exact q.elim | skip
  rename_i j
  obtain ⟨im, ⟨h1, h2⟩, hz, q⟩ := q
  obtain ⟨a, vs, rfl, hs, rl⟩ := tup_partsN o1.rep
  have := rl.ofImm im
  subst this
  cases xs with
  | nil =>
    have e : vs = [] := by rw [RepL] at rl; exact rl.1
    subst e
    rw [flat_nil] at q
    refine .inr ⟨a, j, rfl, o2.int, s.seqT hs.sq, by omega, by omega, k F H true _ _ [] ⟨?_, Grow.refl s, fun _ => ⟨List.nodup_nil, fun a ha => absurd ha (by simp)⟩⟩ q⟩
    rw [Rep]; exact ⟨a, [], rfl, hs, rl⟩
  | cons x xs =>
    refine .inl ⟨a, j, vs, rfl, o2.int, s.seqT hs.sq, fun z => ?_, h1, h2, by rw [← rl.len]; exact hz, fun p o hp hd => k _ _ _ _ _ _ (Ans.newT s hp hd (rl.rep j.toNat)) q⟩
    rw [z] at rl
    have := rl.len
    simp at this
section
variable {X : Cx} {K : PySem.W.Frag} {a b : Expr} {pos : Pos} {p1 p2 al1 al2 : Bool} {Ta Tb : VT} {ta tb : TE} {xs : List D} {i : Int} {QB : Bool → D → Prop}
theorem ve_repT (hK : X.K = K) (ha : VE X K p1 a ta Ta) (hb : VE X K p2 b tb Tb) : VE X K (p1 && p2) (.BinOp a .Mult b pos) (tOp (rRepTA K) ta tb) (T2 p2 Ta Tb oRepT) := by
  subst hK; exact ve_op (OpR.or op_repN op_repT0) lf_repT ha hb
theorem y_repT : oRepT al1 (.tup xs) al2 (.int i) QB = (immL xs = true ∧ (2 ≤ i ∧ i ≤ 1000) ∧ xs.length ≤ 1000 ∧ K2 QB ⟨⟩ true (.tup (List.replicate i.toNat xs).flatten)) := rfl
end
end VL

namespace VL
open PySem PySem.Spec PyProof.Rows L2
/-! ### loops and comprehensions over rows that are written from lists -/
theorem lc_map {α : Type} {g : α → D} {l : List α} {G : VTG} {Tt : VB} {Te : VT} {vs : List Nat} {Q : SV → List D → Prop} {S : SV} (f : α → Option D) (hl : l.length ≤ sizeLine)
    (hs : ∀ (a : α) (acc : List D) (cont : SV → List D → Prop), a ∈ l → acc.length < sizeLine → cont S (put1 (f a) acc) →
      G (g a) S fun S1 => Tt S1 fun S2 b => (b = true → Te S2 fun S3 al d => al = true ∧ acc.length < sizeLine ∧ cont (wipeS vs S3) (acc ++ [d])) ∧ (b = false → cont (wipeS vs S2) acc))
    (he : Q S (l.filterMap f)) : lcT G Tt Te vs Q (l.map g) S [] := by
  refine lc_by (fun k S' acc => S' = S ∧ acc = (l.take k).filterMap f ∧ acc.length ≤ k) ⟨rfl, by simp, by simp⟩ ?_ ?_
  · rintro k x S' acc cont hx ⟨rfl, rfl, hk⟩ hc
    rw [List.getElem?_map] at hx
    cases e0 : l[k]? with
    | none => rw [e0] at hx; cases hx
    | some a =>
    rw [e0] at hx
    cases hx
    obtain ⟨hlt, ea⟩ := List.getElem?_eq_some_iff.mp e0
    refine hs a _ cont (List.mem_of_getElem? e0) (by omega) (hc _ _ ⟨rfl, ?_, ?_⟩)
    · rw [List.take_add_one, e0, List.filterMap_append]
      cases e : f a <;> simp [put1, e]
    · have := put1_len (o := f a) (acc := (l.take k).filterMap f)
      omega
  · rintro S' acc ⟨rfl, rfl, _⟩
    rw [List.length_map, List.take_length]
    exact he
/-- over a range -/
theorem lc_rgm {lo : Int} {n : Nat} {G : VTG} {Tt : VB} {Te : VT} {vs : List Nat} {Q : SV → List D → Prop} {S : SV} (f : Nat → Option D) (hl : n ≤ sizeLine)
    (hs : ∀ (k : Nat) (acc : List D) (cont : SV → List D → Prop), k < n → acc.length < sizeLine → cont S (put1 (f k) acc) →
      G (.int (lo + (k : Nat))) S fun S1 => Tt S1 fun S2 b => (b = true → Te S2 fun S3 al d => al = true ∧ acc.length < sizeLine ∧ cont (wipeS vs S3) (acc ++ [d])) ∧ (b = false → cont (wipeS vs S2) acc))
    (he : Q S ((List.range n).filterMap f)) : lcT G Tt Te vs Q (rng lo n) S [] :=
  lc_map (g := fun k : Nat => D.int (lo + (k : Nat))) f (by simpa using hl) (fun a acc cont ha => hs a acc cont (List.mem_range.mp ha)) he
theorem for_map {α : Type} {g : α → D} {l : List α} {G : VTG} {U : VTS} {W : VD} {S : SV} (I : Nat → SV → Prop) (h0 : I 0 S)
    (hs : ∀ (k : Nat) (a : α) (S : SV) (cont : SV → Prop), l[k]? = some a → I k S → (∀ S', I (k + 1) S' → cont S') → G (g a) S fun S1 => U { nx := cont, ct := cont, bk := W.nx, rt := W.rt, xc := W.xc } S1)
    (he : ∀ S, I l.length S → W.nx S) : forT G U W (l.map g) S := by
  refine for_by I h0 (fun k x S cont hx hi hc => ?_) (fun S h => he S (by rw [List.length_map] at h; exact h))
  rw [List.getElem?_map] at hx
  cases e0 : l[k]? with
  | none => rw [e0] at hx; cases hx
  | some a =>
    rw [e0] at hx
    cases hx
    exact hs k a S cont e0 hi hc
theorem for_rgm {lo : Int} {n : Nat} {G : VTG} {U : VTS} {W : VD} {S : SV} (I : Nat → SV → Prop) (h0 : I 0 S)
    (hs : ∀ (k : Nat) (S : SV) (cont : SV → Prop), k < n → I k S → (∀ S', I (k + 1) S' → cont S') → G (.int (lo + (k : Nat))) S fun S1 => U { nx := cont, ct := cont, bk := W.nx, rt := W.rt, xc := W.xc } S1)
    (he : ∀ S, I n S → W.nx S) : forT G U W (rng lo n) S := by
  refine for_by I h0 (fun k x S cont hx hi hc => ?_) (fun S h => he S (by rw [rng_len] at h; exact h))
  obtain ⟨h1, rfl⟩ := rng_at hx
  exact hs k S cont h1 hi hc
theorem p2D_eq {p : Int × Int} : p2D p = .tup [.int p.1, .int p.2] := rfl
/-! the ends of a comprehension's turn -/
section
variable {S : SV} {acc : List D} {cont : SV → List D → Prop} {d : D}
theorem lc_e1 (hl : acc.length < sizeLine) (hc : cont S (put1 (some d) acc)) : acc.length < sizeLine ∧ cont S (acc ++ [d]) := ⟨hl, hc⟩
theorem lc_e2 {p : Prop} [Decidable p] (hl : acc.length < sizeLine) (hc : cont S (put1 (if p then some d else none) acc)) : (p → acc.length < sizeLine ∧ cont S (acc ++ [d])) ∧ (¬ p → cont S acc) := by
  by_cases h : p
  · rw [if_pos h] at hc; exact ⟨fun _ => ⟨hl, hc⟩, fun z => absurd h z⟩
  · rw [if_neg h] at hc; exact ⟨fun z => absurd z h, fun _ => hc⟩
end
section
variable {S : SV} {acc : List D} {cont : SV → List D → Prop} {d : D}
theorem lc_e3 {p r : Prop} [Decidable p] [Decidable r] (hl : acc.length < sizeLine) (hc : cont S (put1 (if p ∧ r then some d else none) acc)) : (p → (r → acc.length < sizeLine ∧ cont S (acc ++ [d])) ∧ (¬ r → cont S acc)) ∧ (¬ p → cont S acc) := by
  by_cases h : p
  · by_cases h2 : r
    · rw [if_pos ⟨h, h2⟩] at hc
      exact ⟨fun _ => ⟨fun _ => ⟨hl, hc⟩, fun z => absurd h2 z⟩, fun z => absurd h z⟩
    · rw [if_neg (fun z => h2 z.2)] at hc
      exact ⟨fun _ => ⟨fun z => absurd z h2, fun _ => hc⟩, fun z => absurd h z⟩
  · rw [if_neg (fun z => h z.1)] at hc
    exact ⟨fun z => absurd z h, fun _ => hc⟩
theorem lc_e3o {p r : Prop} [Decidable p] [Decidable r] (hl : acc.length < sizeLine) (hc : cont S (put1 (if p ∨ r then some d else none) acc)) : (¬ p → (r → acc.length < sizeLine ∧ cont S (acc ++ [d])) ∧ (¬ r → cont S acc)) ∧ (p → acc.length < sizeLine ∧ cont S (acc ++ [d])) := by
  by_cases h : p
  · rw [if_pos (.inl h)] at hc
    exact ⟨fun z => absurd h z, fun _ => ⟨hl, hc⟩⟩
  · by_cases h2 : r
    · rw [if_pos (.inr h2)] at hc
      exact ⟨fun _ => ⟨fun _ => ⟨hl, hc⟩, fun z => absurd h2 z⟩, fun z => absurd z h⟩
    · rw [if_neg (fun z => z.elim h h2)] at hc
      exact ⟨fun _ => ⟨fun z => absurd z h2, fun _ => hc⟩, fun z => absurd z h⟩
end
/-- a run by steps that all keep their hold -/
theorem flatMap_snoc {α β : Type} {f : α → List β} {l : List α} {a : α} : (l ++ [a]).flatMap f = l.flatMap f ++ f a := by rw [List.flatMap_append]; simp
theorem take_snoc {α : Type} {l : List α} {k : Nat} {a : α} (h : l[k]? = some a) : l.take (k + 1) = l.take k ++ [a] := by rw [List.take_add_one, h]; rfl
end VL

namespace VL
open PySem PySem.Spec PyProof.Rows L2
/-! ### == of rows, in the walk -/
theorem eqB_dec {neg al1 al2 : Bool} {d e : D} {k k' : Nat} {Q : Bool → D → Prop} {p : Prop} [Decidable p] (h : pln k d = true) (h' : pln k' e = true) (he : fz d = fz e ↔ p) (hk : k ≤ 64 := by decide) (hk' : k' ≤ 64 := by decide)
    (hn : ∀ i, d ≠ .int i) (hn2 : d ≠ .non) : oEqB neg al1 d al2 e Q = Q true (.bl (neg != decide p)) := by
  have e1 : PyData.eqv (toPy d) (toPy e) = decide p := by
    rw [eqv_dec h h']
    exact decide_eq_decide.mpr he
  have deep : (SeqAt.shaped (toPy d) = true ∧ SeqAt.shaped (toPy e) = true ∧ Q true (.bl (neg != PyData.eqv (toPy d) (toPy e)))) = Q true (.bl (neg != decide p)) := by
    rw [e1]
    exact propext ⟨fun z => z.2.2, fun z => ⟨pln_shaped h hk, pln_shaped h' hk', z⟩⟩
  have ss : ∀ i j : Str, (fz (.str i) = fz (.str j) ↔ p) → oEqB neg al1 (.str i) al2 (.str j) Q = Q true (.bl (neg != decide p)) := fun i j he => by
    rw [fz_str, fz_str, D.str.injEq] at he
    show Q true (.bl (neg != decide (i = j))) = _
    rw [decide_eq_decide.mpr he]
  have si : ∀ (i : Str) (j : Int), (fz (.str i) = fz (.int j) ↔ p) → oEqB neg al1 (.str i) al2 (.int j) Q = Q true (.bl (neg != decide p)) := fun i j he => by
    rw [fz_str, fz_int] at he
    show Q true (.bl (neg != false)) = _
    rw [decide_eq_false fun z => nomatch he.mpr z]
  cases d <;> cases e <;> first | exact deep | exact ss _ _ he | exact si _ _ he | (exact absurd rfl (hn _)) | (exact absurd rfl hn2) | (simp [pln] at h; done) | (simp [pln] at h'; done)
theorem pl_tI {l : List Int} : pln 5 (.tup (l.map D.int)) = true := by rw [pln]; exact plnL_ints
theorem pl_lI {m : Bool} {l : List Int} : pln 5 (.lst m (l.map D.int)) = true := by rw [pln]; exact plnL_ints
theorem pl_tP {l : List (Int × Int)} : pln 5 (.tup (l.map p2D)) = true := by rw [pln]; exact plnL_prs
theorem pl_lP {m : Bool} {l : List (Int × Int)} : pln 5 (.lst m (l.map p2D)) = true := by rw [pln]; exact plnL_prs
theorem pl_pr {a b : Int} : pln 5 (.tup [.int a, .int b]) = true := rfl
theorem p2D_inj {p q : Int × Int} (h : p2D p = p2D q) : p = q := by
  unfold p2D at h
  injection h with h
  injection h with h1 h2
  injection h2 with h2 _
  injection h1 with h1
  injection h2 with h2
  exact Prod.ext h1 h2
theorem prsL_inj {a b : List (Int × Int)} (h : a.map p2D = b.map p2D) : a = b := (List.map_inj_right (fun _ _ e => p2D_inj e)).mp h
section
variable {neg al1 al2 m m' : Bool} {l l' : List Int} {p p' : List (Int × Int)} {a b c d : Int} {QB : Bool → D → Prop}
theorem y_eqPr : oEqB neg al1 (.tup [.int a, .int b]) al2 (.tup [.int c, .int d]) QB = K2 QB ⟨⟩ true (.bl (neg != decide (a = c ∧ b = d))) := eqB_dec pl_pr pl_pr (by rw [fz_tup, fz_tup]; simp [fzL, fz]) (by decide) (by decide) (fun _ z => nomatch z) (fun z => nomatch z)
theorem y_eqTI : oEqB neg al1 (.tup (l.map D.int)) al2 (.tup (l'.map D.int)) QB = K2 QB ⟨⟩ true (.bl (neg != decide (l = l'))) := eqB_dec pl_tI pl_tI (by rw [fz_tup, fz_tup, fzL_ints, fzL_ints, D.tup.injEq]; exact ⟨intsL_inj, fun z => by rw [z]⟩) (by decide) (by decide) (fun _ z => nomatch z) (fun z => nomatch z)
theorem y_eqLI : oEqB neg al1 (.lst m (l.map D.int)) al2 (.lst m' (l'.map D.int)) QB = K2 QB ⟨⟩ true (.bl (neg != decide (l = l'))) := eqB_dec pl_lI pl_lI (by rw [fz_lst', fz_lst', fzL_ints, fzL_ints]; exact ⟨fun z => by injection z with _ z; exact intsL_inj z, fun z => by rw [z]⟩) (by decide) (by decide) (fun _ z => nomatch z) (fun z => nomatch z)
theorem y_eqTP : oEqB neg al1 (.tup (p.map p2D)) al2 (.tup (p'.map p2D)) QB = K2 QB ⟨⟩ true (.bl (neg != decide (p = p'))) := eqB_dec pl_tP pl_tP (by rw [fz_tup, fz_tup, fzL_prs, fzL_prs, D.tup.injEq]; exact ⟨prsL_inj, fun z => by rw [z]⟩) (by decide) (by decide) (fun _ z => nomatch z) (fun z => nomatch z)
theorem y_eqLP : oEqB neg al1 (.lst m (p.map p2D)) al2 (.lst m' (p'.map p2D)) QB = K2 QB ⟨⟩ true (.bl (neg != decide (p = p'))) := eqB_dec pl_lP pl_lP (by rw [fz_lst', fz_lst', fzL_prs, fzL_prs]; exact ⟨fun z => by injection z with _ z; exact prsL_inj z, fun z => by rw [z]⟩) (by decide) (by decide) (fun _ z => nomatch z) (fun z => nomatch z)
theorem y_eqLInil : oEqB neg al1 (.lst m (l.map D.int)) al2 (.lst m' []) QB = K2 QB ⟨⟩ true (.bl (neg != decide (l = []))) := y_eqLI (l' := [])
theorem y_eqLPnil : oEqB neg al1 (.lst m (p.map p2D)) al2 (.lst m' []) QB = K2 QB ⟨⟩ true (.bl (neg != decide (p = []))) := y_eqLP (p' := [])
theorem y_eqTInil : oEqB neg al1 (.tup (l.map D.int)) al2 (.tup []) QB = K2 QB ⟨⟩ true (.bl (neg != decide (l = []))) := y_eqTI (l' := [])
end
/-! in, in the walk -/
theorem in_dec {neg al1 al2 : Bool} {d : D} {xs : List D} {k k' : Nat} {QB : Bool → D → Prop} {p : Prop} [Decidable p] {e : D} (he : e = .tup xs ∨ ∃ m, e = .lst m xs) (h : pln k d = true) (h' : plnL k' xs = true) (hp : fz d ∈ fzL xs ↔ p) (hk : k ≤ 60 := by decide) (hk' : k' ≤ 60 := by decide) :
    oIn neg al1 d al2 e QB = K2 QB ⟨⟩ true (.bl (neg != decide p)) := by
  refine propext ⟨fun z => ?_, fun z => ⟨k, k', xs, he, h, h', hk, hk', fun b hb => ?_⟩⟩
  · obtain ⟨_, _, ys, hy, _, _, _, _, q⟩ := z
    have : ys = xs := by
      rcases he with rfl | ⟨m, rfl⟩ <;> rcases hy with hy | ⟨m', hy⟩ <;> first | (injection hy with h1; exact h1.symm) | (injection hy with _ h1; exact h1.symm) | cases hy
    subst this
    exact q (decide p) (by rw [decide_eq_true_eq]; exact hp.symm)
  · have : b = decide p := by
      rw [Bool.eq_iff_iff, decide_eq_true_eq, hb, hp]
    rw [this]; exact z
section
variable {neg al1 al2 m : Bool} {l : List Int} {p : List (Int × Int)} {a b c d : Int} {QB : Bool → D → Prop}
theorem c_inIL {mk : Mk QB} : CO2 (oIn neg) al1 (.int a) al2 (.lst m (l.map D.int)) QB mk = K2 QB ⟨⟩ true (.bl (neg != decide (a ∈ l))) := in_dec (k := 0) (k' := 0) (.inr ⟨_, rfl⟩) rfl plnL_ints (by rw [fzL_ints, fz_int]; simp)
theorem c_inIT {mk : Mk QB} : CO2 (oIn neg) al1 (.int a) al2 (.tup (l.map D.int)) QB mk = K2 QB ⟨⟩ true (.bl (neg != decide (a ∈ l))) := in_dec (k := 0) (k' := 0) (.inl rfl) rfl plnL_ints (by rw [fzL_ints, fz_int]; simp)
theorem pr_mem {a b : Int} {p : List (Int × Int)} : fz (.tup [.int a, .int b]) ∈ fzL (p.map p2D) ↔ (a, b) ∈ p := by
  rw [fzL_prs, List.mem_map]
  have e : fz (.tup [.int a, .int b]) = p2D (a, b) := by rw [fz_tup]; rfl
  rw [e]
  exact ⟨fun ⟨x, h1, h2⟩ => by rw [← p2D_inj h2]; exact h1, fun h => ⟨_, h, rfl⟩⟩
theorem c_inPL {mk : Mk QB} : CO2 (oIn neg) al1 (.tup [.int a, .int b]) al2 (.lst m (p.map p2D)) QB mk = K2 QB ⟨⟩ true (.bl (neg != decide ((a, b) ∈ p))) := in_dec (k := 5) (k' := 5) (.inr ⟨_, rfl⟩) pl_pr plnL_prs pr_mem
theorem c_inPT {mk : Mk QB} : CO2 (oIn neg) al1 (.tup [.int a, .int b]) al2 (.tup (p.map p2D)) QB mk = K2 QB ⟨⟩ true (.bl (neg != decide ((a, b) ∈ p))) := in_dec (k := 5) (k' := 5) (.inl rfl) pl_pr plnL_prs pr_mem
theorem c_inI2 {mk : Mk QB} : CO2 (oIn neg) al1 (.int a) al2 (.tup [.int b, .int c]) QB mk = K2 QB ⟨⟩ true (.bl (neg != decide (a = b ∨ a = c))) := in_dec (k := 0) (k' := 0) (.inl rfl) rfl rfl (by simp [fzL, fz])
theorem c_inI3 {mk : Mk QB} : CO2 (oIn neg) al1 (.int a) al2 (.tup [.int b, .int c, .int d]) QB mk = K2 QB ⟨⟩ true (.bl (neg != decide (a = b ∨ a = c ∨ a = d))) := in_dec (k := 0) (k' := 0) (.inl rfl) rfl rfl (by simp [fzL, fz])
theorem c_inP2 {a' b' a2 b2 : Int} {mk : Mk QB} : CO2 (oIn neg) al1 (.tup [.int a, .int b]) al2 (.tup [.tup [.int a', .int b'], .tup [.int a2, .int b2]]) QB mk = K2 QB ⟨⟩ true (.bl (neg != decide ((a = a' ∧ b = b') ∨ (a = a2 ∧ b = b2)))) := in_dec (k := 5) (k' := 5) (.inl rfl) pl_pr rfl (by simp [fzL, fz])
end
end VL

namespace VL
open PySem PySem.Spec PyProof.Rows L2
/-! ### two ways that meet again, with one thing that may differ -/
theorem join2 {α : Type} {P B : α → Prop} {A c : Prop} (a : α) (key : ∀ a', P a' → B a') (hA : (∀ a', P a' → B a') → c → A) (ha : P a) : (c → A) ∧ (¬ c → B a) := ⟨hA key, fun _ => key a ha⟩
theorem join2' {α : Type} {P B : α → Prop} {A c : Prop} (a : α) (key : ∀ a', P a' → B a') (hA : (∀ a', P a' → B a') → ¬ c → A) (ha : P a) : (c → B a) ∧ (¬ c → A) := ⟨fun _ => key a ha, hA key⟩
/-! maps drawn out -/
theorem cutD_map {α β : Type} {f : α → β} {l : List α} {lo hi : Option Int} : cutD (l.map f) lo hi = (cutD l lo hi).map f := by
  unfold cutD; rw [List.length_map, ← List.map_drop, ← List.map_take]
theorem rep_map {α β : Type} {f : α → β} {l : List α} {k : Nat} : (List.replicate k (l.map f)).flatten = ((List.replicate k l).flatten).map f := by
  rw [List.map_flatten, List.map_replicate]
theorem cutD_mem {α : Type} {l : List α} {lo hi : Option Int} {x : α} (h : x ∈ cutD l lo hi) : x ∈ l := List.mem_of_mem_drop (List.mem_of_mem_take h)
theorem rep_mem {α : Type} {l : List α} {k : Nat} {x : α} (h : x ∈ (List.replicate k l).flatten) : x ∈ l := by
  obtain ⟨m, hm, hx⟩ := List.mem_flatten.mp h
  rw [(List.mem_replicate.mp hm).2] at hx; exact hx
/-! ### dicts that hold what is known -/
theorem inK_ints {K : List Int} {i : Int} : inK (K.map Sum.inl) (.inl i) = decide (i ∈ K) := by
  by_cases h : i ∈ K
  · rw [decide_eq_true h, inK_iff]
    exact List.mem_map.mpr ⟨i, h, rfl⟩
  · rw [decide_eq_false h]
    refine inK_no fun z => ?_
    obtain ⟨j, hj, e⟩ := List.mem_map.mp z
    cases e
    exact h hj
abbrev knD (m : Bool) (K : List Int) : D := .dK m (K.map Sum.inl) (K.map fun _ => .bl true)
def insK (K : List Int) (x : Int) : List Int := if x ∈ K then K else K ++ [x]
theorem insK_mem {K : List Int} {x y : Int} : y ∈ insK K x ↔ y = x ∨ y ∈ K := by
  unfold insK
  by_cases h : x ∈ K
  · rw [if_pos h]; exact ⟨.inr, fun z => z.elim (fun e => by rw [e]; exact h) id⟩
  · rw [if_neg h, List.mem_append, List.mem_singleton]; exact ⟨fun z => z.symm, fun z => z.symm⟩
theorem insK_nd {K : List Int} {x : Int} (h : K.Nodup) : (insK K x).Nodup := by
  unfold insK
  by_cases hx : x ∈ K
  · rw [if_pos hx]; exact h
  · rw [if_neg hx]; exact List.nodup_append.mpr ⟨h, by simp, fun a ha b hb e => by rw [List.mem_singleton] at hb; subst hb; subst e; exact hx ha⟩
theorem knd_keys {K : List Int} (h : K.Nodup) : (K.map (Sum.inl : Int → Key)).Nodup := List.pairwise_map.mpr (List.Pairwise.imp (fun h e => h (by cases e; rfl)) h)
theorem kn_set {K : List Int} {i : Int} {Q : D → D → Prop} (hn : K.Nodup) (hz : K.length < 1000000) (q : Q (knD true (insK K i)) .non) : oDSet (knD true K) (.int i, .bl true) Q := by
  unfold oDSet
  refine ⟨knd_keys hn, by rw [List.length_map, line_eq]; omega, fun hi => ?_, fun j hj => ?_⟩
  · have : i ∉ K := fun z => hi (List.mem_map.mpr ⟨i, z, rfl⟩)
    unfold insK at q
    rw [if_neg this] at q
    unfold knD at q
    rw [List.map_append, List.map_append] at q
    exact q
  · obtain ⟨x, hx, e⟩ := List.mem_map.mp (List.mem_of_getElem? hj)
    cases e
    unfold insK at q
    rw [if_pos hx] at q
    have e2 : (K.map fun _ => D.bl true).set j (.bl true) = K.map fun _ => D.bl true := by
      rw [List.map_const', List.set_replicate_self]
    rw [e2]
    exact q
theorem kn_set' {K : List Int} {i : Int} {Q : D → D → Prop} {mk : Mk Q} (hn : K.Nodup) (hz : K.length < 1000000) (q : Q (knD true (insK K i)) .non) : COD (knD true K) (.int i, .bl true) Q mk := kn_set hn hz q
/-- all of a row known -/
def insL (K ns : List Int) : List Int := ns.foldl insK K
theorem insL_nil {K : List Int} : insL K [] = K := rfl
theorem insL_snoc {K ns : List Int} {x : Int} : insL K (ns ++ [x]) = insK (insL K ns) x := by unfold insL; rw [List.foldl_append]; rfl
theorem insL_cons {K ns : List Int} {x : Int} : insL K (x :: ns) = insL (insK K x) ns := rfl
theorem insL_mem {y : Int} : ∀ {ns K : List Int}, y ∈ insL K ns ↔ y ∈ K ∨ y ∈ ns
  | [], K => by rw [insL_nil]; simp
  | x :: ns, K => by
    rw [insL_cons, insL_mem, insK_mem, List.mem_cons]
    constructor
    · rintro ((h | h) | h)
      · exact .inr (.inl h)
      · exact .inl h
      · exact .inr (.inr h)
    · rintro (h | h | h)
      · exact .inl (.inr h)
      · exact .inl (.inl h)
      · exact .inr h
theorem insL_nd : ∀ {ns K : List Int}, K.Nodup → (insL K ns).Nodup
  | [], _, h => h
  | x :: ns, K, h => by rw [insL_cons]; exact insL_nd (insK_nd h)
theorem insK_len {K : List Int} {x : Int} : (insK K x).length ≤ K.length + 1 := by unfold insK; split <;> simp
theorem insL_len : ∀ {ns K : List Int}, (insL K ns).length ≤ K.length + ns.length
  | [], _ => by rw [insL_nil]; simp
  | x :: ns, K => by
    rw [insL_cons, List.length_cons]
    have h1 := insL_len (ns := ns) (K := insK K x)
    have h2 := insK_len (K := K) (x := x)
    omega
/-- a loop that makes a row known -/
theorem for_kn {G : VTG} {U : VTS} {W : VD} {ns : List Int} {S : SV} (f : List Int → D → SV) (hl : ns.length < 1000000) (h0 : ∃ x, S = f [] x)
    (hs : ∀ (K : List Int) (x : D) (n : Int) (cont : SV → Prop), K.Nodup → K.length < 1000000 → (∀ y, cont (f (insK K n) y)) → G (.int n) (f K x) fun S1 => U { nx := cont, ct := cont, bk := W.nx, rt := W.rt, xc := W.xc } S1)
    (he : ∀ x, W.nx (f (insL [] ns) x)) : forT G U W (ns.map D.int) S := by
  refine for_map (fun k S => ∃ x, S = f (insL [] (ns.take k)) x) h0 ?_ ?_
  · rintro k n S cont hk ⟨x, rfl⟩ hc
    refine hs _ x n cont (insL_nd List.nodup_nil) ?_ fun y => hc _ ⟨y, ?_⟩
    · have := insL_len (ns := ns.take k) (K := [])
      rw [List.length_take, List.length_nil] at this
      omega
    · rw [take_snoc hk, insL_snoc]
  · rintro S ⟨x, rfl⟩
    rw [List.take_length]
    exact he x
theorem nofzL_kn {K : List Int} : nofzL (K.map fun _ => D.bl true) = true := by induction K with | nil => rfl | cons a K ih => rw [List.map_cons, nofzL_cons, ih]; rfl
theorem ln0 : (0 ≤ sizeLine) = True := eq_true (by decide)
theorem ln1 : (1 ≤ sizeLine) = True := eq_true (by decide)
theorem ln2 : (2 ≤ sizeLine) = True := eq_true (by decide)
theorem ln3 : (3 ≤ sizeLine) = True := eq_true (by decide)
theorem ln4 : (4 ≤ sizeLine) = True := eq_true (by decide)
theorem ln5 : (5 ≤ sizeLine) = True := eq_true (by decide)
theorem ln6 : (6 ≤ sizeLine) = True := eq_true (by decide)
theorem ln7 : (7 ≤ sizeLine) = True := eq_true (by decide)
theorem ln8 : (8 ≤ sizeLine) = True := eq_true (by decide)
theorem ln9 : (9 ≤ sizeLine) = True := eq_true (by decide)
theorem ln10 : (10 ≤ sizeLine) = True := eq_true (by decide)
theorem ln11 : (11 ≤ sizeLine) = True := eq_true (by decide)
theorem ln12 : (12 ≤ sizeLine) = True := eq_true (by decide)
theorem lnz : (0 < sizeLine) = True := eq_true (by decide)
theorem immL_kn {K : List Int} : immL (K.map fun _ => D.bl true) = true := immL_map fun _ _ => imm_bl
theorem fzL_kn {K : List Int} : fzL (K.map fun _ => D.bl true) = K.map fun _ => D.bl true := fzL_map fun _ _ => fz_bl
end VL

namespace VL
open PySem PySem.Spec PyProof.Rows L2
/-! ### enumerate over a tuple (a list, too) -/
set_option maxHeartbeats 1000000 in
theorem enum_newB {v : Value} {o : Obj} {H : Heap → Prop} (B : Begins v o H) :
    Meets (Builtin.«enumerate.__new__» ⟨[.type "enumerate", v], []⟩) (fun _ R s => H s.heap ∧
      R (.ok (.ret (.ref (s.heap.push o).objs.size))) { s with heap := (s.heap.push o).push { cls := .type "enumerate", data := .fields #[.none, .bool false, .ref s.heap.objs.size, rawInt 0, .none, .none] } }) :=
  .of_wp fun prog w A R s h => by
    obtain ⟨hp, g, d, tk, os⟩ := s; obtain ⟨h1, h⟩ := h
    have hsub := sub_enumerate
    have q1 : ∀ {A' : Around} {E : Value → Shared → Prop} {Q : Value → Shared → Prop}, Q (.ref hp.objs.size) ⟨hp.push o, g, d, tk, os⟩ → wpAny (model prog w) A' (pyIter v) Q E ⟨hp, g, d, tk, os⟩ :=
      fun q => B.iter prog w _ _ ⟨hp, g, d, tk, os⟩ _ h1 q
    wp_walk using q1
    refine wpAny_stack_any fun st => wpAny_pure ?_
    split
    · rename_i c _ _ _ _ _
      cases (c == Value.type "enumerate")
      · wp_walk using q1
        exact ⟨_, rfl, h⟩
      · wp_walk using q1
        exact ⟨_, rfl, h⟩
    · wp_walk using q1
      exact ⟨_, rfl, h⟩
section
variable {prog : Program} {w : World} {A : Around} {E : Value → Shared → Prop} {s : Shared}
theorem enum_begins0 {v : Value} {o : Obj} {H : Heap → Prop} {Q : Value → Shared → Prop} (B : Begins v o H) (h1 : H s.heap)
    (h : ∀ h', IsEnum h' (s.heap.objs.size + 1) s.heap.objs.size 0 .none → h'.get? s.heap.objs.size = some o → h'.objs.size = s.heap.objs.size + 2 →
      (∀ b o, s.heap.get? b = some o → h'.get? b = some o) → Q (.ref (s.heap.objs.size + 1)) { s with heap := h' }) :
    wpAny (model prog w) A (call (.type "enumerate") [v]) Q E s := by
  refine callType_new F.called_enumerate (by decide) (F.typeCall_enumerate_1 _) (F.newCall_enumerate_1 _) (fun obj => F.args_object_init_2 obj _) F.entry_enumerate_new
    (enum_newB B) ⟨h1, ?_⟩
  have hz : (s.heap.push o).objs.size = s.heap.objs.size + 1 := Heap.size_push ..
  show _ ∧ _
  rw [hz]
  have he : IsEnum ((s.heap.push o).push { cls := .type "enumerate", data := .fields #[.none, .bool false, .ref s.heap.objs.size, rawInt 0, .none, .none] }) (s.heap.objs.size + 1) s.heap.objs.size 0 .none := by
    have := Heap.get?_push_size (s.heap.push o) (o := { cls := .type "enumerate", data := .fields #[.none, .bool false, .ref s.heap.objs.size, rawInt 0, .none, .none] }) rfl
    rw [hz] at this; exact this
  refine ⟨⟨_, he, rfl⟩, h _ he (Heap.get?_push_of_some _ (Heap.get?_push_size _ B.free)) (by rw [Heap.size_push, hz]) fun b o x => Heap.get?_push_of_some _ (Heap.get?_push_of_some _ x)⟩
end
def SqX (K : PySem.W.Frag) (t : Bool) (H : Hp) (a : Addr) (xs : List V) : Prop := if t = true then SqT K H a xs else SqL K H a xs
def itX (t : Bool) (a : Addr) : Obj := if t = true then { cls := .type "tuple_iterator", data := .fields #[.ref a, .int 0 0] } else { cls := .type "list_iterator", data := .fields #[.ref a, .int 0 0] }
def AtX (t : Bool) (h : Heap) (it a : Addr) (i : Nat) : Prop := if t = true then h.IsTupleIter it a i else h.IsListIter it a i
def SrcX (t : Bool) (h : Heap) (a : Addr) (its : Array Value) : Prop := if t = true then h.IsTuple a its else h.IsList a its
theorem SqX.sub {K : PySem.W.Frag} {t : Bool} {F F' : Hp} {a : Addr} {xs : List V} (s : Sub F F') (h : SqX K t F a xs) : SqX K t F' a xs := by
  cases t
  · exact s.seqL (show SqL K F a xs from h)
  · exact s.seqT (show SqT K F a xs from h)
theorem AtX.obj {t : Bool} {h : Heap} {it a : Addr} {i : Nat} (x : AtX t h it a i) : ∃ o, h.get? it = some o ∧ ∀ v, o.data ≠ .cell v := by
  cases t
  · obtain ⟨o, e, _, d⟩ := (show h.IsListIter it a i from x)
    exact ⟨o, e, fun v q => by rw [d] at q; cases q⟩
  · obtain ⟨o, e, _, d⟩ := (show h.IsTupleIter it a i from x)
    exact ⟨o, e, fun v q => by rw [d] at q; cases q⟩
theorem AtX.at {t : Bool} {h h' : Heap} {it a : Addr} {i : Nat} (x : AtX t h it a i) (k : ∀ o, h.get? it = some o → h'.get? it = some o) : AtX t h' it a i := by
  cases t
  · exact Heap.IsListIter.at (show h.IsListIter it a i from x) k
  · exact Heap.IsTupleIter.at (show h.IsTupleIter it a i from x) k
theorem SrcX.keep {t : Bool} {h h' : Heap} {a : Addr} {its : Array Value} (x : SrcX t h a its) (k : ∀ o, h.get? a = some o → h'.get? a = some o) : SrcX t h' a its := by
  cases t
  · exact (show h.IsList a its from x).at k
  · exact (show h.IsTuple a its from x).at k
theorem beginsX (t : Bool) (a : Addr) (its : Array Value) : Begins (.ref a) (itX t a) fun h => SrcX t h a its := by
  cases t
  · exact begins_list a its
  · exact begins_tuple a its
theorem drawsX {prog : Program} {w : World} {A : Around} (t : Bool) (hh : A.handled = none) (it a : Addr) (hne : a ≠ it) (its : Array Value) : Draws prog w A it [it, a] its.size (fun i v => its[i]? = some v) (fun i h => AtX t h it a i ∧ SrcX t h a its) := by
  cases t
  · exact Draws.list hh it a hne its
  · exact Draws.tuple hh it a hne its
/-- the end alone -/
theorem drawsE {prog : Program} {w : World} {A : Around} (t : Bool) (hh : A.handled = none) (it a : Addr) (its : Array Value) {i : Nat} (hi : its[i]? = none) : Draws prog w A it [it, a] i (fun _ _ => False) (fun j h => j = i ∧ AtX t h it a i ∧ SrcX t h a its) where
  live := fun _ _ st => let ⟨o, e, _⟩ := st.2.1.obj; ⟨o, e⟩
  frame := fun _ _ _ st k => ⟨st.1, st.2.1.at fun o e => k it (by simp) o e, st.2.2.keep fun o e => k a (by simp) o e⟩
  item := fun j s Q E hj st _ => absurd st.1 (by omega)
  done := fun s Q E st hE => by
    cases t
    · exact wpAny_nextOf_list_end hh st.2.1 st.2.2 hi fun h' x e c => hE h' x e c
    · exact wpAny_nextOf_tuple_end hh st.2.1 st.2.2 hi fun h' x e c => hE h' x e c
theorem Inv.srcX {X : Cx} {pins : List (Addr × Obj)} {σ : L2.St} {H : Hp} {s : Shared} {t : Bool} {a : Addr} {xs : List V} (I : Inv X pins σ H s) (h : SqX X.K t H a xs) : ∃ its : List Value, Vals xs its ∧ SrcX t s.heap a its.toArray := by
  cases t
  · obtain ⟨its, rv, p, _⟩ := I.list (show SqL X.K H a xs from h)
    exact ⟨its, rv, p.isList⟩
  · obtain ⟨its, rv, p, _⟩ := I.tuple (show SqT X.K H a xs from h)
    exact ⟨its, rv, p⟩
theorem Inv.injX {X : Cx} {pins : List (Addr × Obj)} {σ : L2.St} {H : Hp} {s : Shared} {t : Bool} {a : Addr} {xs ys : List V} (I : Inv X pins σ H s) (h : SqX X.K t H a xs) (h' : SqX X.K t H a ys) : xs = ys := by
  cases t
  · exact I.list_inj h h'
  · exact I.tuple_inj h h'
section
variable {K : PySem.W.Frag} {F H : Hp}
/-- a new pair of fixed things, its own object told -/
theorem pair_newF {F' H' : Hp} {T : Addr} {o : Obj} {x y : D} {u v : V} (s : Sub F' H') (hT : H' T = none) (hd : o.dict = none) (rx : Rep K F' H' x u []) (ry : Rep K F' H' y v []) : Grow F' H' (upd F' T (.frz o (.tup [u, v]))) (upd H' T (.frz o (.tup [u, v]))) ∧ Rep K (upd F' T (.frz o (.tup [u, v]))) (upd H' T (.frz o (.tup [u, v]))) (.tup [x, y]) (.ref T) [] := by
  have gr : Grow F' H' (upd F' T (.frz o (.tup [u, v]))) (upd H' T (.frz o (.tup [u, v]))) := Grow.fixed s hT
  refine ⟨gr, ?_⟩
  rw [Rep]
  refine ⟨T, [u, v], rfl, .inl ⟨o, upd_same, hd⟩, ?_⟩
  rw [RepL]
  refine ⟨u, [v], [], [], rfl, rfl, rx.mono gr.fsub fun a ha => absurd ha (by simp), ?_⟩
  rw [RepL]
  exact ⟨v, [], [], [], rfl, rfl, ry.mono gr.fsub fun a ha => absurd ha (by simp), by rw [RepL]; exact ⟨rfl, rfl⟩⟩
theorem srcD {F H : Hp} {d : D} {v : V} (r : Rep K F H d v []) {xs : List D} (h : d = .tup xs ∨ d = .lst false xs) : ∃ t a vs, v = .ref a ∧ SqX K t F a vs ∧ RepL K F H xs vs [] := by
  rcases h with rfl | rfl
  · rw [Rep] at r
    obtain ⟨a, vs, rfl, h1, rl⟩ := r
    exact ⟨true, a, vs, rfl, h1.sq, rl⟩
  · rw [Rep] at r
    obtain ⟨a, vs, fq, rfl, rl, z | ⟨_, h1, _, rfl⟩⟩ := r
    · exact nomatch z.1
    · exact ⟨false, a, vs, rfl, h1, rl⟩
end
def IteX (K : PySem.W.Frag) (t : Bool) (a : Addr) : It :=
  ⟨fun i H => ∃ (xs : List V) (x : V), SqX K t H a xs ∧ xs[i]? = some x, fun i H v H' => ∃ T o x, v = .ref T ∧ H T = none ∧ o.dict = none ∧ H' = upd H T (.frz o (.tup [.int (i : Nat), x])) ∧ ∀ xs, SqX K t H a xs → xs[i]? = some x, fun i H => ∃ xs : List V, SqX K t H a xs ∧ xs.length ≤ i⟩
theorem turn_enumX {P : Program} {w : World} {K : PySem.W.Frag} {elts : List Expr} {kk : Nat} {tpos : Pos} {t : Bool} (a e it : Addr) (hea : e ≠ a) (hai : a ≠ it) :
    Turn P w K (.Tuple elts kk tpos) (IteX K t a) [e, it] e (fun i h => (∃ old, IsEnum h e it ((i : Nat) : Int) old) ∧ AtX t h it a i ∧ e ≠ it) where
  mem := by simp
  obj := fun i h st b hb => by
    obtain ⟨⟨old, he⟩, h1, _⟩ := st
    have e' : b = e ∨ b = it := by simpa using hb
    rcases e' with z | z
    · rw [z]; exact ⟨_, he, fun v q => nomatch q⟩
    · rw [z]; exact h1.obj
  keep := fun i h h' st k => let ⟨⟨old, he⟩, hi, hne⟩ := st; ⟨⟨old, k e (by simp) _ he⟩, hi.at fun o q => k it (by simp) o q, hne⟩
  item := by
    intro X hP hw hK hc i pins s σ H E I hf st hg
    subst hP hw hK
    obtain ⟨⟨old, he⟩, hit, hne⟩ := st
    obtain ⟨xs, x, hq, hx⟩ := hg
    obtain ⟨its, rv, p⟩ := Inv.srcX I hq
    obtain ⟨u, hu, ru⟩ := rv.get hx
    have hel : e < s.heap.objs.size := Heap.lt_size he
    have hil : it < s.heap.objs.size := by obtain ⟨_, q, _⟩ := hit.obj; exact Heap.lt_size q
    have hi : i < its.toArray.size := by simpa using (List.getElem?_eq_some_iff.mp hu).1
    refine wpAny_pyNext_enum_itemD (drawsX (A := X.A.in1) t (by rw [← I.ok.hd hc]) it a hai its.toArray) he ⟨hit, p⟩ hi hne (by simp [hne, hea]) fun x' h' tk hPx ho hit' hT hsz hk => ?_
    have ex : x' = u := by
      have e1 : its[i]? = some x' := by simpa using hPx
      rw [hu] at e1; exact (Option.some.inj e1).symm
    subst ex
    refine ⟨_, rfl, wpAny_letOwnedTupleGo_enum (s := { s with heap := h', toks := tk + 1 }) ho fun h'' he' sb => ?_⟩
    have hT2 : h''.get? s.heap.objs.size = some { cls := .type "tuple", data := .seq #[.int i tk, x'] } := (sb.2 _ (Nat.ne_of_gt hel)).trans hT
    have new : ObjOk X.prog X.w (upd H s.heap.objs.size (.frz { cls := .type "tuple", data := .seq #[.int i tk, x'] } (.tup [.int (i : Nat), x]))) h'' s.heap.objs.size (.frz { cls := .type "tuple", data := .seq #[.int i tk, x'] } (.tup [.int (i : Nat), x])) :=
      ⟨hT2, by show 2 ≤ sizeLine; decide, [.int i tk, x'], .cons ⟨_, rfl⟩ (.cons ru .nil), ⟨_, hT2, rfl, _, rfl⟩⟩
    have I1 := I.turnedNew (t' := tk + 1) (ch := [e, it]) (fun b ob hb q => (sb.2 b (fun z => hb (by simp [z]))).trans (hk b ob (fun z => hb (by simp [z])) (fun z => hb (by simp [z])) q)) hf (Nat.le_refl _) new
    refine ⟨.ref s.heap.objs.size, _, I1, rfl, ⟨_, _, x, rfl, I.hok.fresh (Nat.le_refl _), rfl, rfl, fun ys hy => by rw [Inv.injX I hy hq]; exact hx⟩, ⟨⟨x', ?_⟩, hit'.1.at fun o q => (sb.2 it (Ne.symm hne)).trans q, hne⟩, fun b hb => ?_⟩
    · have e1 : ((i + 1 : Nat) : Int) = (i : Int) + 1 := by omega
      rw [e1]; exact he'
    · have hb' : b < s.heap.objs.size := by
        have e' : b = e ∨ b = it := by simpa using hb
        rcases e' with z | z
        · rw [z]; exact hel
        · rw [z]; exact hil
      rw [upd_ne (Nat.ne_of_lt hb')]
      exact (hf b hb).1
  done := by
    intro X hP hw hK hc i pins s σ H E I hf st hg
    subst hP hw hK
    obtain ⟨⟨old, he⟩, hit, hne⟩ := st
    obtain ⟨xs, hq, hx⟩ := hg
    obtain ⟨its, rv, p⟩ := Inv.srcX I hq
    obtain ⟨f0, f1, f2, f3, f4, f5⟩ := hf it (by simp)
    have hl := rv.length
    have m : its.toArray[i]? = none := by simp; omega
    refine wpAny_pyNext_enum_endD (drawsE (A := X.A.in1) t (by rw [← I.ok.hd hc]) it a its.toArray m) he ⟨rfl, hit, p⟩ fun h' eb => ⟨rfl, I.turned (t' := s.toks) (fun b o hb q => eb b o hb q) f0 f1 f3 f4 f5⟩
  self := fun A i s Q E st h => let ⟨⟨_, he⟩, _⟩ := st; wpAny_pyIter_enum he h
def iEnumA (K : PySem.W.Frag) (ta : TA) : TI := fun σ H R => ta σ H fun vs H1 => ∃ t a xs, vs = [.ref a] ∧ SqX K t H1 a xs ∧ R (IteX K t a) H1
theorem pi_enumA {X : Cx} {e : Expr} {ta : TA} {p pos tpos : Pos} {elts : List Expr} {kk : Nat} (hg : Gl X "enumerate") (hm : X.mg "enumerate" = none) (ha : PA X [e] ta) (hs : starEach [e] X.env = [(false, eval e X.env)] := by rfl) :
    PI X (.Tuple elts kk tpos) (.Call (.Name "enumerate" p) [e] [] pos) (iEnumA X.K ta) := by
  refine ⟨fun pins s σ H R I h => ?_⟩
  refine Call_ (ld_blt I hg hm boot_enumerate (PyProof.Rows.callWith_type1 (L2.thn (ha.run pos pins s σ H _ I h) fun us s1 ⟨vs, H1, I1, r1, q1⟩ => ?_) hs rfl))
  obtain ⟨t, a, xs, ex, hq, q⟩ := q1
  subst ex
  have fp : ∀ b ∈ [s1.heap.objs.size + 1, s1.heap.objs.size], FpOk X pins H1 b := fun b hb => by
    have e' : b = s1.heap.objs.size + 1 ∨ b = s1.heap.objs.size := by simpa using hb
    have hle : s1.heap.objs.size ≤ b := by
      rcases e' with z | z
      · rw [z]; exact Nat.le_add_right _ _
      · rw [z]; exact Nat.le_refl _
    exact I1.fpOk hle (I1.hok.fresh hle)
  cases r1 with
  | cons r rr =>
    cases rr
    cases r
    obtain ⟨its, rv, p1⟩ := Inv.srcX I1 hq
    have la : a < s1.heap.objs.size := by
      cases t
      · obtain ⟨_, e, _⟩ := (show s1.heap.IsList a its.toArray from p1); exact Heap.lt_size e
      · obtain ⟨_, e, _⟩ := (show s1.heap.IsTuple a its.toArray from p1); exact Heap.lt_size e
    refine enum_begins0 (beginsX t a its.toArray) p1 fun h' he hit hsz hk => wpAny_pyIter_enum he ?_
    have at1 : AtX t h' s1.heap.objs.size a 0 := by
      cases t
      · exact ⟨_, hit, rfl, rfl⟩
      · exact ⟨_, hit, rfl, rfl⟩
    exact ⟨s1.heap.objs.size + 1, [s1.heap.objs.size + 1, s1.heap.objs.size], _, _, H1, rfl, I1.kept (t' := s1.toks) hk, turn_enumX a (s1.heap.objs.size + 1) s1.heap.objs.size (Nat.ne_of_gt (Nat.lt_succ_of_lt la)) (Nat.ne_of_lt la), ⟨⟨.none, he⟩, at1, Nat.succ_ne_self _⟩, fp, q⟩
section
variable {K : PySem.W.Frag} {F H : Hp}
theorem itok_enumX {t : Bool} {a : Addr} {vs : List V} {ds : List D} (h : SqX K t F a vs) (r : RepL K F H ds vs []) : ItOk K (IteX K t a) F (enumD ds) := fun F' H' s1 s2 => by
  have hs : SqX K t H' a vs := h.sub (s1.trans s2)
  have hl := r.len
  refine ⟨fun i d e => ?_, fun i hi => ⟨vs, hs, ?_⟩⟩
  · obtain ⟨x, ex, rfl⟩ := enumD_at e
    obtain ⟨v, ev, rv⟩ := r.at0 ex
    refine ⟨⟨vs, v, hs, ev⟩, fun w H'' z => ?_⟩
    obtain ⟨T, o, v', rfl, hT, hd, rfl, z1⟩ := z
    have e1 := z1 vs hs
    rw [ev] at e1
    cases e1
    exact ⟨_, pair_newF s2 hT hd (by rw [Rep]; exact ⟨rfl, rfl⟩) (rv.mono s1 fun b hb => absurd hb (by simp))⟩
  · unfold enumD at hi
    rw [List.length_map, List.length_zipIdx] at hi
    omega
end
def TIEnumA (T : VT) : VTI := fun S Q => T S fun S1 al d => al = true ∧ match d with
  | .lst _ xs => Q S1 (enumD (fzL xs))
  | .tup xs => Q S1 (enumD (fzL xs))
  | _ => False
section
variable {X : Cx} {K : PySem.W.Frag} {p : Bool} {e : Expr} {te : TE} {Te T : VT} {P0 pos tpos : Pos} {elts : List Expr} {kk : Nat} {S : SV} {QI : SV → List D → Prop}
theorem vi_enumA (hK : X.K = K) (hg : Gl X "enumerate") (hm : X.mg "enumerate" = none) (h : VE X K p e te Te) (hs : starEach [e] X.env = [(false, eval e X.env)] := by rfl) : VI X K p (.Tuple elts kk tpos) (.Call (.Name "enumerate" P0) [e] [] pos) (iEnumA K (tCons te tNil)) (TIEnumA Te) := by
  subst hK
  refine ⟨pi_enumA hg hm (pa_cons h.pe pa_nil hs) hs, fun F H σ S fp Q R g q k => h.snd F H σ S fp _ _ g q fun F1 H1 S1 fp1 al d v fq r q1 => ?_⟩
  obtain ⟨ea, q1⟩ := q1
  subst ea
  obtain ⟨g', st', rf, pu⟩ := r.fix
  have main : ∀ {xs : List D}, (fz d = .tup xs ∨ fz d = .lst false xs) → Q S1 (enumD xs) → ∃ t a us, [v] = [.ref a] ∧ SqX X.K t H1 a us ∧ R (IteX X.K t a) H1 := fun c q => by
    obtain ⟨t, a, vs, ea, h1, rl⟩ := srcD rf c
    subst ea
    exact ⟨t, a, vs, rfl, h1.sub g'.sub, k _ H1 S1 fp1 _ _ g' st' pu (itok_enumX h1 rl) q⟩
  cases d <;> first | exact q1.elim | skip
  · exact main (.inl (by rw [fz])) q1
  · exact main (.inr (by rw [fz])) q1
theorem x_TIEnumA : TIEnumA T S QI = T S fun S1 al d => al = true ∧ (match d with | .lst _ xs => QI S1 (enumD (fzL xs)) | .tup xs => QI S1 (enumD (fzL xs)) | _ => False) := rfl
end
end VL

namespace VL
open PySem PySem.Spec PyProof.Rows L2
/-! ### rows of tuples of ints; webs -/
abbrev iT (l : List Int) : D := .tup (l.map D.int)
abbrev wbD (n : Int) (ts : List (Int × Int)) : D := .tup [.int n, .tup (ts.map p2D)]
theorem iT_inj {a b : List Int} (h : iT a = iT b) : a = b := by injection h with h; exact intsL_inj h
theorem iTs_inj {a b : List (List Int)} (h : a.map iT = b.map iT) : a = b := (List.map_inj_right (fun _ _ e => iT_inj e)).mp h
theorem immL_iTs {l : List (List Int)} : immL (l.map iT) = true := immL_map fun _ _ => by rw [imm_tup, immL_ints]
theorem nofzL_iTs {l : List (List Int)} : nofzL (l.map iT) = true := nofzL_map fun _ _ => by rw [nofz_tup, nofzL_ints]
theorem nofzL_prs {l : List (Int × Int)} : nofzL (l.map p2D) = true := nofzL_map fun _ _ => rfl
theorem fzL_iTs {l : List (List Int)} : fzL (l.map iT) = l.map iT := fzL_map fun _ _ => by rw [fz_tup, fzL_ints]
theorem plnL_iTs {k : Nat} {l : List (List Int)} : plnL (k + 1) (l.map iT) = true := plnL_all fun d h => by
  obtain ⟨p, _, rfl⟩ := List.mem_map.mp h
  rw [pln]; exact plnL_ints
theorem pl_tTs {l : List (List Int)} : pln 5 (.tup (l.map iT)) = true := by rw [pln]; exact plnL_iTs
theorem pl_lTs {m : Bool} {l : List (List Int)} : pln 5 (.lst m (l.map iT)) = true := by rw [pln]; exact plnL_iTs
theorem pl_web {n : Int} {ts : List (Int × Int)} : pln 5 (wbD n ts) = true := by
  rw [pln, plnL, plnL, plnL, pln, pln, plnL_prs]; rfl
section
variable {neg al1 al2 m m' : Bool} {l l' : List (List Int)} {p p' : List (Int × Int)} {a b : Int} {x : List Int} {QB : Bool → D → Prop}
theorem y_eqWeb : oEqB neg al1 (.tup [.int a, .tup (p.map p2D)]) al2 (.tup [.int b, .tup (p'.map p2D)]) QB = K2 QB ⟨⟩ true (.bl (neg != decide (a = b ∧ p = p'))) := eqB_dec pl_web pl_web (by
  simp only [fz_tup, fzL_cons, fzL_nil, fz_int, fzL_prs, D.tup.injEq, List.cons.injEq, D.int.injEq, and_true]
  exact ⟨fun z => ⟨z.1, prsL_inj z.2⟩, fun z => ⟨z.1, by rw [z.2]⟩⟩) (by decide) (by decide) (fun _ z => nomatch z) (fun z => nomatch z)
theorem y_eqLTs : oEqB neg al1 (.lst m (l.map iT)) al2 (.lst m' (l'.map iT)) QB = K2 QB ⟨⟩ true (.bl (neg != decide (l = l'))) := eqB_dec pl_lTs pl_lTs (by rw [fz_lst', fz_lst', fzL_iTs, fzL_iTs]; exact ⟨fun z => by injection z with _ z; exact iTs_inj z, fun z => by rw [z]⟩) (by decide) (by decide) (fun _ z => nomatch z) (fun z => nomatch z)
theorem y_eqTTs : oEqB neg al1 (.tup (l.map iT)) al2 (.tup (l'.map iT)) QB = K2 QB ⟨⟩ true (.bl (neg != decide (l = l'))) := eqB_dec pl_tTs pl_tTs (by rw [fz_tup, fz_tup, fzL_iTs, fzL_iTs, D.tup.injEq]; exact ⟨iTs_inj, fun z => by rw [z]⟩) (by decide) (by decide) (fun _ z => nomatch z) (fun z => nomatch z)
theorem iT_mem {x : List Int} {l : List (List Int)} : fz (iT x) ∈ fzL (l.map iT) ↔ x ∈ l := by
  rw [fzL_iTs, fz_tup, fzL_ints, List.mem_map]
  exact ⟨fun ⟨y, h1, h2⟩ => by rw [← iT_inj h2]; exact h1, fun h => ⟨_, h, rfl⟩⟩
theorem c_inTLs {mk : Mk QB} : CO2 (oIn neg) al1 (.tup (x.map D.int)) al2 (.lst m (l.map iT)) QB mk = K2 QB ⟨⟩ true (.bl (neg != decide (x ∈ l))) := in_dec (k := 5) (k' := 5) (.inr ⟨_, rfl⟩) pl_tI plnL_iTs iT_mem
theorem c_inTTs {mk : Mk QB} : CO2 (oIn neg) al1 (.tup (x.map D.int)) al2 (.tup (l.map iT)) QB mk = K2 QB ⟨⟩ true (.bl (neg != decide (x ∈ l))) := in_dec (k := 5) (k' := 5) (.inl rfl) pl_tI plnL_iTs iT_mem
theorem c_inT1Ls {mk : Mk QB} : CO2 (oIn neg) al1 (.tup [.int a]) al2 (.lst m (l.map iT)) QB mk = K2 QB ⟨⟩ true (.bl (neg != decide ([a] ∈ l))) := c_inTLs (x := [a])
theorem c_inT1Ts {mk : Mk QB} : CO2 (oIn neg) al1 (.tup [.int a]) al2 (.tup (l.map iT)) QB mk = K2 QB ⟨⟩ true (.bl (neg != decide ([a] ∈ l))) := c_inTTs (x := [a])
theorem c_inT0Ls {mk : Mk QB} : CO2 (oIn neg) al1 (.tup []) al2 (.lst m (l.map iT)) QB mk = K2 QB ⟨⟩ true (.bl (neg != decide ([] ∈ l))) := c_inTLs (x := [])
end
theorem lc_e3n {S : SV} {acc : List D} {cont : SV → List D → Prop} {d : D} {p r : Prop} [Decidable p] [Decidable r] (hl : acc.length < sizeLine) (hc : cont S (put1 (if ¬ p ∧ ¬ r then some d else none) acc)) : (¬ p → (¬ r → acc.length < sizeLine ∧ cont S (acc ++ [d])) ∧ (r → cont S acc)) ∧ (p → cont S acc) := by
  have := lc_e3 hl hc
  simpa only [Classical.not_not] using this
theorem lc_eb {S : SV} {acc : List D} {cont : SV → List D → Prop} {p r : Prop} [Decidable p] [Decidable r] (hl : acc.length < sizeLine) (hc : cont S (put1 (some (.bl (decide (p ∧ r)))) acc)) : (p → acc.length < sizeLine ∧ cont S (acc ++ [.bl (decide r)])) ∧ (¬ p → acc.length < sizeLine ∧ cont S (acc ++ [.bl false])) := by
  by_cases h : p
  · refine ⟨fun _ => ⟨hl, ?_⟩, fun z => absurd h z⟩
    have e : decide (p ∧ r) = decide r := by simp [h]
    rw [e] at hc; exact hc
  · refine ⟨fun z => absurd z h, fun _ => ⟨hl, ?_⟩⟩
    have e : decide (p ∧ r) = false := by simp [h]
    rw [e] at hc; exact hc
/-! the same rest behind an if -/
theorem and_join {p r A R : Prop} (hR : R) (hA : p → r → A) : (p → (r → A) ∧ (¬ r → R)) ∧ (¬ p → R) := ⟨fun a => ⟨hA a, fun _ => hR⟩, fun _ => hR⟩
theorem join3 {α β : Type} {p G : Prop} {P A : α → β → Prop} (a : α) (b : β) (hn : ¬ p → P a b) (hG : (∀ x y, P x y → A x y) → p → G) (hA : ∀ x y, P x y → A x y) : (p → G) ∧ (¬ p → A a b) := ⟨hG hA, fun h => hA a b (hn h)⟩
theorem and_back {p A R : Prop} (hR : R) (hA : R → p → A) : (p → A) ∧ (¬ p → R) := ⟨hA hR, fun _ => hR⟩
theorem enumD_map {α : Type} {g : α → D} {l : List α} : enumD (l.map g) = l.zipIdx.map fun p => .tup [.int (p.2 : Nat), g p.1] := by
  unfold enumD
  rw [List.zipIdx_map, List.map_map]
  rfl
/-! sorted rows of tuples of ints, none empty -/
def srtL (ps : List (List Int)) : List (List Int) := ps.mergeSort fun a b => leD (iT a) (iT b)
theorem srtL_perm {ps : List (List Int)} : (srtL ps).Perm ps := List.mergeSort_perm ..
theorem srtL_le {ps : List (List Int)} : (srtL ps).Pairwise fun a b => leD (iT a) (iT b) = true := by
  refine List.pairwise_mergeSort (fun a b c h1 h2 => ?_) (fun a b => ?_) ps
  · rw [leD_iff] at *; exact ltD_tr h1 h2
  · rw [Bool.or_eq_true, leD_iff, leD_iff]
    cases h : ltD (iT b) (iT a) with
    | false => exact .inl rfl
    | true => exact .inr (ltD_asym h)
theorem pL_iTs {k : Nat} {l : List (List Int)} : pL (k + 1) (l.map iT) = true := pL_all.mpr fun d h => by
  obtain ⟨p, _, rfl⟩ := List.mem_map.mp h
  rw [pD_tup]; exact pL_ints
theorem srtD_iTs {ps : List (List Int)} : srtD (ps.map iT) = (srtL ps).map iT :=
  (srtD_uniq (k := 1) (srtL_perm.map _) (List.pairwise_map.mpr srtL_le) pL_iTs).symm
theorem srtL_uniq {ps rs : List (List Int)} (hp : rs.Perm ps) (hs : rs.Pairwise fun a b => leD (iT a) (iT b) = true) : rs = srtL ps := by
  have := srtD_uniq (k := 1) (hp.map iT) (List.pairwise_map.mpr hs) pL_iTs
  rw [srtD_iTs] at this
  exact iTs_inj this
theorem le_iT_head {a b : Int} {xs ys : List Int} (h : a < b) : leD (iT (a :: xs)) (iT (b :: ys)) = true := by
  rw [leD_iff, ltD_no]
  show cmpD (.tup (D.int b :: ys.map D.int)) (.tup (D.int a :: xs.map D.int)) ≠ .lt
  rw [cmp_tup, cmpL_cons, cmp_int]
  have e : ordZ b a = .gt := by unfold ordZ; rw [ord2_gt, decide_eq_false_iff_not, decide_eq_true_eq]; omega
  rw [e]
  simp [thn]
theorem okL_ints : ∀ {a b : List Int}, okL (a.map D.int) (b.map D.int) = true
  | [], _ => by rw [List.map_nil, okL]; simp
  | _ :: _, [] => by rw [List.map_nil, okL]; simp
  | x :: a, y :: b => by rw [List.map_cons, List.map_cons, okL, okL_ints, okD]; rfl
theorem srtOk_iTs2 {ps : List (List Int)} (h : 2 ≤ ps.length → ∀ p ∈ ps, p ≠ []) : SrtOk (ps.map iT) := ⟨fun h2 => .inr (.inr ⟨0, by decide, fun d hd => by
    obtain ⟨i, hi, rfl⟩ := List.mem_map.mp hd
    cases i with
    | nil => exact absurd rfl (h (by rw [List.length_map] at h2; exact h2) _ hi)
    | cons x xs => exact ⟨_, _, rfl, rfl⟩⟩), fun d hd e he => by
  obtain ⟨i, _, rfl⟩ := List.mem_map.mp hd
  obtain ⟨j, _, rfl⟩ := List.mem_map.mp he
  rw [okD]; exact okL_ints⟩
theorem srtOk_iTs {ps : List (List Int)} (h : ∀ p ∈ ps, p ≠ []) : SrtOk (ps.map iT) := srtOk_iTs2 fun _ => h
section
variable {al : Bool} {m : Bool} {ps : List (List Int)} {QB : Bool → D → Prop}
theorem c_sTL2 {mk : Mk QB} : ((2 ≤ ps.length → ∀ p ∈ ps, p ≠ []) ∧ K2 QB ⟨⟩ true (.lst true ((srtL ps).map iT))) → CO oSrt al (.lst m (ps.map iT)) QB mk := fun ⟨h, q⟩ => ⟨_, .inr ⟨_, rfl⟩, ⟨1, by decide, pL_iTs⟩, srtOk_iTs2 h, by rw [srtD_iTs]; exact q⟩
theorem c_sTL {mk : Mk QB} : ((∀ p ∈ ps, p ≠ []) ∧ K2 QB ⟨⟩ true (.lst true ((srtL ps).map iT))) → CO oSrt al (.lst m (ps.map iT)) QB mk := fun ⟨h, q⟩ => ⟨_, .inr ⟨_, rfl⟩, ⟨1, by decide, pL_iTs⟩, srtOk_iTs h, by rw [srtD_iTs]; exact q⟩
theorem c_sTT {mk : Mk QB} : ((∀ p ∈ ps, p ≠ []) ∧ K2 QB ⟨⟩ true (.lst true ((srtL ps).map iT))) → CO oSrt al (.tup (ps.map iT)) QB mk := fun ⟨h, q⟩ => ⟨_, .inl rfl, ⟨1, by decide, pL_iTs⟩, srtOk_iTs h, by rw [srtD_iTs]; exact q⟩
end
end VL

namespace VL
open PySem PySem.Spec PyProof.Rows L2
/-! ### dicts that are walked over: locked meanwhile -/
/-- the same, but for locks of dicts -/
def SubD (F F' : Hp) : Prop := ∀ a o, F a = some o → F' a = some o ∨ ∃ kvs, (o = .dK kvs ∨ ∃ ob, o = .frz ob (.dK kvs)) ∧ Rd F' a (.dK kvs)
section
variable {K : PySem.W.Frag} {F F' G H H' : Hp}
theorem SubD.seqL {a : Addr} {xs : List V} (e : SubD F F') (h : SqL K F a xs) : SqL K F' a xs := by
  rcases h with (h | ⟨o, h⟩) | h
  · rcases e _ _ h with z | ⟨kvs, z | ⟨ob, z⟩, _⟩
    · exact .inl (.inl z)
    · cases z
    · cases z
  · rcases e _ _ h with z | ⟨kvs, z | ⟨ob, z⟩, _⟩
    · exact .inl (.inr ⟨o, z⟩)
    · cases z
    · cases z
  · exact .inr h
theorem SubD.seqT {a : Addr} {xs : List V} (e : SubD F F') (h : SqT K F a xs) : SqT K F' a xs := by
  rcases h with (h | ⟨o, h⟩) | h
  · rcases e _ _ h with z | ⟨kvs, z | ⟨ob, z⟩, _⟩
    · exact .inl (.inl z)
    · cases z
    · cases z
  · rcases e _ _ h with z | ⟨kvs, z | ⟨ob, z⟩, _⟩
    · exact .inl (.inr ⟨o, z⟩)
    · cases z
    · cases z
  · exact .inr h
theorem SubD.tupN {a : Addr} {xs : List V} (e : SubD F F') (h : TupN K F a xs) : TupN K F' a xs := by
  rcases h with ⟨o, h, hd⟩ | h
  · rcases e _ _ h with z | ⟨kvs, z | ⟨ob, z⟩, _⟩
    · exact .inl ⟨o, z, hd⟩
    · cases z
    · cases z
  · exact .inr h
theorem SubD.rd {a : Addr} {kvs : List (Key × V)} (e : SubD F F') (h : Rd F a (.dK kvs)) : Rd F' a (.dK kvs) := by
  rcases h with h | ⟨o, h⟩
  · rcases e _ _ h with z | ⟨kvs', z | ⟨ob, z⟩, y⟩
    · exact .inl z
    · cases z; exact y
    · cases z
  · rcases e _ _ h with z | ⟨kvs', z | ⟨ob, z⟩, y⟩
    · exact .inr ⟨o, z⟩
    · cases z
    · cases z; exact y
theorem SubD.dT {a : Addr} {kvs : List (List Key × V)} (e : SubD F F') (h : F a = some (.dT kvs)) : F' a = some (.dT kvs) := by
  rcases e _ _ h with z | ⟨kvs', z | ⟨ob, z⟩, y⟩
  · exact z
  · cases z
  · cases z
mutual
theorem Rep.swap (hF : SubD F F') : ∀ {d : D} {v : V} {fp : List Addr}, Rep K F H d v fp → (∀ a ∈ fp, ∀ o, H a = some o → H' a = some o) → Rep K F' H' d v fp
  | .unk, _, _, h, _ => by rw [Rep] at *; exact h
  | .non, _, _, h, _ => by rw [Rep] at *; exact h
  | .bl _, _, _, h, _ => by rw [Rep] at *; exact h
  | .int _, _, _, h, _ => by rw [Rep] at *; exact h
  | .str _, _, _, h, _ => by rw [Rep] at *; exact h
  | .exc _ _, _, _, h, _ => by rw [Rep] at *; exact h
  | .tup ds, _, _, h, k => by
    rw [Rep] at *
    obtain ⟨a, vs, e, hs, h⟩ := h
    exact ⟨a, vs, e, hF.tupN hs, RepL.swap hF h k⟩
  | .lst m ds, _, _, h, k => by
    rw [Rep] at *
    obtain ⟨a, vs, fq, e, hl, ⟨m1, h1, rfl⟩ | ⟨m1, h1, rfl, rfl⟩⟩ := h
    · exact ⟨a, vs, fq, e, RepL.swap hF hl (fun b hb => k b (List.mem_cons_of_mem _ hb)), .inl ⟨m1, k a List.mem_cons_self _ h1, rfl⟩⟩
    · exact ⟨a, vs, [], e, RepL.swap hF hl k, .inr ⟨m1, hF.seqL h1, rfl, rfl⟩⟩
  | .dK m ks ds, _, _, h, k => by
    rw [Rep] at *
    obtain ⟨a, vs, fq, e, en, hl, ⟨m1, h1, rfl⟩ | ⟨m1, h1, rfl, rfl⟩⟩ := h
    · exact ⟨a, vs, fq, e, en, RepL.swap hF hl (fun b hb => k b (List.mem_cons_of_mem _ hb)), .inl ⟨m1, k a List.mem_cons_self _ h1, rfl⟩⟩
    · exact ⟨a, vs, [], e, en, RepL.swap hF hl k, .inr ⟨m1, hF.rd h1, rfl, rfl⟩⟩
  | .dT m ks ds, _, _, h, k => by
    rw [Rep] at *
    obtain ⟨a, vs, fq, e, en, hl, ⟨m1, h1, rfl⟩ | ⟨m1, h1, rfl, rfl⟩⟩ := h
    · exact ⟨a, vs, fq, e, en, RepL.swap hF hl (fun b hb => k b (List.mem_cons_of_mem _ hb)), .inl ⟨m1, k a List.mem_cons_self _ h1, rfl⟩⟩
    · exact ⟨a, vs, [], e, en, RepL.swap hF hl k, .inr ⟨m1, hF.dT h1, rfl, rfl⟩⟩
theorem RepL.swap (hF : SubD F F') : ∀ {ds : List D} {vs : List V} {fp : List Addr}, RepL K F H ds vs fp → (∀ a ∈ fp, ∀ o, H a = some o → H' a = some o) → RepL K F' H' ds vs fp
  | [], _, _, h, _ => by rw [RepL] at *; exact h
  | d :: ds, _, _, h, k => by
    rw [RepL] at *
    obtain ⟨v, vs', f1, f2, e, rfl, h1, h2⟩ := h
    exact ⟨v, vs', f1, f2, e, rfl, Rep.swap hF h1 (fun a ha => k a (List.mem_append_left _ ha)), RepL.swap hF h2 (fun a ha => k a (List.mem_append_right _ ha))⟩
end
theorem RepS.swap (hF : SubD F F') : ∀ {S : List D} {σ : L2.St} {fp : List Addr}, RepS K F H S σ fp → (∀ a ∈ fp, ∀ o, H a = some o → H' a = some o) → RepS K F' H' S σ fp
  | [], _, _, h, _ => h
  | d :: S, _, _, h, k => by
    obtain ⟨ov, σ', f1, f2, e, rfl, h1, h2⟩ := h
    refine ⟨ov, σ', f1, f2, e, rfl, ?_, RepS.swap hF h2 (fun a ha => k a (List.mem_append_right _ ha))⟩
    cases ov with
    | none => exact h1
    | some v => exact Rep.swap hF h1 (fun a ha => k a (List.mem_append_left _ ha))
variable {d : Addr} {o : Obj} {kvs : List (Key × V)}
theorem subD_lock (h : F d = some (.dK kvs)) : SubD F (upd F d (.frz o (.dK kvs))) := fun a u e => by
  by_cases z : a = d
  · subst z; rw [h] at e; cases e; exact .inr ⟨kvs, .inl rfl, .inr ⟨o, upd_same⟩⟩
  · exact .inl (by rw [upd_ne z]; exact e)
theorem subD_unl (h : F d = some (.frz o (.dK kvs))) : SubD F (upd F d (.dK kvs)) := fun a u e => by
  by_cases z : a = d
  · subst z; rw [h] at e; cases e; exact .inr ⟨kvs, .inr ⟨o, rfl⟩, .inl upd_same⟩
  · exact .inl (by rw [upd_ne z]; exact e)
theorem sub_both {u u' : HO} (s : Sub F H) (h : F d = some u) : Sub (upd F d u') (upd H d u') := fun a o e => by
  by_cases z : a = d
  · subst z; rw [upd_same] at *; exact e
  · rw [upd_ne z] at *; exact s a o e
theorem Good.relock {σ : L2.St} {S : SV} {fp : List Addr} {u u' : HO} (g : Good K F H σ S fp) (h : F d = some u) (hF : SubD F (upd F d u')) : Good K (upd F d u') (upd H d u') σ S fp := by
  have ne : ∀ a ∈ fp, a ≠ d := fun a ha z => by subst z; rw [g.dis _ ha] at h; cases h
  exact ⟨sub_both g.sub h, g.rep.swap hF fun a ha o e => by rw [upd_ne (ne a ha)]; exact e, g.nd, fun a ha => by rw [upd_ne (ne a ha)]; exact g.dis a ha⟩
theorem Rep.relock {x : D} {v : V} {fq : List Addr} {u u' : HO} (r : Rep K F H x v fq) (hd : ∀ a ∈ fq, F a = none) (h : F d = some u) (hF : SubD F (upd F d u')) : Rep K (upd F d u') (upd H d u') x v fq :=
  r.swap hF fun a ha o e => by rw [upd_ne (fun z => by subst z; rw [hd _ ha] at h; cases h)]; exact e
theorem Step.unl {F1 H1 F2 H2 : Hp} {fp fp' : List Addr} {u u' : HO} (s : Step fp F1 H1 F2 H2 fp') (hF : F1 d = some u) (hH : H1 d = some u) : Step fp (upd F1 d u') (upd H1 d u') (upd F2 d u') (upd H2 d u') fp' := by
  refine ⟨fun a o e => ?_, fun a o e n => ?_, fun a e => ?_, fun a ha => ?_⟩
  · by_cases z : a = d
    · subst z; rw [upd_same] at *; exact e
    · rw [upd_ne z] at *; exact s.fsub a o e
  · by_cases z : a = d
    · subst z; rw [upd_same] at *; exact e
    · rw [upd_ne z] at *; exact s.keep a o e n
  · by_cases z : a = d
    · subst z; exact .inl (by rw [upd_same]; simp)
    · rw [upd_ne z] at e
      refine (s.fnew a e).imp (fun y => ?_) fun y => y.imp id fun y => ?_
      · rw [upd_ne z]; exact y
      · rw [upd_ne z]; exact y
  · rcases s.own a ha with y | y
    · exact .inl y
    · refine .inr ?_
      rw [upd_ne (fun z => by subst z; rw [hH] at y; cases y)]; exact y
end
/-! ends behind a lock -/
def UnlP (X : Cx) (P : Hp → Prop) (H : Hp) : Prop := P H ∨ ∃ d od u, H d = some (.frz od u) ∧ (∀ o' u', X.H_0 d ≠ some (.frz o' u')) ∧ P (upd H d u)
def unlE (X : Cx) (M : Ends) : Ends := ⟨fun σ H => UnlP X (M.nx σ) H, fun v H => UnlP X (M.rt v) H, fun σ H => UnlP X (M.bk σ) H, fun σ H => UnlP X (M.ct σ) H⟩
def tUnl (X : Cx) (t : TS) : TS := fun M σ H => t (unlE X M) σ H
def tUnlE (X : Cx) (t : TE) : TE := fun σ H R => t σ H fun v H' => UnlP X (R v) H'
section
variable {X : Cx}
theorem unl_inv {pins : List (Addr × Obj)} {σ : L2.St} {H : Hp} {s : Shared} {P : Hp → Prop} (I : Inv X pins σ H s) (h : UnlP X P H) : ∃ H', Inv X pins σ H' s ∧ P H' := by
  rcases h with h | ⟨d, od, u, e, n, h⟩
  · exact ⟨H, I, h⟩
  · exact ⟨_, I.unlock e n, h⟩
theorem ps_unl {st : Stmt} {t : TS} (h : PS X st t) : PS X st (tUnl X t) := by
  refine ⟨fun pins s σ H D I hw => ?_⟩
  refine L2.thn (h.run pins s σ _ _ I hw) fun f s1 q => ?_
  cases f with
  | next => obtain ⟨σ', H', I2, q⟩ := q; obtain ⟨H3, I3, q⟩ := unl_inv I2 q; exact ⟨σ', _, I3, q⟩
  | brk => obtain ⟨σ', H', I2, q⟩ := q; obtain ⟨H3, I3, q⟩ := unl_inv I2 q; exact ⟨σ', _, I3, q⟩
  | cont => obtain ⟨σ', H', I2, q⟩ := q; obtain ⟨H3, I3, q⟩ := unl_inv I2 q; exact ⟨σ', _, I3, q⟩
  | ret v => obtain ⟨x, σ', H', I2, r, q⟩ := q; obtain ⟨H3, I3, q⟩ := unl_inv I2 q; exact ⟨x, σ', _, I3, r, q⟩
theorem pe_unl {e : Expr} {t : TE} (h : PE X e t) : PE X e (tUnlE X t) := by
  refine ⟨fun pins s σ H Q I hw => ?_⟩
  refine L2.thn (h.run pins s σ _ _ I hw) fun v s1 ⟨x, H1, I2, r, q⟩ => ?_
  obtain ⟨H3, I3, q⟩ := unl_inv I2 q
  exact ⟨x, _, I3, r, q⟩
end
/-- a step that may have locked a dict -/
def StepL (X : Cx) (fp : List Addr) (F H F1 H1 : Hp) (fp1 : List Addr) : Prop := Step fp F H F1 H1 fp1 ∨ ∃ (d : Addr) (o : Obj) (kvs : List (Key × V)), (∀ o' u', X.H_0 d ≠ some (.frz o' u')) ∧ F1 d = some (.frz o (.dK kvs)) ∧ Step fp F H (upd F1 d (.dK kvs)) (upd H1 d (.dK kvs)) fp1
def SndID (X : Cx) (K : PySem.W.Frag) (t : TI) (T : VTI) : Prop := ∀ (F H : Hp) (σ : L2.St) (S : SV) (fp : List Addr) (Q : SV → List D → Prop) (R : It → Hp → Prop), Good K F H σ S fp → T S Q →
  (∀ F' H' S' fp' J items, Good K F' H' σ S' fp' → StepL X fp F H F' H' fp' → ItOk K J F' items → Q S' items → R J H') → t σ H R
structure VID (X : Cx) (K : PySem.W.Frag) (tg e : Expr) (t : TI) (T : VTI) : Prop where
  pe : PI X tg e t
  snd : SndID X K t T
section
variable {X : Cx} {K : PySem.W.Frag} {pin : List Nat}
/-- what is raised while a dict is locked -/
theorem xw_unl {cls : Value} {σ : L2.St} {H : Hp} {d : Addr} {o : Obj} {u : HO} (e : H d = some (.frz o u)) (n : ∀ o' u', X.H_0 d ≠ some (.frz o' u')) (w : XW X cls none σ (upd H d u)) : XW X cls none σ H := fun v s' ⟨a, B, sI, pins, σ', H', cls', d', ea, I, nb, up, sky, na, os, ag, e1, e2, e3, e4⟩ => by
  subst e4
  have ne : a ≠ d := fun z => by subst z; rw [na] at e; cases e
  exact w v s' ⟨a, B, sI, pins, σ', upd H' d u, cls', d', ea, I.unlock e n, nb, up, sky, by rw [upd_ne ne]; exact na, os, ag, e1, e2, e3, rfl⟩
theorem Lk.unl {F H F1 H1 : Hp} {fp fp1 : List Addr} {σ : L2.St} {V : VD} {M : Ends} (l : Lk X K pin F H σ fp V M) (h : StepL X fp F H F1 H1 fp1) (sb : Sub F1 H1) : Lk X K pin F1 H1 σ fp1 V (unlE X M) := by
  rcases h with s | ⟨d, o, kvs, n, e, s⟩
  · have l' := l.on s Pin.refl
    exact ⟨fun F' H' σ' S' fp' g s p q => .inl (l'.nx F' H' σ' S' fp' g s p q), fun F' H' σ' S' fp' g s p q => .inl (l'.bk F' H' σ' S' fp' g s p q), fun F' H' σ' S' fp' g s p q => .inl (l'.ct F' H' σ' S' fp' g s p q), fun F' H' σ' S' fp' x v fq g s p r nd z q => .inl (l'.rt F' H' σ' S' fp' x v fq g s p r nd z q), fun F' H' σ' S' fp' x c g s p q hm => l'.xc F' H' σ' S' fp' x c g s p q hm⟩
  · have l' := l.on s (Pin.refl (σ := σ))
    have go : ∀ {F' H' : Hp} {σ' : L2.St} {S' : SV} {fp' : List Addr}, Good K F' H' σ' S' fp' → Step fp1 F1 H1 F' H' fp' → Good K (upd F' d (.dK kvs)) (upd H' d (.dK kvs)) σ' S' fp' ∧ Step fp1 (upd F1 d (.dK kvs)) (upd H1 d (.dK kvs)) (upd F' d (.dK kvs)) (upd H' d (.dK kvs)) fp' ∧ F' d = some (.frz o (.dK kvs)) ∧ H' d = some (.frz o (.dK kvs)) := fun g s => by
      have e' := s.fsub d _ e
      exact ⟨g.relock e' (subD_unl e'), s.unl e (sb d _ e), e', g.sub d _ e'⟩
    refine ⟨fun F' H' σ' S' fp' g s p q => ?_, fun F' H' σ' S' fp' g s p q => ?_, fun F' H' σ' S' fp' g s p q => ?_, fun F' H' σ' S' fp' x v fq g s p r nd z q => ?_, fun F' H' σ' S' fp' x c g s p q hm => ?_⟩
    · obtain ⟨g', s', _, eh⟩ := go g s
      exact .inr ⟨d, o, _, eh, n, l'.nx _ _ σ' S' fp' g' s' p q⟩
    · obtain ⟨g', s', _, eh⟩ := go g s
      exact .inr ⟨d, o, _, eh, n, l'.bk _ _ σ' S' fp' g' s' p q⟩
    · obtain ⟨g', s', _, eh⟩ := go g s
      exact .inr ⟨d, o, _, eh, n, l'.ct _ _ σ' S' fp' g' s' p q⟩
    · obtain ⟨g', s', ef, eh⟩ := go g s
      refine .inr ⟨d, o, _, eh, n, l'.rt _ _ σ' S' fp' x v fq g' s' p (r.relock (fun a ha => (z a ha).1) ef (subD_unl ef)) nd (fun a ha => ?_) q⟩
      have hne : a ≠ d := fun y => by subst y; rw [(z _ ha).1] at ef; cases ef
      refine ⟨by rw [upd_ne hne]; exact (z a ha).1, (z a ha).2.1, ?_⟩
      rw [upd_ne hne]; exact (z a ha).2.2
    · obtain ⟨g', s', _, eh⟩ := go g s
      exact xw_unl eh n (l'.xc _ _ σ' S' fp' x c g' s' p q hm)
variable {tg iter : Expr} {body : List Stmt} {wi : TI} {Ti : VTI} {g : TG} {G : VTG} {T : VTS} {pos : Pos} {tb : TS}
theorem for_core (hg : VG X K pin tg g G) (s1 : SndS X K pin tb T) {F1 H1 : Hp} {σ : L2.St} {S1 : SV} {fp1 : List Addr} {V : VD} {M : Ends} {J : It} {items : List D} (g1 : Good K F1 H1 σ S1 fp1) (it : ItOk K J F1 items) (q1 : forT G T V items S1) (l : Lk X K pin F1 H1 σ fp1 V M) :
    tFor (fun _ H R => R J H) g tb M σ H1 := by
  have st1 : Step fp1 F1 H1 F1 H1 fp1 := Step.refl
  refine ⟨fun i m σ2 H2 => ∃ F2 S2 fp2, Good K F2 H2 σ2 S2 fp2 ∧ Step fp1 F1 H1 F2 H2 fp2 ∧ Sub F1 F2 ∧ Pin pin σ σ2 ∧ m = items.length - i ∧ i ≤ items.length ∧ forT G T V (items.drop i) S2, ⟨items.length, F1, S1, fp1, g1, st1, Sub.refl, Pin.refl, by simp, Nat.zero_le _, by simpa using q1⟩, ?_⟩
  rintro i m σ2 H2 ⟨F2, S2, fp2, g2, st2, sb2, p2, rfl, hi', q2⟩
  obtain ⟨go, stop⟩ := it F2 H2 sb2 g2.sub
  by_cases hlt : i < items.length
  · obtain ⟨go1, go2⟩ := go i _ (List.getElem?_eq_getElem hlt)
    rw [List.drop_eq_getElem_cons hlt] at q2
    refine .inr ⟨go1, fun σ3 H3 => ∃ F3 S3 fp3, Good K F3 H3 σ3 S3 fp3 ∧ Step fp1 F1 H1 F3 H3 fp3 ∧ Sub F1 F3 ∧ Pin pin σ σ3 ∧ forT G T V (items.drop (i + 1)) S3, fun σ3 H3 ⟨F3, S3, fp3, g3, st3, sb3, p3, q3⟩ => ⟨items.length - (i + 1), by omega, F3, S3, fp3, g3, st3, sb3, p3, rfl, hlt, q3⟩, fun x H3 y => ?_⟩
    obtain ⟨F3, gr, rx⟩ := go2 x H3 y
    have g3 := g2.grow gr
    have st3 := st2.trans (gr.step (fp := fp2))
    refine hg.snd F3 H3 σ2 S2 fp2 _ x [] _ _ g3 rx List.nodup_nil (fun a ha => absurd ha (by simp)) q2 fun F4 H4 σ4 S4 fp4 g4 st4 p4 q4 => ?_
    have st4' := st3.trans (show Step fp2 F3 H3 F4 H4 fp4 from st4)
    have sb4 : Sub F1 F4 := (sb2.trans gr.fsub).trans st4.fsub
    have p4' := p2.trans p4
    have l4 := l.on st4' p4'
    refine s1 F4 H4 σ4 S4 fp4 _ _ g4 q4 ⟨fun F' H' σ' S' fp' g' s' p' q' => ?_, l4.nx, fun F' H' σ' S' fp' g' s' p' q' => ?_, l4.rt, l4.xc⟩
    · exact ⟨F', S', fp', g', st4'.trans s', sb4.trans s'.fsub, p4'.trans p', q'⟩
    · exact ⟨F', S', fp', g', st4'.trans s', sb4.trans s'.fsub, p4'.trans p', q'⟩
  · have e : items.drop i = [] := List.drop_eq_nil_of_le (by omega)
    rw [e] at q2
    exact .inl ⟨stop i (by omega), (l.on st2 p2).nx F2 H2 σ2 S2 fp2 g2 Step.refl Pin.refl q2⟩
theorem vs_forD (hp : PassesOwn (model X.prog X.w) X.A X.env X.xe) (hc : X.calm = true) (hi : VID X K tg iter wi Ti) (hg : VG X K pin tg g G) (hb : VSs X K pin body T) (hs : ∀ x, foldedSetIterable iter X.env x = pure x := by intro _; rfl) :
    VS X K pin (.For tg iter body [] pos) (TFor Ti G T) := by
  obtain ⟨t, a1, s1⟩ := hb.ex
  refine ⟨_, ps_unl (ps_for hp hc hi.pe hg.pe a1 hs), fun F H σ S fp V M gd q l => ?_⟩
  refine hi.snd F H σ S fp _ _ gd q fun F1 H1 S1 fp1 J items g1 st1 it q1 => ?_
  exact for_core hg s1 g1 it q1 (l.unl st1 g1.sub)
end
end VL

namespace VL
open PySem PySem.Spec PyProof.Rows L2
/-! ### comprehensions over a dict -/
section
variable {X : Cx} {K : PySem.W.Frag} {p pi pt pe : Bool} {elt tg iter : Expr} {ifs : List Expr} {scope : Scope} {own : List (Str × Nat)} {pos : Pos} {wi : TI} {Ti : VTI} {g : TG} {G : VTG} {tt : TT} {Tt : VB} {te : TE} {Te : VT}
theorem lcD_core {vs : List Nat} (hnv : vs.Nodup) (hg : SndN K vs g G) (ht : SndB K pt tt Tt) (he : Snd K pe te Te) {F H F1 H1 : Hp} {σ : L2.St} {S1 : SV} {fp fp1 : List Addr} {Q : SV → Bool → D → Prop} {R : VK} {J : It} {items : List D} (g1 : Good K F1 H1 σ S1 fp1) (st1 : Step fp F H F1 H1 fp1) (it : ItOk K J F1 items)
    (q1 : vs.all (fun i => (S1.getD i .unk).imm) = true ∧ lcT G Tt Te vs (fun S2 acc => Q (backS S1 vs S2) true (.lst true acc)) items (wipeS vs S1) []) {S : SV}
    (k : ∀ F' H' S' fp' d v fq, Res K false F H σ S fp F' H' S' fp' true d v fq → Q S' true d → R v H') : tLc (fun _ H R => R J H) g tt te vs σ H1 R := by
  obtain ⟨im, q1⟩ := q1
  have im' : ∀ i ∈ vs, (S1.getD i .unk).imm = true := fun i h => List.all_eq_true.mp im i h
  intro D0 hD
  obtain ⟨fpw, gw, sw⟩ := g1.wiped vs
  have gr0 : Grow F1 H1 F1 (upd H1 D0 (.lst [])) := Grow.owned g1.sub hD
  -- what holds between two turns
  refine ⟨fun i m H2 => ∃ F2 S2 fp2 acc fa, Good K F2 H2 (wipe σ vs) S2 fp2 ∧ Gath K F2 H2 D0 fp2 acc fa ∧ Step fp F H F2 H2 (D0 :: (fa ++ fp2)) ∧ Sub F1 F2 ∧ m = items.length - i ∧ i ≤ items.length ∧ lcT G Tt Te vs (fun S2 acc => Q (backS S1 vs S2) true (.lst true acc)) (items.drop i) S2 acc,
    ⟨items.length, F1, wipeS vs S1, fpw, [], [], gw.grow gr0, ⟨⟨[], upd_same, by rw [RepL]; exact ⟨rfl, rfl⟩⟩, by simp, fun a ha => ?_⟩, ?_, Sub.refl, by simp, Nat.zero_le _, by simpa using q1⟩, ?_⟩
  · have e : a = D0 := by simpa using ha
    subst e
    refine ⟨g1.sub.none hD, fun z => ?_⟩
    obtain ⟨o, e, _⟩ := g1.rep.mu a (sw.subset z)
    rw [hD] at e; cases e
  · have s2 := st1.trans (gr0.step (fp := fp1))
    refine ⟨s2.fsub, s2.keep, s2.fnew, fun a ha => ?_⟩
    simp only [List.nil_append, List.mem_cons] at ha
    rcases ha with rfl | ha
    · exact st1.back (.inr hD)
    · exact st1.own a (sw.subset ha)
  · rintro i m H2 ⟨F2, S2, fp2, acc, fa, g2, ga2, st2, sb2, rfl, hil, q2⟩
    obtain ⟨go, stop⟩ := it F2 H2 sb2 g2.sub
    by_cases hlt : i < items.length
    · obtain ⟨go1, go2⟩ := go i _ (List.getElem?_eq_getElem hlt)
      rw [List.drop_eq_getElem_cons hlt] at q2
      refine .inr ⟨go1, fun H3 => ∃ F3 S3 fp3 acc fa, Good K F3 H3 (wipe σ vs) S3 fp3 ∧ Gath K F3 H3 D0 fp3 acc fa ∧ Step fp F H F3 H3 (D0 :: (fa ++ fp3)) ∧ Sub F1 F3 ∧ lcT G Tt Te vs (fun S2 acc => Q (backS S1 vs S2) true (.lst true acc)) (items.drop (i + 1)) S3 acc,
        fun H3 ⟨F3, S3, fp3, acc, fa, g3, ga3, st3, sb3, q3⟩ => ⟨items.length - (i + 1), by omega, F3, S3, fp3, acc, fa, g3, ga3, st3, sb3, rfl, hlt, q3⟩, fun x H3 y => ?_⟩
      obtain ⟨F3, gr, rx⟩ := go2 x H3 y
      have g3 := g2.grow gr
      have ga3 := ga2.step (gr.step (fp := fp2))
      have st3 := st2.trans (gr.step (fp := D0 :: (fa ++ fp2)))
      refine hg F3 H3 (wipe σ vs) S2 fp2 _ x _ _ g3 rx q2 fun σ4 S4 fp4 g4 l4 p4 m4 q4 => ?_
      have ew : wipe σ4 vs = wipe σ vs := by
        have e1 := wipe_ext (σ := wipe σ vs) (τ := σ4) (vs := vs) l4 p4
        rw [e1]
        exact wipe_ext (wipe_length σ vs) fun j hj => wipe_get hj
      refine ⟨ew, ?_⟩
      have ga4 := ga3.sub m4
      have st4 : Step fp F H F3 H3 (D0 :: (fa ++ fp4)) := ⟨st3.fsub, st3.keep, st3.fnew, fun a ha => st3.own a (by
        simp only [List.mem_cons, List.mem_append] at ha ⊢
        rcases ha with z | z | z
        · exact .inl z
        · exact .inr (.inl z)
        · exact .inr (.inr (m4 a z)))⟩
      -- a later part does not touch what has been gathered
      have grow : ∀ {fpa fpb : List Addr} {Fa Ha Fb Hb : Hp}, Gath K Fa Ha D0 fpa acc fa → Step fp F H Fa Ha (D0 :: (fa ++ fpa)) → Step fpa Fa Ha Fb Hb fpb → Step fp F H Fb Hb (D0 :: (fa ++ fpb)) := fun {fpa fpb Fa Ha Fb Hb} ga sa sb => by
        refine ⟨sa.fsub.trans sb.fsub, fun a o e n => sb.keep a o (sa.keep a o e n) fun z => ?_, fun a h => ?_, fun a ha => ?_⟩
        · rcases sa.own a (by simp [z]) with w | w
          · exact n w
          · rw [e] at w; cases w
        · rcases sb.fnew a h with z | z | z
          · exact sa.fnew a z
          · exact .inr (sa.own a (by simp [z]))
          · exact .inr (sa.back (.inr z))
        · simp only [List.mem_cons, List.mem_append] at ha
          rcases ha with z | z | z
          · exact sa.own a (by simp [z])
          · exact sa.own a (by simp [z])
          · rcases sb.own a z with w | w
            · exact sa.own a (by simp [w])
            · exact sa.back (.inr w)
      refine ht F3 H3 σ4 S4 fp4 _ _ g4 q4 fun F5 H5 S5 fp5 b g5 st5 _ q5 => ?_
      have ga5 := ga4.step st5
      have st5' := grow ga4 st4 st5
      have sb5 : Sub F1 F5 := (sb2.trans gr.fsub).trans st5.fsub
      cases b with
      | false =>
        rw [if_neg Bool.false_ne_true]
        obtain ⟨fp6, g6, s6⟩ := g5.wiped vs
        rw [ew] at g6
        refine ⟨F5, wipeS vs S5, fp6, acc, fa, g6, ga5.sub fun a ha => s6.subset ha, ⟨st5'.fsub, st5'.keep, st5'.fnew, fun a ha => st5'.own a ?_⟩, sb5, q5.2 rfl⟩
        simp only [List.mem_cons, List.mem_append] at ha ⊢
        rcases ha with z | z | z
        · exact .inl z
        · exact .inr (.inl z)
        · exact .inr (.inr (s6.subset z))
      | true =>
        rw [if_pos rfl]
        refine he F5 H5 σ4 S5 fp5 _ _ g5 (q5.1 rfl) fun F6 H6 S6 fp6 al d v fq r6 q6 => ?_
        obtain ⟨eal, hsz, q6⟩ := q6
        subst eal
        obtain ⟨nq, sq⟩ := r6.sep rfl
        have ga6 := ga5.step r6.step
        have st6 := grow ga5 st5' r6.step
        obtain ⟨us, hH, rl⟩ := id ga6.ex
        refine ⟨us, hH, by rw [← rl.len]; exact hsz, ?_⟩
        obtain ⟨fp7, g7, s7⟩ := r6.good.wiped vs
        rw [ew] at g7
        -- the new one is put behind
        have nD : ∀ a ∈ fa ++ fq, a ≠ D0 := fun a ha e => by
          subst e
          rcases List.mem_append.mp ha with z | z
          · exact (List.nodup_cons.mp ga6.nd).1 z
          · obtain ⟨o, e, _⟩ := r6.rep.mu a z
            rcases (sq a z).2.2 with w | w
            · exact (ga5.dis a (by simp)).2 w
            · obtain ⟨o', e'⟩ := ga5.mu a (by simp)
              rw [w] at e'; cases e'
        have nDp : D0 ∉ fp7 := fun z => (ga6.dis D0 (by simp)).2 (s7.subset z)
        have FD : F6 D0 = none := (ga6.dis D0 (by simp)).1
        have keepA : ∀ a, a ≠ D0 → ∀ o, H6 a = some o → upd H6 D0 (.lst (us ++ [v])) a = some o := fun a n o e => by rw [upd_ne n]; exact e
        have g8 : Good K F6 (upd H6 D0 (.lst (us ++ [v]))) (wipe σ vs) (wipeS vs S6) fp7 := ⟨fun a o e => keepA a (fun z => by subst z; rw [FD] at e; cases e) o (g7.sub a o e), g7.rep.mono Sub.refl fun a ha o e => keepA a (fun z => nDp (by rw [← z]; exact ha)) o e, g7.nd, g7.dis⟩
        have dj : ∀ a ∈ fa, a ∉ fq := fun a ha hb => by
          rcases (sq a hb).2.2 with w | w
          · exact (ga5.dis a (by simp [ha])).2 w
          · obtain ⟨o', e'⟩ := ga5.mu a (by simp [ha])
            rw [w] at e'; cases e'
        have ga8 : Gath K F6 (upd H6 D0 (.lst (us ++ [v]))) D0 fp7 (acc ++ [d]) (fa ++ fq) := by
          refine ⟨⟨us ++ [v], upd_same, (rl.mono Sub.refl fun a ha o e => keepA a (nD a (by simp [ha])) o e).app (rep_one (r6.rep.mono Sub.refl fun a ha o e => keepA a (nD a (by simp [ha])) o e))⟩, ?_, fun a ha => ?_⟩
          · refine List.nodup_cons.mpr ⟨fun z => nD D0 z rfl, List.nodup_append.mpr ⟨(List.nodup_cons.mp ga6.nd).2, nq, fun a ha b hb e => by subst e; exact dj a ha hb⟩⟩
          · rcases List.mem_cons.mp ha with rfl | ha
            · exact ⟨FD, nDp⟩
            · rcases List.mem_append.mp ha with z | z
              · exact ⟨(ga6.dis a (by simp [z])).1, fun w => (ga6.dis a (by simp [z])).2 (s7.subset w)⟩
              · exact ⟨(sq a z).1, fun w => (sq a z).2.1 (s7.subset w)⟩
        refine ⟨F6, wipeS vs S6, fp7, acc ++ [d], fa ++ fq, g8, ga8, ⟨st6.fsub, fun a o e n => ?_, st6.fnew, fun a ha => ?_⟩, sb5.trans r6.step.fsub, q6⟩
        · refine keepA a (fun z => ?_) o (st6.keep a o e n)
          subst z
          rcases st6.own a (by simp) with w | w
          · exact n w
          · rw [e] at w; cases w
        · simp only [List.mem_cons, List.mem_append] at ha
          rcases ha with z | (z | z) | z
          · exact st6.own a (by simp [z])
          · exact st6.own a (by simp [z])
          · rcases (sq a z).2.2 with w | w
            · exact st5'.own a (by simp [w])
            · exact st5'.back (.inr w)
          · exact st6.own a (by simp [s7.subset z])
    · have e : items.drop i = [] := List.drop_eq_nil_of_le (by omega)
      rw [e] at q2
      refine .inl ⟨stop i (by omega), ?_⟩
      obtain ⟨us, hH, rl⟩ := id ga2.ex
      have rS := RepS.told (K := K) (F := F2) (H := H2) g1.rep sb2 vs hnv im' g2.rep
      refine k F2 H2 (backS S1 vs S2) fp2 _ (.ref D0) (D0 :: fa) ⟨⟨g2.sub, rS, g2.nd, g2.dis⟩, ?_, ⟨st2.fsub, st2.keep, st2.fnew, fun a ha => st2.own a (by simp [ha])⟩, fun _ => ⟨ga2.nd, fun a ha => ⟨(ga2.dis a ha).1, (ga2.dis a ha).2, st2.own a ?_⟩⟩, (fun z => nomatch z)⟩ q2
      · rw [Rep]; exact ⟨D0, us, fa, rfl, rl, .inl ⟨rfl, hH, rfl⟩⟩
      · rcases List.mem_cons.mp ha with rfl | ha <;> simp_all
theorem lcD_back {F H F1 H1 : Hp} {σ : L2.St} {S S1 : SV} {fp fp1 : List Addr} {Q : SV → Bool → D → Prop} {R : VK} (g1 : Good K F1 H1 σ S1 fp1) (stl : StepL X fp F H F1 H1 fp1) (k : ∀ F' H' S' fp' al d v fq, Res K false F H σ S fp F' H' S' fp' al d v fq → Q S' al d → R v H') :
    ∀ F' H' S' fp' d v fq, Res K false F1 H1 σ S1 fp1 F' H' S' fp' true d v fq → Q S' true d → UnlP X (R v) H' := fun F' H' S' fp' d v fq r q => by
  rcases stl with st | ⟨dd, o, kvs, n, e, st⟩
  · exact .inl (k F' H' S' fp' true d v fq ⟨r.good, r.rep, st.trans r.step, fun z => ⟨(r.sep z).1, fun a ha => ⟨((r.sep z).2 a ha).1, ((r.sep z).2 a ha).2.1, st.back ((r.sep z).2 a ha).2.2⟩⟩, fun z => nomatch z⟩ q)
  · obtain ⟨nd, z⟩ := r.sep rfl
    have ef := r.step.fsub dd _ e
    have hne : ∀ a ∈ fq, a ≠ dd := fun a ha y => by subst y; rw [(z _ ha).1] at ef; cases ef
    refine .inr ⟨dd, o, _, r.good.sub dd _ ef, n, k _ _ S' fp' true d v fq ⟨r.good.relock ef (subD_unl ef), r.rep.relock (fun a ha => (z a ha).1) ef (subD_unl ef), st.trans (r.step.unl e (g1.sub dd _ e)), fun _ => ⟨nd, fun a ha => ⟨by rw [upd_ne (hne a ha)]; exact (z a ha).1, (z a ha).2.1, st.back ?_⟩⟩, fun z => nomatch z⟩ q⟩
    rw [upd_ne (hne a ha)]; exact (z a ha).2.2
theorem Snd.lcD {vs : List Nat} (hnv : vs.Nodup) (hi : SndID X K wi Ti) (hg : SndN K vs g G) (ht : SndB K pt tt Tt) (he : Snd K pe te Te) : Snd K false (tUnlE X (tLc wi g tt te vs)) (TLc Ti G Tt Te vs) := fun F H σ S fp Q R gd q k => by
  refine hi F H σ S fp _ _ gd q fun F1 H1 S1 fp1 J items g1 stl it q1 => ?_
  exact lcD_core (S := S1) hnv hg ht he g1 Step.refl it q1 (lcD_back g1 stl k)
theorem ve_lcD (hc : X.calm = true) (hN : X.N.Nodup) (hi : VID X K tg iter wi Ti) (ok : BlkOk X.N X.env.scope scope own) (hnv : (own.map (·.2)).Nodup)
    (hg : ∀ (s : Shared) (H : Hp) (C : Addr) (cl : List (Str × Addr)) (fp : List Addr), VN (X.blk s H scope (compEnvC scope cl C X.env) fp) K (own.map (·.2)) tg g G) (ht : ∀ (s : Shared) (H : Hp) (C : Addr) (cl : List (Str × Addr)) (fp : List Addr), VC (X.blk s H scope (compEnvC scope cl C X.env) fp) K pt ifs tt Tt)
    (he : ∀ (s : Shared) (H : Hp) (C : Addr) (cl : List (Str × Addr)) (fp : List Addr), VE (X.blk s H scope (compEnvC scope cl C X.env) fp) K pe elt te Te) (s0 : Shared) (h0 : Hp) (hs : ∀ x, foldedSetIterable iter X.env x = pure x := by intro _; rfl) :
    VE X K false (.ListComp elt [⟨tg, iter, ifs, 0⟩] scope pos) (tUnlE X (tLc wi g tt te (own.map (·.2)))) (TLc Ti G Tt Te (own.map (·.2))) :=
  ⟨pe_unl (pe_lc hc hN hi.pe ok (fun s H C cl fp => (hg s H C cl fp).pe) (fun s H C cl fp => (ht s H C cl fp).pe) (fun s H C cl fp => (he s H C cl fp).pe) hs), Snd.lcD hnv hi.snd (hg s0 h0 0 [] []).snd (ht s0 h0 0 [] []).snd (he s0 h0 0 [] []).snd⟩
theorem asg_back {pin : List Nat} {F H F1 H1 F2 H2 : Hp} {fp fp1 fp2 fq : List Addr} (s1 : Step fp F H F1 H1 fp1) (z : ∀ a ∈ fq, F1 a = none ∧ a ∉ fp1 ∧ (a ∈ fp ∨ H a = none)) (st2 : Step (fq ++ fp1) F1 H1 F2 H2 fp2) : Step fp F H F2 H2 fp2 := by
  have hb : ∀ a, a ∈ fq ++ fp1 → a ∈ fp ∨ H a = none := fun a ha => by
    rcases List.mem_append.mp ha with y | y
    · exact (z a y).2.2
    · exact s1.own a y
  refine ⟨s1.fsub.trans st2.fsub, fun a o e hn => ?_, fun a hh => ?_, fun a ha => ?_⟩
  · refine st2.keep a o (s1.keep a o e hn) fun y => ?_
    rcases hb a y with w | w
    · exact hn w
    · rw [e] at w; cases w
  · rcases st2.fnew a hh with y | y | y
    · exact s1.fnew a y
    · exact .inr (hb a y)
    · exact .inr (s1.back (.inr y))
  · rcases st2.own a ha with y | y
    · exact hb a y
    · exact s1.back (.inr y)
theorem vs_setLcD {pin : List Nat} {i : Nat} {y : Str} {py spos : Pos} (hp : i ∉ pin) (hc : X.calm = true) (hN : X.N.Nodup) (hy : X.N[i]? = some y) (hyl : X.env.scope.names.lookup y = some .local)
    (hsw : swapsWith (.ListComp elt [⟨tg, iter, ifs, 0⟩] scope pos) (some (.Name y py)) spos.line X.env = pure true) (hi : VID X K tg iter wi Ti) (ok : BlkOk X.N X.env.scope scope own) (hnv : (own.map (·.2)).Nodup)
    (hg : ∀ (s : Shared) (H : Hp) (C : Addr) (cl : List (Str × Addr)) (fp : List Addr), VN (X.blk s H scope (compEnvC scope cl C X.env) fp) K (own.map (·.2)) tg g G) (ht : ∀ (s : Shared) (H : Hp) (C : Addr) (cl : List (Str × Addr)) (fp : List Addr), VC (X.blk s H scope (compEnvC scope cl C X.env) fp) K pt ifs tt Tt)
    (he : ∀ (s : Shared) (H : Hp) (C : Addr) (cl : List (Str × Addr)) (fp : List Addr), VE (X.blk s H scope (compEnvC scope cl C X.env) fp) K pe elt te Te) (s0 : Shared) (h0 : Hp) (hs : ∀ x, foldedSetIterable iter X.env x = pure x := by intro _; rfl) :
    VS X K pin (.Assign [.Name y py] (.ListComp elt [⟨tg, iter, ifs, 0⟩] scope pos) spos) (TAsg (TLc Ti G Tt Te (own.map (·.2))) (TGName i)) := by
  refine ⟨_, ps_unl (ps_setLc hc hN hy hyl hsw hi.pe ok (fun s H C cl fp => (hg s H C cl fp).pe) (fun s H C cl fp => (ht s H C cl fp).pe) (fun s H C cl fp => (he s H C cl fp).pe) hs), fun F H σ S fp V M gd q l => ?_⟩
  refine hi.snd F H σ S fp _ _ gd q fun F1 H1 S1 fp1 J items g1 stl it q1 => ?_
  refine lcD_core (S := S1) (Q := fun S1 al d => al = true ∧ TGName i d S1 V.nx) (R := fun x H1 => gName i x σ H1 (unlE X M).nx) hnv (hg s0 h0 0 [] []).snd (ht s0 h0 0 [] []).snd (he s0 h0 0 [] []).snd g1 Step.refl it q1 fun F' H' S' fp' d v fq r q2 => ?_
  obtain ⟨n, z⟩ := r.sep rfl
  refine SndG.name hp F' H' σ S' fp' d v fq _ _ r.good r.rep n (fun a ha => ⟨(z a ha).1, (z a ha).2.1⟩) q2.2 fun F2 H2 σ2 S2 fp2 g2 st2 p2 q3 => ?_
  exact (l.unl stl g1.sub).nx F2 H2 σ2 S2 fp2 g2 (asg_back (pin := pin) r.step z st2) p2 q3
end
/-! ### keys, values, pairs -/
def kD : Key → D
  | .inl i => .int i
  | .inr x => .str x
theorem kD_rep {K : PySem.W.Frag} {F H : Hp} {k : Key} : Rep K F H (kD k) (kV k) [] := by
  cases k <;> (unfold kD kV; rw [Rep]; exact ⟨rfl, rfl⟩)
theorem upd_back {F : Hp} {a : Addr} {u u' : HO} (h : F a = some u) : upd (upd F a u') a u = F := by
  funext b
  by_cases e : b = a
  · subst e; rw [upd_same, h]
  · rw [upd_ne e, upd_ne e]
section
variable {K : PySem.W.Frag} {F H : Hp}
theorem zip_at {ks : List Key} {vs : List V} {i : Nat} {k : Key} (hl : ks.length = vs.length) (h : ks[i]? = some k) : ∃ v, vs[i]? = some v ∧ (ks.zip vs)[i]? = some (k, v) := by
  have hi : i < vs.length := by rw [← hl]; exact (List.getElem?_eq_some_iff.mp h).1
  exact ⟨vs[i], List.getElem?_eq_getElem hi, List.getElem?_zip_eq_some.mpr ⟨h, List.getElem?_eq_getElem hi⟩⟩
theorem zip_ln {ks : List Key} {vs : List V} (hl : ks.length = vs.length) : (ks.zip vs).length = ks.length := by rw [List.length_zip]; omega
theorem itok_keys {d : Addr} {o : Obj} {ks : List Key} {vs : List V} (h : F d = some (.frz o (.dK (ks.zip vs)))) (hl : ks.length = vs.length) : ItOk K (Itk d o (ks.zip vs)) F (ks.map kD) := fun F' H' s1 s2 => by
  have hs := s2 d _ (s1 d _ h)
  refine ⟨fun i x e => ?_, fun i hi => ⟨hs, by rw [zip_ln hl]; simpa using hi⟩⟩
  rw [List.getElem?_map] at e
  cases ek : ks[i]? with
  | none => rw [ek] at e; cases e
  | some k =>
  rw [ek] at e
  cases e
  obtain ⟨v, ev, ez⟩ := zip_at hl ek
  refine ⟨⟨hs, (List.getElem?_eq_some_iff.mp ez).1⟩, fun y H'' z => ?_⟩
  obtain ⟨rfl, k', v', e', rfl⟩ := z
  rw [ez] at e'
  cases e'
  exact ⟨F', Grow.refl s2, kD_rep⟩
theorem itok_vals {d : Addr} {o : Obj} {ks : List Key} {vs : List V} {ds : List D} (h : F d = some (.frz o (.dK (ks.zip vs)))) (hl : ks.length = vs.length) (r : RepL K F H ds vs []) : ItOk K (Itd d o (ks.zip vs)) F ds := fun F' H' s1 s2 => by
  have hs := s2 d _ (s1 d _ h)
  have rl := r.len
  refine ⟨fun i x e => ?_, fun i hi => ⟨hs, by rw [zip_ln hl]; omega⟩⟩
  obtain ⟨v, ev, rv⟩ := r.at0 e
  have hk : i < ks.length := by rw [hl]; exact (List.getElem?_eq_some_iff.mp ev).1
  obtain ⟨v', ev', ez⟩ := zip_at hl (List.getElem?_eq_getElem hk)
  rw [ev] at ev'
  cases ev'
  refine ⟨⟨hs, (List.getElem?_eq_some_iff.mp ez).1⟩, fun y H'' z => ?_⟩
  obtain ⟨rfl, k', e'⟩ := z
  rw [ez] at e'
  cases e'
  exact ⟨F', Grow.refl s2, rv.mono s1 fun b hb => absurd hb (by simp)⟩
def itemD (ks : List Key) (ds : List D) : List D := (ks.zip ds).map fun p => .tup [kD p.1, p.2]
end
/-- the dict is locked here, if it isn't yet -/
def lkI (X : Cx) (mkI : Addr → Obj → List (Key × V) → It) (td : TE) : TI := fun σ H R => td σ H fun x H1 => ∃ d kvs, x = .ref d ∧ ((H1 d = some (.dK kvs) ∧ ((∀ o' u', X.H_0 d ≠ some (.frz o' u')) → ∀ o, R (mkI d o kvs) (upd H1 d (.frz o (.dK kvs))))) ∨ ∃ o, H1 d = some (.frz o (.dK kvs)) ∧ R (mkI d o kvs) H1)
def TIKeys (T : VT) : VTI := fun S Q => T S fun S1 al d => al = true ∧ match d with
  | .dK _ ks _ => Q S1 (ks.map kD)
  | _ => False
def TIVals (T : VT) : VTI := fun S Q => T S fun S1 al d => al = true ∧ match d with
  | .dK _ _ ds => Q S1 (fzL ds)
  | _ => False
def TIItems (T : VT) : VTI := fun S Q => T S fun S1 al d => al = true ∧ match d with
  | .dK _ ks ds => Q S1 (itemD ks (fzL ds))
  | _ => False
section
variable {X : Cx} {K : PySem.W.Frag} {p : Bool} {tg e : Expr} {te : TE} {Te : VT} {apos cpos : Pos}
theorem lk_inv {pins : List (Addr × Obj)} {σ : L2.St} {H : Hp} {s : Shared} {d : Addr} {kvs : List (Key × V)} {mkI : Addr → Obj → List (Key × V) → It} {R : It → Hp → Prop} (I : Inv X pins σ H s)
    (q : (H d = some (.dK kvs) ∧ ((∀ o' u', X.H_0 d ≠ some (.frz o' u')) → ∀ o, R (mkI d o kvs) (upd H d (.frz o (.dK kvs))))) ∨ ∃ o, H d = some (.frz o (.dK kvs)) ∧ R (mkI d o kvs) H) :
    ∃ o H', Inv X pins σ H' s ∧ H' d = some (.frz o (.dK kvs)) ∧ R (mkI d o kvs) H' := by
  rcases q with ⟨h, q⟩ | ⟨o, h, q⟩
  · obtain ⟨od, I2⟩ := I.lock h trivial
    exact ⟨od, _, I2, upd_same, q (I.nofrz h trivial) od⟩
  · exact ⟨o, H, I, h, q⟩
theorem lk_snd {mkI : Addr → Obj → List (Key × V) → It} {it : List Key → List D → List D} (h : Snd K p te Te)
    (hit : ∀ {F H : Hp} {d : Addr} {o : Obj} {ks : List Key} {vs : List V} {ds : List D}, F d = some (.frz o (.dK (ks.zip vs))) → ks.length = vs.length → RepL K F H ds vs [] → ItOk K (mkI d o (ks.zip vs)) F (it ks ds)) :
    SndID X K (lkI X mkI te) (fun S Q => Te S fun S1 al d => al = true ∧ match d with
      | .dK _ ks ds => Q S1 (it ks (fzL ds))
      | _ => False) := fun F H σ S fp Q R g q k => by
  refine h F H σ S fp _ _ g q fun F1 H1 S1 fp1 al d v fq r q1 => ?_
  obtain ⟨ea, q1⟩ := q1
  subst ea
  obtain ⟨g', st', rf, pu⟩ := r.fix
  cases d <;> first | exact q1.elim | skip
  rename_i m ks ds
  rw [fz, Rep] at rf
  obtain ⟨a, vs, fq', rfl, el, rl, hs | ⟨_, rd, _, rfl⟩⟩ := rf
  · exact nomatch hs.1
  have hl : ks.length = vs.length := by rw [el]; exact rl.len
  refine ⟨a, ks.zip vs, rfl, ?_⟩
  rcases rd with hd | ⟨o, hd⟩
  · refine .inl ⟨g'.sub _ _ hd, fun n o => k _ _ S1 fp1 _ _ (g'.relock hd (subD_lock (o := o) hd)) (.inr ⟨a, o, _, n, upd_same, ?_⟩) (hit (H := upd H1 a (.frz o (.dK (ks.zip vs)))) upd_same hl (rl.swap (subD_lock hd) fun b hb => absurd hb (by simp))) q1⟩
    rw [upd_back hd, upd_back (g'.sub _ _ hd)]
    exact st'
  · exact .inr ⟨o, g'.sub _ _ hd, k _ H1 S1 fp1 _ _ g' (.inl st') (hit hd hl rl) q1⟩
theorem pi_keysL (he : PE X e te) : PI X tg e (lkI X Itk te) := by
  refine ⟨fun pins s σ H R I h => ?_⟩
  refine L2.thn (he.run pins s σ H _ I h) fun u s1 ⟨x, H1, I1, rx, d, kvs, ex, q⟩ => ?_
  subst ex
  obtain rfl : u = Value.ref d := rx
  obtain ⟨o, H2, I2, hd, q⟩ := lk_inv I1 q
  obtain ⟨hs, hgd, hx, es, ep, vs, hdt, hsz, kv, hm⟩ := I2.frzK hd
  refine iter_keys hs hgd hx hdt (pi_one (tk := s1.toks) I2 _ (turn_keys _ hdt) ⟨_, Heap.get?_push_size _ rfl, rfl, ?_⟩ q)
  rw [hsz] <;> rfl
theorem vi_keys (h : VE X K p e te Te) : VID X K tg e (lkI X Itk te) (TIKeys Te) := ⟨pi_keysL h.pe, lk_snd (it := fun ks _ => ks.map kD) h.snd fun hd hl _ => itok_keys hd hl⟩
theorem pi_valuesL (he : PE X e te) (hbase : attributeBase e "values" X.env (eval e X.env) = eval e X.env := by rfl) (hline : (apos.endLine == cpos.line) = true := by rfl) : PI X tg (.Call (.Attribute e "values" apos) [] [] cpos) (lkI X Itd te) := by
  refine ⟨fun pins s σ H R I h => ?_⟩
  refine wpAny_Call_method (T := "dict") (id := "dict.values") hbase rfl hline F.plainAttrs_dict F.slot_dict_values F.type_dict_values (L2.thn (he.run pins s σ H _ I h) fun u s1 ⟨x, H1, I1, rx, d, kvs, ex, q⟩ => ?_)
  subst ex
  obtain rfl : u = Value.ref d := rx
  obtain ⟨o, H2, I1, hd, q⟩ := lk_inv I1 q
  obtain ⟨hs, hgd, hx, es, ep, vs, hdt, hsz, kv, hm⟩ := I1.frzK hd
  have hl : kvs.length = vs.length := Paired.length kv
  refine ⟨hm.dictOf.typeIs, hm.dictOf.mapOf.noDict, ?_⟩
  have I2 : Inv X pins σ H2 { s1 with heap := s1.heap.push { cls := .type "dict_values", data := .fields #[.ref d] } } := I1.kept (t' := s1.toks) fun b ob q => Heap.get?_push_of_some _ q
  have fin : wpAny (model X.prog X.w) X.A (pyIter (.ref s1.heap.objs.size)) (PIE X pins σ tg R) X.xe { s1 with heap := s1.heap.push { cls := .type "dict_values", data := .fields #[.ref d] } } := by
    refine wpAny_pyIter_values (d := d) (knd := mixKind X.prog X.w) ⟨_, Heap.get?_push_size _ rfl, rfl, rfl⟩ (hm.push _) (pi_one (tk := s1.toks) I2 _ (turn_vals _ hdt) ⟨_, Heap.get?_push_size _ rfl, rfl, ?_⟩ q)
    rw [hl] <;> rfl
  show wpAny _ _ (callWith cpos (.builtin "dict.values") [.ref d] [] []) _ X.xe s1
  exact method_meetsIn F.slot_dict_values F.entry_dict_values rfl (PySem.evalArgs_none ⟨rfl, hm.dictOf.typeIs, F.args_dict_values_1 _, _, meets_dict_values (mixKind X.prog X.w) d hs, ⟨vs, hm.dictOf⟩, fin⟩)
theorem vi_values (h : VE X K p e te Te) (hbase : attributeBase e "values" X.env (eval e X.env) = eval e X.env := by rfl) (hline : (apos.endLine == cpos.line) = true := by rfl) : VID X K tg (.Call (.Attribute e "values" apos) [] [] cpos) (lkI X Itd te) (TIVals Te) := ⟨pi_valuesL h.pe hbase hline, lk_snd (it := fun _ ds => ds) h.snd fun hd hl rl => itok_vals hd hl rl⟩
end
section
variable {T : VT} {S : SV} {QI : SV → List D → Prop}
theorem x_TIKeys : TIKeys T S QI = T S fun S1 al d => al = true ∧ (match d with | .dK _ ks _ => QI S1 (ks.map kD) | _ => False) := rfl
theorem x_TIVals : TIVals T S QI = T S fun S1 al d => al = true ∧ (match d with | .dK _ _ ds => QI S1 (fzL ds) | _ => False) := rfl
theorem x_TIItems : TIItems T S QI = T S fun S1 al d => al = true ∧ (match d with | .dK _ ks ds => QI S1 (itemD ks (fzL ds)) | _ => False) := rfl
end
end VL

namespace VL
open PySem PySem.Spec PyProof.Rows L2
/-! ### more words of dicts -/
section
variable {X : Cx} {K : PySem.W.Frag}
def oListK : O1 := fun _ d Q => match d with
  | .dK _ ks _ => Q true (.lst true (ks.map kD))
  | _ => False
def rListK : List V → Hp → VK → Prop := fun xs H Q => ∃ (a : Addr) (kvs : List (Key × V)), xs = [V.ref a] ∧ Rd H a (.dK kvs) ∧ ∀ p, H p = none → Q (.ref p) (upd H p (.lst (kvs.map fun kv => kV kv.1)))
theorem zip_keys {ks : List Key} {vs : List V} (hl : ks.length = vs.length) : ((ks.zip vs).map fun kv => kV kv.1) = ks.map kV := by
  rw [show (fun kv : Key × V => kV kv.1) = kV ∘ Prod.fst from rfl, ← List.map_map, List.map_fst_zip (by omega)]
theorem keys_rep {F H : Hp} : ∀ {ks : List Key}, RepL K F H (ks.map kD) (ks.map kV) []
  | [] => by rw [List.map_nil, List.map_nil, RepL]; exact ⟨rfl, rfl⟩
  | k :: ks => by
    rw [List.map_cons, List.map_cons, RepL]
    exact ⟨_, _, [], [], rfl, rfl, kD_rep, keys_rep⟩
theorem lf_listK : Lf1 K (fun v => rListK [v]) oListK := fun F H al1 d1 v1 q1 Q R s o1 q k => by
  cases d1 <;> first | exact q.elim | skip
  rename_i m ks ds
  obtain ⟨a, vs, fi, rfl, h1, hl, rl, _, _⟩ := dict_rd s o1.rep
  refine ⟨a, _, rfl, h1, fun p hp => ?_⟩
  rw [zip_keys (hl.trans rl.len)]
  exact k _ _ _ _ _ _ (Ans.newL s hp keys_rep) q
/-- the least key of a dict -/
def rMinR : List V → Hp → VK → Prop := fun vs H Q => ∃ (a : Addr) (kvs : List (Key × V)) (is : List Int), vs = [V.ref a] ∧ Rd H a (.dK kvs) ∧ kvs.map (·.1) = is.map Sum.inl ∧ is ≠ [] ∧ ∀ m, m ∈ is → (∀ j ∈ is, m ≤ j) → Q (.int m) H
theorem key_int {P : Program} {w : World} {ws : List (Key × Value)} {ns : List Int} (e : ws.map (·.1) = ns.map Sum.inl) (j : Nat) (u : Value) (h : ∃ k x, ws[j]? = some (k, x) ∧ (mixKind P w).is k u = true) : ∃ t, u = Value.int (ns.getD j 0) t := by
  obtain ⟨k, x, h1, h2⟩ := h
  have e2 : (ns.map (Sum.inl : Int → Key))[j]? = some k := by rw [← e, List.getElem?_map, h1]; rfl
  rw [List.getElem?_map] at e2
  cases en : ns[j]? with
  | none => rw [en] at e2; cases e2
  | some n =>
    rw [en] at e2
    cases e2
    obtain ⟨t, rfl⟩ := Value.isInt_shape (k := n) (v := u) h2
    exact ⟨t, by rw [List.getD_eq_getElem?_getD, en]; rfl⟩
theorem cr_minR {X : Cx} (hc : X.calm = true) : CallR X (.builtin "min") rMinR := fun pins s σ H xs us Q I r h => by
  obtain ⟨a, ps, ns, rfl, hd, hk, h0, q⟩ := h
  rw [Vals.ref1 r]
  obtain ⟨_, hsys, ws, rel, dof⟩ := dk_rd I.hok hd
  obtain ⟨ep, dat⟩ := dof.dictAt
  have hlt : a < s.heap.objs.size := by obtain ⟨_, _, ho, _⟩ := id dat; exact Heap.lt_size ho
  have hw : ws.map (·.1) = ns.map Sum.inl := (KV.keys rel).symm.trans hk
  have hn : ws.length = ns.length := by simpa using congrArg List.length hw
  have h1 : 0 < ns.length := List.length_pos_iff.mpr h0
  refine call_min_walk (wpAny_pyIter_dict (knd := mixKind X.prog X.w) hsys dat ⟨_, _, _, _, _, _, _, rfl, Walks.dictKeys (knd := mixKind X.prog X.w) (A := X.A.in1) (I.ok.hd hc) s.heap.objs.size a (Nat.ne_of_lt hlt) ws ep, ⟨⟨_, Heap.get?_push_size _ rfl, rfl, rfl⟩, dat.keep fun b u e => Heap.get?_push_of_some _ e⟩, fun b hb => ?_, by omega, CmpOf.ints_lt (fun j => ns.getD j 0) (key_int hw), fun v h' tk hP hkeep => ?_⟩)
  · have : b = s.heap.objs.size ∨ b = a := by simpa using hb
    show b < (s.heap.push _).objs.size
    rw [Heap.size_push]
    rcases this with e | e
    · rw [e]; exact Nat.lt_succ_self _
    · rw [e]; exact Nat.lt_succ_of_lt hlt
  · obtain ⟨t, rfl⟩ := key_int hw _ v hP
    obtain ⟨c1, c2⟩ := argBest_lt (fun j => ns.getD j 0) (ws.length - 1)
    have hI : Inv X pins σ H { s with heap := h', toks := tk } := I.kept (t' := tk) fun b u e => hkeep b u (fun z => by
      have z : b = s.heap.objs.size := List.mem_singleton.mp z
      have y := Heap.lt_size e
      rw [z] at y
      exact absurd y (Nat.lt_irrefl _)) (Heap.get?_push_of_some _ e)
    refine ⟨.int _, H, hI, ⟨t, rfl⟩, q _ ?_ fun j hj => ?_⟩
    · have hb : argBest (fun i j => decide (ns.getD i 0 < ns.getD j 0)) (ws.length - 1) < ns.length := by omega
      rw [List.getD_eq_getElem?_getD, List.getElem?_eq_getElem hb]
      exact List.getElem_mem hb
    · obtain ⟨k, hk, rfl⟩ := List.mem_iff_getElem.mp hj
      have := c2 k (by omega)
      rwa [show ns.getD k 0 = ns[k] by rw [List.getD_eq_getElem?_getD, List.getElem?_eq_getElem hk]; rfl] at this
def oMinK : O1 := fun _ d Q => ∃ (m : Bool) (ns : List Int) (ds : List D), d = .dK m (ns.map Sum.inl) ds ∧ ns ≠ [] ∧ ∀ x, x ∈ ns → (∀ j ∈ ns, x ≤ j) → Q true (.int x)
theorem lf_minK : Lf1 K (fun v => rMinR [v]) oMinK := fun F H al1 d1 v1 q1 Q R s o1 q k => by
  obtain ⟨m, ns, ds, rfl, h0, q⟩ := q
  obtain ⟨a, vs, fi, rfl, h1, hl, rl, _, _⟩ := dict_rd s o1.rep
  refine ⟨a, _, ns, rfl, h1, by rw [List.map_fst_zip (by rw [hl]; exact Nat.le_of_eq rl.len)], h0, fun x hx hle => k F H true _ _ [] (Ans.int s) (q x hx hle)⟩
theorem mut_dpop {X : Cx} : MtR X "dict.pop" (fun x ys H Q => ∃ a kvs k v, x = .ref a ∧ H a = some (.dK kvs) ∧ ys = [kV k] ∧ valV kvs k = some v ∧ Q v (upd H a (.dK (dropK kvs k)))) := by
  intro pins s σ H x vs v us Q I rx rv h
  obtain ⟨a, kvs, k, w, rfl, hH, rfl, hv, q⟩ := h
  cases rx
  obtain ⟨u, rfl, ru⟩ := rv.one
  exact d_pop I hH ru hv (.inl rfl) fun w' s3 I3 rw' => ⟨w, _, I3, rw', q⟩
end
/-! paths -/
theorem kix_idx {k : Key} : ∀ {ks : List Key}, kix k ks = idxK ks k
  | [] => rfl
  | c :: ks => by
    unfold kix
    rw [List.findIdx?_cons, idxK]
    by_cases e : c = k
    · rw [if_pos e]; simp [e]
    · rw [if_neg e]
      have := kix_idx (k := k) (ks := ks)
      unfold kix at this
      simp [e, this]
theorem idxK_at {k : Key} : ∀ {ks : List Key} {j : Nat}, idxK ks k = some j → ks[j]? = some k
  | [], _, h => by cases h
  | c :: ks, j, h => by
    rw [idxK] at h
    by_cases e : c = k
    · rw [if_pos e] at h; cases h; simp [e]
    · rw [if_neg e] at h
      obtain ⟨j', h1, rfl⟩ := Option.map_eq_some_iff.mp h
      simpa using idxK_at h1
def TPDIx (p2 : Bool) (T : VTP) (Ti : VT) : VTP := fun S Q => T S fun S1 i ps => Ti S1 fun S2 _ k => (ps.isEmpty || p2) = true ∧ match atP S2 i ps, keyD k with
  | some (.dK true ks xs), some kk => inK ks kk = true ∧ Q S2 i (ps ++ [.key kk])
  | _, _ => False
theorem inK_idx {ks : List Key} {k : Key} (h : inK ks k = true) : ∃ j, idxK ks k = some j ∧ j < ks.length := by
  have hm := inK_iff.mp h
  clear h
  induction ks with
  | nil => cases hm
  | cons c ks ih =>
    rw [idxK]
    by_cases e : c = k
    · exact ⟨0, by rw [if_pos e], by simp⟩
    · obtain ⟨j, h1, h2⟩ := ih ((List.mem_cons.mp hm).resolve_left fun z => e z.symm)
      exact ⟨j + 1, by rw [if_neg e, h1]; rfl, by simpa using h2⟩
section
variable {X : Cx} {K : PySem.W.Frag} {a b e : Expr} {pos apos P0 : Pos} {p p1 p2 : Bool} {Ta Tb : VT} {ta tb : TE} {Tp : VTP}
theorem vp_dix (hu : X.A.units + 1 < cLine) (ha : VP X K p1 a ta Tp) (hb : VE X K p2 b tb Tb) (hs : NoSl b := by intro _ _ _ _; intro h; cases h) : VP X K (p1 && p2) (.Subscript a b pos) (tDGet ta tb) (TPDIx p2 Tp Tb) := by
  refine ⟨pe_dget hu ha.pe hb.pe hs, fun F H σ S fp Q R g q k => ?_⟩
  refine ha.snd F H σ S fp _ _ g q fun F1 H1 S1 fp1 i ps v g1 st1 pu1 at1 q1 => ?_
  refine hb.snd F1 H1 σ S1 fp1 _ _ g1 q1 fun F2 H2 S2 fp2 al d u fq r q2 => ?_
  obtain ⟨c, q2⟩ := q2
  have at2 := at1.carry c r.pure
  cases ea : atP S2 i ps with
  | none => simp only [ea] at q2
  | some cc =>
  simp only [ea] at q2
  cases cc <;> first | exact q2.elim | skip
  rename_i m ks xs
  cases m with
  | false => exact q2.elim
  | true =>
  cases ek : keyD d with
  | none => rw [ek] at q2; exact q2.elim
  | some kk =>
  rw [ek] at q2
  obtain ⟨hin, q2⟩ := q2
  obtain ⟨e1, _⟩ := keyD_rep r.rep ek
  obtain ⟨f1, f2, f3, ef, rc, pw⟩ := r.good.at at2 ea
  obtain ⟨j, ej, hj⟩ := inK_idx hin
  have hlk : ks.length = xs.length := by
    have rc' := rc
    rw [Rep] at rc'
    obtain ⟨_, _, _, _, hl, _⟩ := rc'
    exact hl
  have eb : xs[j]? = some xs[j] := List.getElem?_eq_getElem (by omega)
  obtain ⟨aa, vs, uu, rfl, hH, hlv, eu, pt⟩ := part_dK rc eb
  refine ⟨aa, uu, rfl, .inl ⟨_, kk, .inl hH, e1, ?_⟩, ?_⟩
  · rw [valV_zip hlv, ej]; exact eu.symm
  · have ekx : kix kk ks = some j := by rw [kix_idx]; exact ej
    exact k F2 H2 S2 fp2 i _ _ r.good (st1.trans r.step) (pureT pu1 r.pure) (AtP.on ea ef pw pt (by simp [getP, ekx, eb]) fun c => by simp [setP, ekx, eb]) q2
/-! d.pop(k) -/
def oDPop : OM D := fun c d Q => match c, keyD d with
  | .dK true ks ds, some k => ks.Nodup ∧ match idxK ks k with
    | some j => match ds[j]? with
      | some y => Q (.dK true (ks.eraseIdx j) (ds.eraseIdx j)) y
      | none => False
    | none => False
  | _, _ => False
theorem own_oDPop : Own1 oDPop := fun c kd Q h => by
  cases c <;> first | exact h.elim | skip
  rename_i m ks xs
  cases m <;> first | exact h.elim | trivial
theorem RepL.erase2 {F H : Hp} : ∀ {xs : List D} {vs : List V} {fp : List Addr} {j : Nat} {y : D}, RepL K F H xs vs fp → xs[j]? = some y → ∃ v f1 f2 f3, vs[j]? = some v ∧ fp = f1 ++ (f2 ++ f3) ∧ Rep K F H y v f2 ∧ RepL K F H (xs.eraseIdx j) (vs.eraseIdx j) (f1 ++ f3)
  | [], _, _, j, _, _, e => by simp at e
  | x :: xs, _, _, 0, y, r, e => by
    have e : x = y := by simpa using e
    subst e
    rw [RepL] at r
    obtain ⟨v, vs', f1, f2, rfl, rfl, r1, r2⟩ := r
    exact ⟨v, [], f1, f2, rfl, rfl, r1, r2⟩
  | x :: xs, _, _, j + 1, y, r, e => by
    have e : xs[j]? = some y := by simpa using e
    rw [RepL] at r
    obtain ⟨v, vs', f1, f2, rfl, rfl, r1, r2⟩ := r
    obtain ⟨u, g1, g2, g3, h2, rfl, h3, h4⟩ := RepL.erase2 r2 e
    refine ⟨u, f1 ++ g1, g2, g3, by simpa using h2, by simp, h3, ?_⟩
    rw [List.eraseIdx_cons_succ, List.eraseIdx_cons_succ, RepL]
    exact ⟨v, _, f1, g1 ++ g3, rfl, by simp, r1, h4⟩
theorem dropK_zip {k : Key} : ∀ {ks : List Key} {vs : List V} {j : Nat}, ks.length = vs.length → ks.Nodup → idxK ks k = some j → dropK (ks.zip vs) k = (ks.eraseIdx j).zip (vs.eraseIdx j)
  | [], _, _, _, _, e => by cases e
  | c :: ks, [], _, h, _, _ => by simp at h
  | c :: ks, v :: vs, j, h, nd, e => by
    rw [idxK] at e
    obtain ⟨n1, n2⟩ := List.nodup_cons.mp nd
    by_cases ec : c = k
    · rw [if_pos ec] at e
      cases e
      subst ec
      rw [List.zip_cons_cons, dropK_pos rfl, List.eraseIdx_cons_zero, List.eraseIdx_cons_zero]
      refine dropK_no fun z => n1 ?_
      obtain ⟨q, hq, e⟩ := List.mem_map.mp z
      have e : q.1 = c := e
      rw [← e]
      exact (List.of_mem_zip (a := q.1) (b := q.2) hq).1
    · rw [if_neg ec] at e
      obtain ⟨j', h1, rfl⟩ := Option.map_eq_some_iff.mp e
      rw [List.zip_cons_cons, dropK_neg ec, List.eraseIdx_cons_succ, List.eraseIdx_cons_succ, List.zip_cons_cons, dropK_zip (by simpa using h) n2 h1]
theorem lf_dpop : LfM1 K (fun x y H Q => ∃ a kvs k v, x = .ref a ∧ H a = some (.dK kvs) ∧ [y] = [kV k] ∧ valV kvs k = some v ∧ Q v (upd H a (.dK (dropK kvs k)))) oDPop := fun F H a c d1 v1 fc fa Q R s rc ha nd r1 n1 dj q k => by
  cases c <;> first | exact q.elim | skip
  rename_i m ks xs
  cases m with
  | false => exact q.elim
  | true =>
  simp only [oDPop] at q
  cases ek : keyD d1 with
  | none => rw [ek] at q; exact q.elim
  | some kk =>
  rw [ek] at q
  obtain ⟨hnd, q⟩ := q
  cases ej : idxK ks kk with
  | none => rw [ej] at q; exact q.elim
  | some j =>
  rw [ej] at q
  simp only at q
  cases ey : xs[j]? with
  | none => rw [ey] at q; exact q.elim
  | some y =>
  rw [ey] at q
  simp only at q
  obtain ⟨vs, fi, hH, hl, rl, rfl⟩ := own_dict rc
  obtain ⟨na, ni⟩ := List.nodup_cons.mp nd
  obtain ⟨e1, rfl⟩ := keyD_rep r1 ek
  have hlv : ks.length = vs.length := hl.trans rl.len
  obtain ⟨u, g1, g2, g3, eu, rfl, ry, rr⟩ := (rl.other (o := .dK ((ks.eraseIdx j).zip (vs.eraseIdx j))) na).erase2 ey
  refine ⟨a, _, kk, u, rfl, hH, by rw [e1], by rw [valV_zip hlv, ej]; exact eu, ?_⟩
  rw [dropK_zip hlv hnd ej]
  have nI := List.nodup_append.mp ni
  have nJ := List.nodup_append.mp nI.2.1
  refine k _ _ _ y u g2 (wr_dict (fi' := g1 ++ g3) rfl ?_ rr ry ?_ ?_ fun b hb => ?_) q
  · have h1 : j < ks.length := (List.getElem?_eq_some_iff.mp (idxK_at ej)).1
    rw [List.length_eraseIdx_of_lt h1, List.length_eraseIdx_of_lt (by omega), hl]
  · refine List.nodup_append.mpr ⟨List.nodup_append.mpr ⟨nI.1, nJ.2.1, fun x hx y hy => nI.2.2 x hx y (by simp [hy])⟩, nJ.1, fun x hx y hy e => ?_⟩
    subst e
    rcases List.mem_append.mp hx with z | z
    · exact nI.2.2 x z x (by simp [hy]) rfl
    · exact nJ.2.2 x hy x z rfl
  · intro z
    apply na
    simp only [List.mem_append] at z ⊢
    rcases z with (z | z) | z
    · exact .inl z
    · exact .inr (.inr z)
    · exact .inr (.inl z)
  · refine .inl ?_
    simp only [List.mem_append] at hb ⊢
    rcases hb with (z | z) | z
    · exact .inl z
    · exact .inr (.inr z)
    · exact .inr (.inl z)
theorem ve_dpop (hK : X.K = K) (ha : VP X K p1 a ta Tp) (hb : VE X K p2 b tb Tb) (hbase : attributeBase a "pop" X.env (eval a X.env) = eval a X.env := by rfl)
    (hfew : ((backTo pos (starEach [b] X.env)).all (fun x => !x.1) && (backToKw pos (keywordEach [] X.env)).all (fun x => x.1.isSome) && decide ([b].length + ([] : List Keyword).length + (if ([] : List Keyword).isEmpty then 0 else 1) < 30)) = true := by rfl)
    (hline : (apos.endLine == pos.line) = true := by rfl) (hs : starEach [b] X.env = [(false, eval b X.env)] := by rfl) : VE X K false (.Call (.Attribute a "pop" apos) [b] [] pos) (tBM K "dict" (fun x ys H Q => ∃ a kvs k v, x = .ref a ∧ H a = some (.dK kvs) ∧ ys = [kV k] ∧ valV kvs k = some v ∧ Q v (upd H a (.dK (dropK kvs k)))) ta (tCons tb tNil)) (TM1 "dict" p2 Tp Tb oDPop) := by
  subst hK
  exact ⟨pe_bm PySem.F.plainAttrs_dict PySem.F.slot_dict_pop PySem.F.type_dict_pop mut_dpop ha.pe (pa_cons hb.pe pa_nil hs) hbase hfew hline hs rfl, Snd.m1 lf_dpop own_oDPop ha.snd hb.snd⟩
theorem ve_listK (hK : X.K = K) (hc : X.calm = true) (hg : Gl X "list") (hm : X.mg "list" = none) (ha : VE X K p a ta Ta) (he : starEach [a] X.env = [(false, eval a X.env)] := by rfl) : VE X K p (.Call (.Name "list" P0) [a] [] pos) (tUn (fun v => rListK [v]) ta) (TU Ta oListK) := by
  subst hK; exact ve_ty1 (call_listD hc) lf_listK hg hm (by decide +kernel) ha (by decide) (by decide) he
theorem ve_minK (hK : X.K = K) (hc : X.calm = true) (hg : Gl X "min") (hm : X.mg "min" = none) (ha : VE X K p a ta Ta) (he : starEach [a] X.env = [(false, eval a X.env)] := by rfl) : VE X K p (.Call (.Name "min" P0) [a] [] pos) (tUn (fun v => rMinR [v]) ta) (TU Ta oMinK) := by
  subst hK; exact ve_b1 (cr_minR hc) lf_minK hg hm (by decide +kernel) ha (by decide) (by decide) he
end
end VL

namespace VL
open PySem PySem.Spec PyProof.Rows L2
/-! ### dicts that are written by a function: dmD m K f, K the keys -/
abbrev dmD (m : Bool) (K : List Int) (f : Int → D) : D := .dK m (K.map Sum.inl) (K.map f)
/-- at one place another value -/
def upF {α : Type} (f : Int → α) (i : Int) (c : α) : Int → α := fun j => if j = i then c else f j
theorem upF_same {α : Type} {f : Int → α} {i : Int} {c : α} : upF f i c i = c := by unfold upF; rw [if_pos rfl]
theorem upF_ne {α : Type} {f : Int → α} {i j : Int} {c : α} (h : j ≠ i) : upF f i c j = f j := by unfold upF; rw [if_neg h]
theorem idxK_ints {i : Int} : ∀ {K : List Int} {f : Int → D}, (idxK (K.map Sum.inl) (.inl i)).bind (fun j => (K.map f)[j]?) = if i ∈ K then some (f i) else none
  | [], f => rfl
  | c :: K, f => by
    rw [List.map_cons, idxK]
    by_cases e : c = i
    · subst e; rw [if_pos rfl, if_pos (by simp)]; rfl
    · have e1 : (Sum.inl c : Key) ≠ .inl i := fun z => e (by cases z; rfl)
      rw [if_neg e1]
      have h := idxK_ints (i := i) (K := K) (f := f)
      have hm : (i ∈ c :: K) ↔ i ∈ K := by rw [List.mem_cons]; exact ⟨fun z => z.resolve_left fun y => e y.symm, .inr⟩
      have e2 : (if i ∈ c :: K then some (f i) else none) = if i ∈ K then some (f i) else none := by
        by_cases z : i ∈ K
        · rw [if_pos z, if_pos (hm.mpr z)]
        · rw [if_neg z, if_neg (fun y => z (hm.mp y))]
      rw [e2, ← h]
      cases idxK (K.map Sum.inl) (.inl i) <;> rfl
theorem atK_ints {i : Int} {K : List Int} {f : Int → D} : atK (K.map Sum.inl) (K.map f) (.inl i) = if i ∈ K then some (f i) else none := idxK_ints
theorem idx_ints {i : Int} {K : List Int} (h : i ∈ K) : ∃ j, idxK (K.map Sum.inl) (.inl i) = some j ∧ K[j]? = some i := by
  obtain ⟨j, h1, _⟩ := inK_idx (inK_iff.mpr (List.mem_map.mpr ⟨i, h, rfl⟩ : (Sum.inl i : Key) ∈ K.map Sum.inl))
  have := idxK_at h1
  rw [List.getElem?_map] at this
  cases e : K[j]? with
  | none => rw [e] at this; cases this
  | some x => rw [e] at this; cases this; exact ⟨j, h1, e⟩
theorem idx_no {i : Int} {K : List Int} (h : i ∉ K) : idxK (K.map Sum.inl) (.inl i) = none := by
  cases e : idxK (K.map Sum.inl) (.inl i) with
  | none => rfl
  | some j =>
    have := idxK_at e
    rw [List.getElem?_map] at this
    cases e2 : K[j]? with
    | none => rw [e2] at this; cases this
    | some x => rw [e2] at this; cases this; exact absurd (List.mem_of_getElem? e2) h
/-- what stands at a key, there -/
def AtQ (ks : List Key) (ds : List D) (k : Key) (P : D → Prop) : Prop := match atK ks ds k with
  | some d => P d
  | none => False
theorem atQ_ints {i : Int} {K : List Int} {f : Int → D} {P : D → Prop} : AtQ (K.map Sum.inl) (K.map f) (.inl i) P = (i ∈ K ∧ P (f i)) := by
  unfold AtQ
  rw [atK_ints]
  by_cases h : i ∈ K
  · rw [if_pos h]; exact propext ⟨fun z => ⟨h, z⟩, fun z => z.2⟩
  · rw [if_neg h]; exact propext ⟨fun z => z.elim, fun z => h z.1⟩
section
variable {al al1 al2 m p2 : Bool} {ks : List Key} {ds : List D} {i : Int} {x : Str} {QB : Bool → D → Prop} {QD : D → D → Prop} {K : List Int} {f : Int → D} {d : D} {ps : List Sp1} {c : D}
theorem w_dixI : oDIx al1 (.dK m ks ds) al2 (.int i) QB = AtQ ks ds (.inl i) fun d => K2 QB ⟨⟩ (d.imm || al1) d := rfl
theorem w_dixS : oDIx al1 (.dK m ks ds) al2 (.str x) QB = AtQ ks ds (.inr x) fun d => K2 QB ⟨⟩ (d.imm || al1) d := rfl
/-- d.get(k, x) -/
def AtG (ks : List Key) (ds : List D) (k : Key) (d3 : D) (P : D → Prop) : Prop := match atK ks ds k with
  | some d => d.imm = true ∧ P d
  | none => P d3
theorem atG_ints {d3 : D} {P : D → Prop} : AtG (K.map Sum.inl) (K.map f) (.inl i) d3 P = ((i ∈ K → (f i).imm = true) ∧ P (if i ∈ K then f i else d3)) := by
  unfold AtG
  rw [atK_ints]
  by_cases h : i ∈ K
  · rw [if_pos h, if_pos h]; exact propext ⟨fun z => ⟨fun _ => z.1, z.2⟩, fun z => ⟨z.1 h, z.2⟩⟩
  · rw [if_neg h, if_neg h]; exact propext ⟨fun z => ⟨fun y => absurd y h, z⟩, fun z => z.2⟩
theorem iteD_int {p : Prop} [Decidable p] {a b : Int} : (if p then D.int a else D.int b) = D.int (if p then a else b) := by split <;> rfl
theorem w_TDG2 {S : SV} {Q : SV → Bool → D → Prop} {Ta Tb Tc : VT} : TDG2 Ta Tb Tc S Q = Ta S fun S1 _ d1 => isDK d1 ∧ Tb S1 fun S2 _ d2 => Tc S2 fun S3 _ d3 => d3.scal = true ∧ (match d1, keyD d2 with
  | .dK _ ks ds, some k => AtG ks ds k d3 fun d => K3 Q ⟨⟩ S3 true d
  | _, _ => False) := rfl
/-- a way into a dict: what stands there must be known ahead -/
structure MkP (P : Prop) : Type where
def CKP (P : Prop) (_ : MkP P) : Prop := P
theorem ckp {P : Prop} {mk : MkP P} (h : P) : CKP P mk := h
theorem x_TPDIx {S : SV} {Q : SV → Nat → List Sp1 → Prop} {T : VTP} {Ti : VT} : TPDIx p2 T Ti S Q = T S fun S1 i ps => Ti S1 fun S2 _ k => (ps.isEmpty || p2) = true ∧ (match atP S2 i ps, keyD k with
  | some (.dK true ks xs), some kk => inK ks kk = true ∧ CKP (Q S2 i (ps ++ [.key kk])) ⟨⟩
  | _, _ => False) := rfl
theorem gP_nil : getP d [] = some d := by cases d <;> rfl
theorem sP_nil : setP d [] c = c := by cases d <;> rfl
theorem gP_ix {xs : List D} {j : Nat} : getP (.lst true xs) (.ix j :: ps) = (match xs[j]? with | some c => getP c ps | none => none) := by rw [getP] <;> rfl
theorem sP_ix {xs : List D} {j : Nat} : setP (.lst true xs) (.ix j :: ps) c = .lst true (xs.set j (match xs[j]? with | some d => setP d ps c | none => c)) := by rw [setP] <;> rfl
theorem gP_tx {xs : List D} {j : Nat} : getP (.tup xs) (.ix j :: ps) = (match xs[j]? with | some c => getP c ps | none => none) := by rw [getP] <;> rfl
theorem sP_tx {xs : List D} {j : Nat} : setP (.tup xs) (.ix j :: ps) c = .tup (xs.set j (match xs[j]? with | some d => setP d ps c | none => c)) := by rw [setP] <;> rfl
theorem getP_m : getP (.dK true (K.map Sum.inl) (K.map f)) (.key (.inl i) :: ps) = if i ∈ K then getP (f i) ps else none := by
  rw [getP, kix_idx]
  by_cases h : i ∈ K
  · obtain ⟨j, h1, h2⟩ := idx_ints h
    rw [h1, if_pos h]
    simp only
    rw [List.getElem?_map, h2]
    rfl
  · rw [if_neg h, idx_no h]
theorem nd_ix {α : Type} {a : α} : ∀ {l : List α} {j k : Nat}, l.Nodup → l[j]? = some a → l[k]? = some a → j = k
  | [], _, _, _, h, _ => by simp at h
  | b :: l, 0, 0, _, _, _ => rfl
  | b :: l, 0, k + 1, nd, h, h' => by
    have h : b = a := by simpa using h
    have h' : l[k]? = some a := by simpa using h'
    exact absurd (List.mem_of_getElem? h') (by rw [← h]; exact (List.nodup_cons.mp nd).1)
  | b :: l, j + 1, 0, nd, h, h' => by
    have h' : b = a := by simpa using h'
    have h : l[j]? = some a := by simpa using h
    exact absurd (List.mem_of_getElem? h) (by rw [← h']; exact (List.nodup_cons.mp nd).1)
  | b :: l, j + 1, k + 1, nd, h, h' => by
    have h : l[j]? = some a := by simpa using h
    have h' : l[k]? = some a := by simpa using h'
    rw [nd_ix (List.nodup_cons.mp nd).2 h h']
theorem map_erIx {α β : Type} {f : α → β} : ∀ {l : List α} {j : Nat}, (l.map f).eraseIdx j = (l.eraseIdx j).map f
  | [], _ => rfl
  | a :: l, 0 => rfl
  | a :: l, j + 1 => by rw [List.map_cons, List.eraseIdx_cons_succ, List.eraseIdx_cons_succ, List.map_cons, map_erIx]
theorem set_mapF {j : Nat} (nd : K.Nodup) (h : K[j]? = some i) : (K.map f).set j c = K.map (upF f i c) := by
  apply List.ext_getElem?
  intro k
  obtain ⟨hj, ej⟩ := List.getElem?_eq_some_iff.mp h
  by_cases e : j = k
  · subst e
    rw [List.getElem?_set_self (by rw [List.length_map]; exact hj), List.getElem?_map, h]
    simp [upF_same]
  · rw [List.getElem?_set_ne e, List.getElem?_map, List.getElem?_map]
    cases ek : K[k]? with
    | none => rfl
    | some y =>
      obtain ⟨hk, ek2⟩ := List.getElem?_eq_some_iff.mp ek
      have : y ≠ i := fun z => e (nd_ix nd h (by rw [← z]; exact ek))
      simp [upF_ne this]
theorem setP_m (nd : K.Nodup) (h : i ∈ K) : setP (.dK true (K.map Sum.inl) (K.map f)) (.key (.inl i) :: ps) c = .dK true (K.map Sum.inl) (K.map (upF f i (setP (f i) ps c))) := by
  obtain ⟨j, h1, h2⟩ := idx_ints h
  rw [setP, kix_idx, h1]
  simp only
  have e : (K.map f)[j]? = some (f i) := by rw [List.getElem?_map, h2]; rfl
  rw [e]
  simp only
  rw [set_mapF nd h2]
theorem map_new {x : Int} (h : x ∉ K) : K.map f ++ [d] = (K ++ [x]).map (upF f x d) := by
  rw [List.map_append]
  congr 1
  · exact List.map_congr_left fun y hy => (upF_ne fun z => h (by rw [← z]; exact hy)).symm
  · simp [upF_same]
theorem dm_set {x : Int} {mk : Mk QD} (hn : K.Nodup) (hz : K.length < 1000000) (q : QD (.dK true ((insK K x).map Sum.inl) ((insK K x).map (upF f x d))) .non) : COD (.dK true (K.map Sum.inl) (K.map f)) (.int x, d) QD mk := by
  refine ⟨List.pairwise_map.mpr (hn.imp fun h e => h (by cases e; rfl)), by rw [List.length_map, line_eq]; omega, fun h => ?_, fun j hj => ?_⟩
  · have hx : x ∉ K := fun z => h (List.mem_map.mpr ⟨x, z, rfl⟩)
    unfold insK at q
    rw [if_neg hx] at q
    rw [map_new hx, show K.map Sum.inl ++ [Sum.inl x] = (K ++ [x]).map (Sum.inl : Int → Key) by rw [List.map_append]; rfl]
    exact q
  · rw [List.getElem?_map] at hj
    cases e : K[j]? with
    | none => rw [e] at hj; cases hj
    | some y =>
      rw [e] at hj
      cases hj
      have hx : x ∈ K := List.mem_of_getElem? e
      unfold insK at q
      rw [if_pos hx] at q
      show QD (.dK true (K.map Sum.inl) ((K.map f).set j d)) .non
      rw [set_mapF hn e]
      exact q
def COP (c d : D) (Q : D → D → Prop) (_ : Mk Q) : Prop := oDPop c d Q
theorem z_dpop : oDPop c d QD = COP c d QD ⟨⟩ := rfl
theorem erase_ix {α : Type} [DecidableEq α] {a : α} : ∀ {l : List α} {j : Nat}, l.Nodup → l[j]? = some a → l.eraseIdx j = l.erase a
  | [], _, _, h => by simp at h
  | b :: l, 0, _, h => by
    have : b = a := by simpa using h
    subst this
    simp
  | b :: l, j + 1, nd, h => by
    have h : l[j]? = some a := by simpa using h
    have hne : b ≠ a := fun z => (List.nodup_cons.mp nd).1 (by rw [z]; exact List.mem_of_getElem? h)
    rw [List.eraseIdx_cons_succ, List.erase_cons_tail (by simpa using hne), erase_ix (List.nodup_cons.mp nd).2 h]
theorem dm_pop {x : Int} {mk : Mk QD} (hn : K.Nodup) (hx : x ∈ K) (q : QD (.dK true ((K.erase x).map Sum.inl) ((K.erase x).map f)) (f x)) : COP (.dK true (K.map Sum.inl) (K.map f)) (.int x) QD mk := by
  obtain ⟨j, h1, h2⟩ := idx_ints hx
  refine ⟨List.pairwise_map.mpr (hn.imp fun h e => h (by cases e; rfl)), ?_⟩
  rw [h1]
  simp only
  rw [List.getElem?_map, h2]
  simp only [Option.map_some]
  rw [map_erIx, map_erIx, erase_ix hn h2]
  exact q
theorem keys_ints : (K.map Sum.inl).map kD = K.map D.int := by rw [List.map_map]; rfl
theorem items_ints : itemD (K.map Sum.inl) (K.map f) = K.map fun i => .tup [.int i, f i] := by
  unfold itemD
  induction K with
  | nil => rfl
  | cons a K ih => rw [List.map_cons, List.map_cons, List.zip_cons_cons, List.map_cons, ih]; rfl
theorem y_listK : oListK al (.dK m ks ds) QB = K2 QB ⟨⟩ true (.lst true (ks.map kD)) := rfl
theorem z_minK : oMinK al d QB = CO oMinK al d QB ⟨⟩ := rfl
theorem dm_min {mk : Mk QB} (h0 : K ≠ []) (q : ∀ x, x ∈ K → (∀ j ∈ K, x ≤ j) → QB true (.int x)) : CO oMinK al (.dK m (K.map Sum.inl) ds) QB mk := ⟨m, K, ds, rfl, h0, q⟩
end
theorem upF_self {α : Type} {f : Int → α} {i : Int} : upF f i (f i) = f := by
  funext j
  unfold upF
  split
  · rename_i h; rw [h]
  · rfl
theorem upF_int {c : Int → Int} {j v : Int} : upF (fun q => D.int (c q)) j (.int v) = fun q => D.int (upF c j v q) := by
  funext q
  unfold upF
  split <;> rfl
theorem upF_dm {m : Bool} {nb : Int → List Int} {c : Int → Int → Int} {i : Int} {L : List Int} {g : Int → Int} : upF (fun p => D.dK m ((nb p).map Sum.inl) ((nb p).map fun q => .int (c p q))) i (.dK m (L.map Sum.inl) (L.map fun q => .int (g q))) = fun p => .dK m ((upF nb i L p).map Sum.inl) ((upF nb i L p).map fun q => .int (upF c i g p q)) := by
  funext p
  unfold upF
  split <;> rfl
/-! dicts of dicts -/
section
variable {K : List Int} {ks : Int → List Key} {ds : Int → List D} {m : Bool} {L : Int → List Int} {c : Int → Int → Int}
theorem fzL_dm : fzL (K.map fun i => .dK m (ks i) (ds i)) = K.map fun i => .dK false (ks i) (fzL (ds i)) := by
  induction K with
  | nil => rfl
  | cons a K ih => rw [List.map_cons, fzL_cons, ih, fz_dK]; rfl
theorem immL_dm : immL (K.map fun i => .dK false (ks i) (ds i)) = true := immL_map fun _ _ => by rw [imm_dK]; rfl
theorem nofzL_dm : nofzL (K.map fun i => .dK true ((L i).map Sum.inl) ((L i).map fun j => .int (c i j))) = true := nofzL_map fun i _ => by
  rw [nofz_dK, nofzL_map fun _ _ => nofz_int]; rfl
theorem fzL_intf {c : Int → Int} : fzL (K.map fun i => .int (c i)) = K.map fun i => .int (c i) := fzL_map fun _ _ => fz_int
theorem immL_intf {c : Int → Int} : immL (K.map fun i => .int (c i)) = true := immL_map fun _ _ => imm_int
theorem nofzL_intf {c : Int → Int} : nofzL (K.map fun i => .int (c i)) = true := nofzL_map fun _ _ => nofz_int
end
end VL

namespace VL
open PySem PySem.Spec PyProof.Rows L2
/-! ### d == {} -/
section
variable {X : Cx} {K : PySem.W.Frag}
def rEqE : R2 := fun x y H Q => ∃ a b ks, x = .ref a ∧ y = .ref b ∧ Rd H a (.dK ks) ∧ Rd H b (.dK []) ∧ Q (.bl (decide (ks = []))) H
theorem op_eqE (hu : X.A.units < cLine) : OpR X (compareOp .Eq) rEqE := fun pins s σ H x y v u Q I rx ry h => by
  obtain ⟨a, b, ks, rfl, rfl, ea, eb, q⟩ := h
  obtain rfl : v = Value.ref a := rx
  obtain rfl : u = Value.ref b := ry
  obtain ⟨_, ya, va, ra, da⟩ := dk_rd I.hok ea
  obtain ⟨_, yb, vb, rb, db⟩ := dk_rd I.hok eb
  have h1 : ks.length = va.length := ra.length
  have h2 : vb.length = 0 := rb.length.symm
  refine PySem.W.keq_eq (knd := mixKind X.prog X.w) (r := true) ya yb da db hu (fun hl => hits_all rb ra fun p hp => ?_) (fin_bl I q ?_)
  · have : ks = [] := List.eq_nil_of_length_eq_zero (by omega)
    rw [this] at hp
    cases hp
  · rw [Bool.and_true, h2, ← h1]
    cases ks <;> rfl
def oEqE : O2 := fun _ d1 _ d2 Q => match d1, d2 with
  | .dK _ ks _, .dK _ [] _ => Q true (.bl (decide (ks = [])))
  | _, _ => False
theorem lf_eqE : Lf2 K rEqE oEqE := fun F H al1 d1 v1 q1 al2 d2 v2 q2 Q R s o1 o2 dj q k => by
  cases d1 <;> first | exact q.elim | skip
  cases d2 <;> first | exact q.elim | skip
  rename_i m ks ds m' ks' ds'
  cases ks' with
  | cons _ _ => exact q.elim
  | nil =>
  obtain ⟨a, vs, fi, rfl, h1, hl, rl, _, _⟩ := dict_rd s o1.rep
  obtain ⟨b, ws, fj, rfl, h2, hl2, rl2, _, _⟩ := dict_rd s o2.rep
  refine ⟨a, b, _, rfl, rfl, h1, h2, ?_⟩
  have e : decide ((ks.zip vs) = []) = decide (ks = []) := by
    have := hl.trans rl.len
    cases ks with
    | nil => rfl
    | cons k ks =>
      cases vs with
      | nil => simp at this
      | cons v vs => rfl
  rw [e]
  exact k F H true _ _ [] (Ans.bl s) q
end
/-! ### t[:0:-1]: the tail, from behind -/
theorem rev_adjust {n : Nat} (h : 1 ≤ n) : Builtin.Slice.sliceAdjust none (some 0) (-1) (n : Int) = ((n : Int) - 1, 0) := by
  unfold Builtin.Slice.sliceAdjust
  have h1 : (-1 : Int) < 0 := by decide
  have h2 : ¬ ((0 : Int) < 0) := by decide
  simp only [h1, h2, if_true, if_false]
  refine Prod.ext rfl ?_
  show min (0 : Int) ((n : Int) - 1) = 0
  omega
theorem rev_places {n : Nat} (h : 1 ≤ n) : Builtin.Slice.slicePlaces ((n : Int) - 1) 0 (-1) = n - 1 := by
  unfold Builtin.Slice.slicePlaces
  have h1 : ¬ ((-1 : Int) > 0) := by decide
  rw [if_neg h1, show (-(-1) : Int) = 1 from rfl]
  split <;> omega
theorem fm_congr {α β : Type} {f g : α → Option β} : ∀ {l : List α}, (∀ m ∈ l, f m = g m) → l.filterMap f = l.filterMap g
  | [], _ => rfl
  | a :: l, h => by rw [List.filterMap_cons, List.filterMap_cons, h a List.mem_cons_self, fm_congr fun m hm => h m (List.mem_cons_of_mem _ hm)]
theorem rev_pick {xs : Array Value} (h : 1 ≤ xs.size) : ((List.range (xs.size - 1)).filterMap fun (m : Nat) => xs[(((xs.size : Int) - 1) + (m : Int) * (-1)).toNat]?).toArray = ((xs.toList.drop 1).reverse).toArray := by
  congr 1
  have e : ∀ m ∈ List.range (xs.size - 1), (xs[(((xs.size : Int) - 1) + (m : Int) * (-1)).toNat]?) = some (xs.toList.getD (xs.size - 1 - m) .none) := fun m hm => by
    have := List.mem_range.mp hm
    have e1 : (((xs.size : Int) - 1) + (m : Int) * (-1)).toNat = xs.size - 1 - m := by omega
    rw [e1, ← Array.getElem?_toList, List.getD_eq_getElem?_getD, List.getElem?_eq_getElem (by rw [Array.length_toList]; omega)]
    rfl
  have e2 : ((List.range (xs.size - 1)).filterMap fun (m : Nat) => xs[(((xs.size : Int) - 1) + (m : Int) * (-1)).toNat]?) = (List.range (xs.size - 1)).map fun m => xs.toList.getD (xs.size - 1 - m) .none := by
    rw [← List.filterMap_eq_map]
    exact fm_congr e
  rw [e2]
  apply List.ext_getElem?
  intro i
  by_cases hi : i < xs.size - 1
  · rw [List.getElem?_map, List.getElem?_range hi, List.getElem?_reverse (by rw [List.length_drop, Array.length_toList]; exact hi), List.getElem?_drop, List.length_drop, Array.length_toList, show 1 + (xs.size - 1 - 1 - i) = xs.size - 1 - i by omega]
    show some (xs.toList.getD (xs.size - 1 - i) .none) = _
    rw [List.getD_eq_getElem?_getD, List.getElem?_eq_getElem (by rw [Array.length_toList]; omega)]
    rfl
  · rw [List.getElem?_eq_none (by rw [List.length_map, List.length_range]; omega), List.getElem?_eq_none (by rw [List.length_reverse, List.length_drop, Array.length_toList]; omega)]
section
variable {prog : Program} {w : World} {A : Around} {E : Value → Shared → Prop} {s : Shared}
theorem rev_applied {sl : Addr} {u1 u2 : Tok} {n : Nat} {Q : Int × Int × Nat → Shared → Prop} (hs : s.heap.IsSliceOf sl .none (.int 0 u1) (.int (-1) u2)) (h1 : 1 ≤ n) (h : Q ((n : Int) - 1, -1, n - 1) s) : wpAny (model prog w) A (Builtin.Slice.sliceApplied (.ref sl) (pure (n : Int))) Q E s := by
  obtain ⟨os, hos, hcs, hds⟩ := id hs
  unfold Builtin.Slice.sliceApplied Builtin.Slice.sliceFields
  refine wpAny_bind (wpAny_bind (wpAny_field hos hds (x := .none) rfl (wpAny_bind (wpAny_field hos hds (x := .int 0 u1) rfl (wpAny_bind (wpAny_field hos hds (x := .int (-1) u2) rfl (wpAny_pure ?_)))))))
  refine wpAny_bind (HT.slicePart_ (.int (-1) u2) ?_)
  show wpAny _ _ (if ((-1 : Int) == 0) = true then _ else _) _ _ s
  rw [if_neg (by decide)]
  refine wpAny_bind (HT.slicePart_ .none (wpAny_bind (HT.slicePart_ (.int 0 u1) (wpAny_bind (wpAny_pure ?_)))))
  show wpAny _ _ (match Builtin.Slice.sliceAdjust none (some 0) (-1) (n : Int) with | (lo, hi) => pure (lo, (-1 : Int), Builtin.Slice.slicePlaces lo hi (-1))) _ _ s
  rw [rev_adjust h1]
  show wpAny _ _ (pure ((n : Int) - 1, (-1 : Int), Builtin.Slice.slicePlaces ((n : Int) - 1) 0 (-1))) _ _ s
  rw [rev_places h1]
  exact wpAny_pure h
theorem tup_rev {t sl : Addr} {items : Array Value} {u1 u2 : Tok} {Q : Value → Shared → Prop} (ht : IsTup s.heap t items) (hs : s.heap.IsSliceOf sl .none (.int 0 u1) (.int (-1) u2)) (h1 : 1 ≤ items.size)
    (h : Q (.ref s.heap.objs.size) { s with heap := s.heap.push { cls := .type "tuple", data := .seq ((items.toList.drop 1).reverse).toArray } }) (hsz : items.size ≤ sizeLine) : wpAny (model prog w) A (getItem (.ref t) (.ref sl)) Q E s := by
  have hnew : sizeOk (.seq ((items.toList.drop 1).reverse).toArray) := by
    show ((items.toList.drop 1).reverse).toArray.size ≤ sizeLine
    rw [List.size_toArray, List.length_reverse, List.length_drop, Array.length_toList]
    omega
  obtain ⟨os, hos, hcs, hds⟩ := id hs
  have hTs : s.TypeIs (.ref sl) "slice" := ⟨os, hos, hcs⟩
  unfold getItem
  try with_reducible refine wpAny_holding ?_
  first | refine wpAny_bind (wpAny_pure ?_) | skip
  refine wpAny_bind (wpAny_sequenceKey ht.typeIs (by decide) ?_)
  refine wpAny_bind (wpAny_callSpecial?_slot (name := Str.ofString "__getitem__") ht.typeIs PyProof.Rows.slot_tuple_getitem
    (wpAny_call_entry PyProof.Rows.slot_tuple_getitem ht.typeIs PyProof.Rows.entry_tuple_getitem ?_ (PyProof.Rows.args_tuple_getitem _ _)))
  show wpAny _ _ (Builtin.Tuple.tupleItemsOf (.ref t) >>= _) _ _ s
  refine wpAny_bind (PyProof.Rows.tupleItemsOf_ ht ?_)
  refine wpAny_bind (wpAny_typeOf hTs ?_)
  rw [if_pos (by decide)]
  refine wpAny_bind (rev_applied hs h1 ?_)
  have hno : ¬ ((((items.size : Int) - 1) == 0 && (-1 : Int) == 1 && (items.size - 1) == items.size) = true) := by
    rw [show ((-1 : Int) == 1) = false from rfl, Bool.and_false, Bool.false_and]
    exact Bool.false_ne_true
  show wpAny _ _ (if (((items.size : Int) - 1) == 0 && (-1 : Int) == 1 && (items.size - 1) == items.size) = true then _ else _) _ _ s
  rw [if_neg hno, rev_pick h1]
  first
    | exact wpAny_bind (m := Builtin.Tuple.tupleExact _) (wpAny_newObj_type (wpAny_pure ⟨_, rfl, wpAny_pure h⟩) hnew)
    | exact wpAny_bind (m := Builtin.Tuple.tupleExact _) (wpAny_newObj_type (wpAny_bind (wpAny_pure (wpAny_pure ⟨_, rfl, wpAny_pure h⟩))) hnew)
    | exact wpAny_bind (wpAny_bind (m := Builtin.Tuple.tupleExact _) (wpAny_newObj_type (wpAny_pure (wpAny_pure ⟨_, rfl, wpAny_pure h⟩)) hnew))
    | exact wpAny_bind (wpAny_bind (m := Builtin.Tuple.tupleExact _) (wpAny_newObj_type (wpAny_pure ⟨_, rfl, wpAny_pure h⟩) hnew))
end
section
variable {X : Cx} {K : PySem.W.Frag} {e a b m : Expr} {te tm ta tb : TE} {Te Ta Tb : VT} {pos pos2 p0 : Pos} {j0 : Nat} {p p1 p2 : Bool}
def rSlRev (K : PySem.W.Frag) : V → Hp → VK → Prop := fun x H Q => ∃ a xs, x = .ref a ∧ SqT K H a xs ∧ xs ≠ [] ∧ NewT H (xs.drop 1).reverse Q
theorem pe_slRev (he : PE X e te) (hm : PE X m tm) (h1 : ∀ σ H Q, Q (V.int (-1)) H → tm σ H Q) (hsub : ∀ ov iv, subscripted (.Slice none (some (.Constant (.int 0) j0 p0)) (some m) pos2) false ov iv = operate [ov, iv] (getItem ov iv)) : PE X (.Subscript e (.Slice none (some (.Constant (.int 0) j0 p0)) (some m) pos2) pos) (tUn (rSlRev X.K) te) := by
  refine ⟨fun pins s σ H Q I h => ?_⟩
  refine Subscript_ (L2.thn (he.run pins s σ H _ I h) fun v s1 ⟨x, H1, I1, r1, q1⟩ => ?_)
  refine wpAny_Slice ?_
  rw [evalPart_none]
  refine wpAny_pure ?_
  rw [evalPart_some]
  refine L2.thn ((pe_int (X := X) (i := 0) (j := j0) (pos := p0)).run pins s1 σ H1 (fun v H' => v = .int 0 ∧ H' = H1) I1 ⟨rfl, rfl⟩) fun vu s2 ⟨x2, H2, I2, r2, e2, e3⟩ => ?_
  subst e2; subst e3
  rw [evalPart_some]
  refine L2.thn (hm.run pins s2 σ H2 (fun v H' => v = .int (-1) ∧ H' = H2) I2 (h1 _ _ _ ⟨rfl, rfl⟩)) fun vs s3 ⟨x3, H3, I3, r3, e2, e3⟩ => ?_
  subst e2; subst e3
  obtain ⟨t1, rfl⟩ := r2
  obtain ⟨t2, rfl⟩ := r3
  obtain ⟨a, xs, rfl, hx, hne, q⟩ := q1
  cases r1
  have I4 : Inv X pins σ H3 { s3 with heap := s3.heap.push { cls := .type "slice", data := .fields #[.none, .int 0 t1, .int (-1) t2] } } := I3.kept (t' := s3.toks) fun b ob q => Heap.get?_push_of_some _ q
  obtain ⟨its, r, ht, hz⟩ := I4.tuple hx
  have hlen : its.length = xs.length := r.length.symm
  show wpAny (model X.prog X.w) X.A (subscriptTail e (.Slice none (some (.Constant (.int 0) j0 p0)) (some m) pos2) (.ref a) (.ref s3.heap.objs.size)) (EP X pins σ Q) X.xe { s3 with heap := s3.heap.push { cls := .type "slice", data := .fields #[.none, .int 0 t1, .int (-1) t2] } }
  refine tail_any (ops := [.ref a, .ref s3.heap.objs.size]) ht.typeIs PyProof.Rows.slot_tuple_getitem.lookup ?_ (hsub _ _)
  have hp : 0 < xs.length := List.length_pos_iff.mpr hne
  refine tup_rev ht (Heap.IsSliceOf.new ..) (by rw [List.size_toArray]; omega) ?_ (by rw [List.size_toArray, hlen]; exact hz)
  exact newTup (t' := s3.toks) I4 (r.drop 1).reverse (by rw [List.length_reverse, List.length_drop]; omega) (Nat.le_refl _) (fun b ob e => Heap.get?_push_of_some _ e) (Heap.get?_push_size _ rfl) q
theorem repL_at {K : PySem.W.Frag} {F H : Hp} : ∀ {ds : List D} {vs : List V}, ds.length = vs.length → (∀ (i : Nat) (d : D) (v : V), ds[i]? = some d → vs[i]? = some v → Rep K F H d v []) → RepL K F H ds vs []
  | [], [], _, _ => by rw [RepL]; exact ⟨rfl, rfl⟩
  | [], _ :: _, h, _ => by simp at h
  | _ :: _, [], h, _ => by simp at h
  | d :: ds, v :: vs, h, k => by
    rw [RepL]
    exact ⟨v, vs, [], [], rfl, rfl, k 0 d v rfl rfl, repL_at (by simpa using h) fun i d v h1 h2 => k (i + 1) d v (by simpa using h1) (by simpa using h2)⟩
theorem repL_tail {K : PySem.W.Frag} {F H : Hp} {ds : List D} {vs : List V} (r : RepL K F H ds vs []) : RepL K F H (ds.drop 1).reverse (vs.drop 1).reverse [] := by
  have hl := r.len
  refine repL_at (by rw [List.length_reverse, List.length_reverse, List.length_drop, List.length_drop, hl]) fun i d v h1 h2 => ?_
  have hi : i < (ds.drop 1).length := by
    have := (List.getElem?_eq_some_iff.mp h1).1
    rwa [List.length_reverse] at this
  have hi2 : i < (vs.drop 1).length := by rw [List.length_drop] at *; omega
  rw [List.getElem?_reverse hi, List.getElem?_drop] at h1
  rw [List.getElem?_reverse hi2, List.getElem?_drop] at h2
  obtain ⟨u, e, ru⟩ := r.at0 h1
  rw [List.length_drop] at *
  rw [hl] at e
  rw [e] at h2
  cases h2
  exact ru
def oSlRev : O1 := fun _ d Q => match d with
  | .tup xs => xs ≠ [] ∧ immL xs = true ∧ Q true (.tup (xs.drop 1).reverse)
  | _ => False
theorem lf_slRev : Lf1 K (rSlRev K) oSlRev := fun F H al1 d1 v1 q1 Q R s o1 q k => by
  cases d1 <;> first | exact q.elim | skip
  rename_i xs
  obtain ⟨hne, im, q⟩ := q
  obtain ⟨a, vs, rfl, h1, rl⟩ := seqT_imm o1.rep im
  refine ⟨a, vs, rfl, s.seqT h1, fun z => hne (List.eq_nil_of_length_eq_zero (by rw [rl.len, z]; rfl)), fun p o hp hd => k _ _ _ _ _ _ (Ans.newT s hp hd (repL_tail rl)) q⟩
theorem ve_slRev {j1 : Nat} {p1' p2' : Pos} (hK : X.K = K) (ha : VE X K p a ta Ta) (hsub : ∀ ov iv, subscripted (.Slice none (some (.Constant (.int 0) j0 p0)) (some (.UnaryOp .USub (.Constant (.int 1) j1 p1') p2')) pos2) false ov iv = operate [ov, iv] (getItem ov iv)) :
    VE X K p (.Subscript a (.Slice none (some (.Constant (.int 0) j0 p0)) (some (.UnaryOp .USub (.Constant (.int 1) j1 p1') p2')) pos2) pos) (tUn (rSlRev K) ta) (TU Ta oSlRev) := by
  subst hK
  exact ⟨pe_slRev ha.pe (ve_neg (K := X.K) (p := true) ve_int).pe (fun _ _ _ q => ⟨1, rfl, q⟩) hsub, Snd.un ha.snd lf_slRev⟩
theorem ve_eqE (hu : X.A.units + 64 < cLine) (ha : VE X K p1 a ta Ta) (hb : VE X K p2 b tb Tb) : VE X K (p1 && p2) (.Compare a [.Eq] [b] pos) (tOp rEqE ta tb) (T2 p2 Ta Tb oEqE) := ve_cmp (op_eqE (by omega)) lf_eqE ha hb (nomark _)
theorem vq_eqE (hu : X.A.units + 64 < cLine) (ha : VE X K p1 a ta Ta) (hb : VE X K p2 b tb Tb) : VQ X K (p1 && p2) (.Compare a [.Eq] [b] pos) (tTest (tOp rEqE ta tb)) (TQ (T2 p2 Ta Tb oEqE)) := vq_cmp (op_eqE (by omega)) lf_eqE ha hb (nomark _)
end
section
variable {al al1 al2 m m' : Bool} {xs ds : List D} {ks : List Key} {K : List Int} {QB : Bool → D → Prop}
theorem y_eqE : oEqE al1 (.dK m (K.map Sum.inl) ds) al2 (.dK m' [] []) QB = K2 QB ⟨⟩ true (.bl (decide (K = []))) := by
  show QB true (.bl (decide (K.map (Sum.inl : Int → Key) = []))) = _
  have : decide (K.map (Sum.inl : Int → Key) = []) = decide (K = []) := by cases K <;> rfl
  rw [this]; rfl
theorem y_slRev : oSlRev al (.tup xs) QB = (xs ≠ [] ∧ immL xs = true ∧ K2 QB ⟨⟩ true (.tup (xs.drop 1).reverse)) := rfl
end
end VL

namespace VL
open PySem PySem.Spec PyProof.Rows L2
/-! ### min and max of two plain things -/
section
variable {prog : Program} {w : World} {A : Around} {E : Value → Shared → Prop} {s : Shared}
theorem min_twoH {a b : Value} {Q : Value → Shared → Prop}
    (h : wpAny (model prog w) A.in1 (pyIter (.ref s.heap.objs.size)) (fun it s₂ => ∃ I fp wr G n P St H bt, it = .ref I ∧ WalksS prog w A.in1 I fp wr G n P St ∧ St 0 s₂ ∧ (∀ b ∈ fp, b < s₂.heap.objs.size) ∧ 0 < n ∧
      (∀ b o, H.get? b = some o → b ∉ wr) ∧ (∀ b o, H.get? b = some o → s₂.heap.get? b = some o) ∧ CmpIn prog w A.in1 .Lt H P bt ∧ ∀ v s', P (argBest bt (n - 1)) v → Moved wr G s₂ s' → Q v s') E
      { s with heap := s.heap.push { cls := .type "tuple", data := .seq #[a, b] } }) :
    wpAny (model prog w) A (call (.builtin "min") [a, b]) Q E s := by
  have nm : (toString "min" ++ toString ".loop" : String) = "min.loop" := by decide
  refine call_function_tree F.kind_min F.plain_min F.entry_min (F.args_min2 _ _) ?_
  show wpAny _ A.in1 (Builtin.Builtins.bindParams "min" ["key", "default"] 0 ⟨[], []⟩ >>= _) _ _ s
  refine wpAny_bind (wpAny_of_eq (show Builtin.Builtins.bindParams "min" ["key", "default"] 0 ⟨[], []⟩ = pure [none, none] from rfl) ?_)
  show wpAny _ A.in1 (newTuple [a, b] >>= _) _ _ s
  refine wpAny_bind (wpAny_newObj_type ?_)
  refine wpAny_bind (wpAny_mono h (fun it s2 z => ?_) fun _ _ e => e)
  obtain ⟨I, fp, wr, G, n, P, St, H, bt, rfl, W, hst, hfp, hn, hw, hk, hcmp, hQ⟩ := z
  refine wpAny_bind (wpAny_newObj_type ?_)
  have nf : s2.heap.objs.size ∉ fp := fun hm => Nat.lt_irrefl _ (hfp _ hm)
  rw [nm]
  exact wpAny_pure ⟨plainId_quiet F.plain_min_loop _, codeAny_min_loop_firstH W H hw bt hcmp s2.heap.objs.size nf (fresh_in hk) _ hn (fun b o e => Heap.get?_push_of_some _ (hk b o e)) (W.frame 0 s2 _ s2.toks hst (Nat.le_refl _) fun b _ o e => Heap.get?_push_of_some _ e) (Heap.get?_push_size _ rfl) fun v s' hP hm =>
    hQ v s' hP (Moved.drop_new (tk := s2.toks) hm (Nat.le_refl _))⟩
end
theorem best1 {bt : Nat → Nat → Bool} : argBest bt (2 - 1) = if bt 1 0 = true then 1 else 0 := rfl
section
variable {X : Cx} {K : PySem.W.Frag}
def rMin2D (K : PySem.W.Frag) : List V → Hp → VK → Prop := fun vs H Q => ∃ (F : Hp) (x y : V) (d e : D) (k : Nat), vs = [x, y] ∧ Sub F H ∧ Rep K F H d x [] ∧ Rep K F H e y [] ∧ pD k d = true ∧ pD k e = true ∧ k ≤ 60 ∧ okD d d = true ∧ okD d e = true ∧ okD e d = true ∧ okD e e = true ∧ Q (if ltD e d = true then y else x) H
theorem cr_min2D (hc : X.calm = true) (hu : X.A.units + 64 < cLine) : CallR X (.builtin "min") (rMin2D X.K) := fun pins s σ H vs us Q I r h => by
  obtain ⟨F0, x, y, d, e, k, rfl, sub, rx, ry, pd, pe, hk, o1, o2, o3, o4, q⟩ := h
  obtain ⟨u, v, rfl, ru, rv⟩ := vals2 r
  have du := datH_of rfl I sub pd rx ru
  have dv := datH_of rfl I sub pe ry rv
  refine min_twoH ?_
  have hT : ({ s with heap := s.heap.push { cls := .type "tuple", data := .seq #[u, v] } } : Shared).heap.IsTuple s.heap.objs.size #[u, v] := ⟨_, Heap.get?_push_size _ rfl, rfl, _, rfl⟩
  refine PySem.W.iter_tupleW (A := X.A.in1) (by rw [← I.ok.hd hc]) hT fun s2 e2 W st0 hfp hw hkeep => ?_
  have kp : ∀ (st : Shared), (∀ b o, ({ s with heap := s.heap.push { cls := .type "tuple", data := .seq #[u, v] } } : Shared).heap.get? b = some o → st.heap.get? b = some o) → DatH st.heap d u ∧ DatH st.heap e v := fun st h =>
    ⟨du.keep fun b o e _ => h b o (Heap.get?_push_of_some _ e), dv.keep fun b o e _ => h b o (Heap.get?_push_of_some _ e)⟩
  have hu1 : X.A.in1.units + k < cLine := by
    have : X.A.in1.units ≤ X.A.units + 1 := by simp
    omega
  refine ⟨_, _, _, _, _, _, _, ({ s with heap := s.heap.push { cls := .type "tuple", data := .seq #[u, v] } } : Shared).heap, fun i j => if i = 0 then (if j = 0 then ltD d d else ltD d e) else (if j = 0 then ltD e d else ltD e e), rfl, W, st0, hfp, by simp, hw, hkeep, ?_, fun t s' hP hm => ?_⟩
  · intro i j vi vj st Q E hk2 hi hj hQ
    obtain ⟨k1, k2⟩ := kp st hk2
    have two : ∀ {i : Nat} {z : Value}, (#[u, v])[i]? = some z → (i = 0 ∧ z = u) ∨ (i ≠ 0 ∧ z = v) := fun {i z} h => by
      match i, h with
      | 0, h => exact .inl ⟨rfl, by simpa using h.symm⟩
      | 1, h => exact .inr ⟨by decide, by simpa using h.symm⟩
      | n + 2, h => simp at h
    rcases two hi with ⟨rfl, rfl⟩ | ⟨i0, rfl⟩ <;> rcases two hj with ⟨rfl, rfl⟩ | ⟨j0, rfl⟩
    · exact dat_lt k pd pd o1 k1 k1 hu1 _ _ _ _ hQ
    · replace hQ : Q (.bool (ltD d e)) st := by simpa [j0] using hQ
      exact dat_lt k pd pe o2 k1 k2 hu1 _ _ _ _ hQ
    · replace hQ : Q (.bool (ltD e d)) st := by simpa [i0] using hQ
      exact dat_lt k pe pd o3 k2 k1 hu1 _ _ _ _ hQ
    · replace hQ : Q (.bool (ltD e e)) st := by simpa [i0, j0] using hQ
      exact dat_lt k pe pe o4 k2 k2 hu1 _ _ _ _ hQ
  · obtain ⟨h', tk, rfl, hk3⟩ := PySem.W.moved_old e2 rfl hm
    have I2 := I.kept (t' := tk) fun b o e => hk3 b o (Heap.get?_push_of_some _ e)
    refine ⟨_, H, I2, ?_, q⟩
    have hP : (#[u, v])[if ltD e d = true then 1 else 0]? = some t := hP
    by_cases z : ltD e d = true
    · rw [if_pos z] at hP ⊢
      have : v = t := by simpa using hP
      rw [← this]; exact rv
    · rw [if_neg z] at hP ⊢
      have : u = t := by simpa using hP
      rw [← this]; exact ru
def oMin2D : O2 := fun _ d1 _ d2 Q => (∃ k, k ≤ 60 ∧ pD k d1 = true ∧ pD k d2 = true) ∧ (okD d1 d1 = true ∧ okD d1 d2 = true ∧ okD d2 d1 = true ∧ okD d2 d2 = true) ∧ Q true (if ltD d2 d1 = true then d2 else d1)
theorem lf_min2D : Lf2 K (fun x y => rMin2D K [x, y]) oMin2D := fun F H al1 d1 v1 q1 al2 d2 v2 q2 Q R s o1 o2 dj q k => by
  obtain ⟨⟨n, hn, p1, p2⟩, ⟨k1, k2, k3, k4⟩, q⟩ := q
  have i1 : d1.imm = true := by have := immL_pL (k := n) (ds := [d1]) (by rw [pL, pL, p1]; rfl); rwa [immL_cons, immL_nil, Bool.and_true] at this
  have i2 : d2.imm = true := by have := immL_pL (k := n) (ds := [d2]) (by rw [pL, pL, p2]; rfl); rwa [immL_cons, immL_nil, Bool.and_true] at this
  have e1 := o1.rep.ofImm i1
  have e2 := o2.rep.ofImm i2
  subst e1; subst e2
  refine ⟨F, v1, v2, d1, d2, n, rfl, s, o1.rep, o2.rep, p1, p2, hn, k1, k2, k3, k4, ?_⟩
  by_cases z : ltD d2 d1 = true
  · rw [if_pos z] at q ⊢
    exact k F H true d2 v2 [] ⟨o2.rep, Grow.refl s, fun _ => ⟨List.nodup_nil, fun a ha => absurd ha (by simp)⟩⟩ q
  · rw [if_neg z] at q ⊢
    exact k F H true d1 v1 [] ⟨o1.rep, Grow.refl s, fun _ => ⟨List.nodup_nil, fun a ha => absurd ha (by simp)⟩⟩ q
end
section
variable {X : Cx} {K : PySem.W.Frag} {a b : Expr} {ta tb : TE} {Ta Tb : VT} {P0 pos : Pos} {p1 p2 : Bool}
theorem ve_min2D (hK : X.K = K) (hc : X.calm = true) (hu : X.A.units + 64 < cLine) (hg : Gl X "min") (hm : X.mg "min" = none) (ha : VE X K p1 a ta Ta) (hb : VE X K p2 b tb Tb) (he : starEach [a, b] X.env = (false, eval a X.env) :: starEach [b] X.env := by rfl) (he2 : starEach [b] X.env = [(false, eval b X.env)] := by rfl) (hpl : (backTo pos (starEach [b] X.env)).any (·.1) = false := by rfl) :
    VE X K (p1 && p2) (.Call (.Name "min" P0) [a, b] [] pos) (tOp (fun x y => rMin2D K [x, y]) ta tb) (T2 p2 Ta Tb oMin2D) := by
  subst hK; exact ve_b2 (cr_min2D hc hu) lf_min2D hg hm (by decide +kernel) ha hb (by decide) (by decide) he he2 hpl
end
/-- the lesser of two rows of ints -/
def minIT (a b : List Int) : List Int := if ltD (iT b) (iT a) = true then b else a
section
variable {al1 al2 : Bool} {l l' : List Int} {QB : Bool → D → Prop}
theorem pD_iT {l : List Int} : pD 1 (iT l) = true := by rw [pD_tup]; exact pL_ints
theorem okD_iT {l l' : List Int} : okD (iT l) (iT l') = true := by rw [okD]; exact okL_ints
theorem c_min2T {mk : Mk QB} : CO2 oMin2D al1 (.tup (l.map D.int)) al2 (.tup (l'.map D.int)) QB mk = K2 QB ⟨⟩ true (.tup ((minIT l l').map D.int)) := by
  have e : (if ltD (iT l') (iT l) = true then iT l' else iT l) = iT (minIT l l') := by unfold minIT; split <;> rfl
  refine propext ⟨fun z => ?_, fun z => ⟨⟨1, by decide, pD_iT, pD_iT⟩, ⟨okD_iT, okD_iT, okD_iT, okD_iT⟩, by rw [e]; exact z⟩⟩
  have z := z.2.2
  rw [e] at z
  exact z
theorem z_min2D {d1 d2 : D} : oMin2D al1 d1 al2 d2 QB = CO2 oMin2D al1 d1 al2 d2 QB ⟨⟩ := rfl
end
end VL

namespace VL
open PySem PySem.Spec PyProof.Rows L2
/-! ### list(reversed(x)), x a list -/
section
variable {prog : Program} {w : World} {A : Around} {E : Value → Shared → Prop} {s : Shared}
theorem rev_fill {it l S : Addr} {xs : Array Value} {c0 : Nat} {res : Value} {R : Result → Shared → Prop} (hh : A.handled = none) (hit : s.heap.IsRevIter it l ((xs.size : Int) - 1)) (hl : s.heap.IsList l xs) (hne : l ≠ it) (hn : xs.size ≤ sizeLine)
    (n1 : S ≠ it) (n2 : S ≠ l) (hS : s.heap.get? S = some { cls := .type "list", data := .seq #[] c0 })
    (hR : ∀ (h' : Heap) (tk : Nat) (acc : Array Value) (c : Nat), (∀ b o, b ≠ it → b ≠ S → s.heap.get? b = some o → h'.get? b = some o) → h'.get? S = some { cls := .type "list", dict := none, data := .seq acc c, slots := #[] } → ItemsOf (fun i v => xs[xs.size - 1 - i]? = some v) acc xs.size → R (.ok (.ret res)) { s with heap := h', toks := tk }) :
    wpAny (model prog w) A.in1 (Builtin.List.listExtendWith (.ref S) (.ref it) res)
      (fun fin s' => match fin with | .done f => R (.ok f) s' | .again c' => c'.quiet = true ∧ codeAny (model prog w) A c' R s') (fun e s' => R (.error e) s') s := by
  have W := (Walks.listRev (prog := prog) (w := w) (A := A.in1) hh it l hne xs).toS
  have nf : S ∉ [it, l] := by simp [n1, n2]
  have hT : s.TypeIs (.ref it) "list_reverseiterator" := hit.typeIs
  have hsame : Builtin.List.listSameRef (.ref S) (.ref it) = false := by simp [Builtin.List.listSameRef, n1]
  unfold Builtin.List.listExtendWith
  refine wpAny_bind (wpAny_typeOf hT ?_)
  rw [if_neg (by rw [hsame]; decide)]
  refine wpAny_bind (wpAny_pyIter_revIter hit ?_)
  refine wpAny_bind (wpAny_holding ?_)
  unfold Builtin.List.listLengthHint
  refine wpAny_bind (wpAny_specialOf hT RT.nolen_lri ?_)
  show wpAny _ A.in1 (specialOf (Value.ref it) (Str.ofString "__length_hint__") >>= _) _ _ _
  refine wpAny_bind (wpAny_specialOf hT RT.hint_lri ?_)
  generalize hid : ("list_reverseiterator.__length_hint__" : String) = id0
  wp_delta
  rw [show splitId id0 = some ("list_reverseiterator", "__length_hint__") from by subst hid; decide +kernel]
  subst hid
  refine wpAny_bind (wpAny_isInstance (b := true) hT (by rw [isSubtype_type]; kernel_rfl) ?_)
  refine wpAny_pure ?_
  rw [if_neg (by decide)]
  have e0 : ((xs.size : Nat) : Int) - 1 - ((0 : Nat) : Int) = (xs.size : Int) - 1 := by omega
  refine wpAny_pure ⟨plainId_quiet F.plain_extend_loop _, codeAny_extend_loopS W hn _ nf res xs.size 0 _ _ _ rfl (Nat.zero_le _) ⟨Nat.zero_le _, by rw [e0]; exact hit, hl⟩ hS (ItemsOf.nil _) fun s' acc c hm hS' ha => ?_⟩
  rw [Moved.eq_with hm]
  refine hR s'.heap s'.toks acc c (fun b o h1 h2 e => hm.heap b o (fun hb => ?_) e) hS' ha
  rcases List.mem_cons.mp hb with z | hb
  · exact h2 z
  · exact h1 (List.mem_singleton.mp hb)
theorem call_listRev {it l : Addr} {xs : Array Value} {Q : Value → Shared → Prop} (hh : A.handled = none) (hit : s.heap.IsRevIter it l ((xs.size : Int) - 1)) (hl : s.heap.IsList l xs) (hne : l ≠ it) (hn : xs.size ≤ sizeLine)
    (hQ : ∀ (h' : Heap) (tk : Nat) (acc : Array Value) (c : Nat), (∀ b o, b ≠ it → s.heap.get? b = some o → h'.get? b = some o) → h'.get? s.heap.objs.size = some { cls := .type "list", dict := none, data := .seq acc c, slots := #[] } → ItemsOf (fun i v => xs[xs.size - 1 - i]? = some v) acc xs.size →
      Q (.ref s.heap.objs.size) { s with heap := h', toks := tk }) : wpAny (model prog w) A (call (.type "list") [.ref it]) Q E s := by
  have li : it < s.heap.objs.size := by obtain ⟨_, e, _⟩ := id hit; exact Heap.lt_size e
  have ll : l < s.heap.objs.size := by obtain ⟨_, e, _⟩ := id hl; exact Heap.lt_size e
  refine callType_codes (Q₁ := fun obj s1 => obj = .ref s.heap.objs.size ∧ s1 = { s with heap := s.heap.push { cls := .type "list", data := .seq #[] } }) PySem.F.called_list (PySem.F.typeCall_list_1 _) PySem.F.entry_list_init
    (code_list_new _ ⟨rfl, rfl⟩) fun obj s1 z => ?_
  obtain ⟨rfl, rfl⟩ := z
  have hS : (s.heap.push { cls := .type "list", data := .seq #[] }).get? s.heap.objs.size = some { cls := .type "list", data := .seq #[] } := Heap.get?_push_size _ rfl
  refine ⟨⟨_, hS, rfl⟩, PySem.F.args_list_init_2 _ _, ?_⟩
  show wpAny _ _ (do let old ← Builtin.List.listItems (.ref s.heap.objs.size); Builtin.List.listUpdate (.ref s.heap.objs.size) (fun _ => #[]); letGo old.toList.reverse; Builtin.List.listExtendWith (.ref s.heap.objs.size) (.ref it) .none) _ _ _
  refine wpAny_bind ?_
  unfold Builtin.List.listItems
  refine wpAny_bind (wpAny_seqItems hS rfl (wpAny_pure ?_))
  show wpAny _ _ (updateSeq s.heap.objs.size (fun _ => #[]) >>= fun _ => letGo (#[] : Array Value).toList.reverse >>= fun _ => Builtin.List.listExtendWith (.ref s.heap.objs.size) (.ref it) .none) _ _ _
  refine wpAny_bind (wpAny_updateSeq hS rfl ?_)
  have hS2 := Heap.get?_update_self (Obj.mapSeq (fun _ => (#[] : Array Value))) hS rfl
  have oth : ∀ b o, s.heap.get? b = some o → ((s.heap.push { cls := .type "list", data := .seq #[] }).update s.heap.objs.size (Obj.mapSeq (fun _ => (#[] : Array Value)))).get? b = some o :=
    fun b o e => (Heap.get?_update_other _ _ (Nat.ne_of_gt (Heap.lt_size e))).trans (Heap.get?_push_of_some _ e)
  refine wpAny_bind (wpAny_letGo ?_)
  refine rev_fill (xs := xs) hh (hit.at fun o e => oth _ o e) (hl.at fun o e => oth _ o e) hne hn (Nat.ne_of_gt li) (Nat.ne_of_gt ll) hS2 fun h' tk acc c hk hS' ha => ?_
  exact ⟨rfl, hQ h' tk acc c (fun b o hb e => hk b o hb (Nat.ne_of_lt (Heap.lt_size e)) (oth b o e)) hS' ha⟩
end
section
variable {X : Cx} {K : PySem.W.Frag} {a : Expr} {ta : TE} {Ta : VT} {P0 P1 pos pos1 : Pos} {p : Bool}
def rListRev (K : PySem.W.Frag) : V → Hp → VK → Prop := fun v H Q => ∃ (l : Addr) (xs : List V), v = .ref l ∧ SqL K H l xs ∧ ∀ q, H q = none → Q (.ref q) (upd H q (.lst xs.reverse))
theorem pe_listRev (hc : X.calm = true) (hg : Gl X "list") (hm : X.mg "list" = none) (hg2 : Gl X "reversed") (hm2 : X.mg "reversed" = none) (ha : PE X a ta)
    (hs : starEach [a] X.env = (false, eval a X.env) :: starEach [] X.env) (hs2 : starEach [.Call (.Name "reversed" P1) [a] [] pos1] X.env = (false, eval (.Call (.Name "reversed" P1) [a] [] pos1) X.env) :: starEach [] X.env) :
    PE X (.Call (.Name "list" P0) [.Call (.Name "reversed" P1) [a] [] pos1] [] pos) (tUn (rListRev X.K) ta) := by
  refine ⟨fun pins s σ H Q I h => ?_⟩
  refine Call_ (ld_blt I hg hm boot_list (PyProof.Rows.callWith_type1 (args_cons (Call_ (ld_blt I hg2 hm2 PyProof.Rows.boot_reversed (PyProof.Rows.callWith_type1 (args_cons (L2.thn (ha.run pins s σ H _ I h) fun u s1 ⟨v, H1, I1, r1, q1⟩ => args_nil ?_) hs) hs rfl))) hs2) hs2 rfl))
  obtain ⟨l, xs, ev, hq, q⟩ := q1
  subst ev
  obtain rfl : u = Value.ref l := r1
  obtain ⟨its, rv, pl, hz⟩ := I1.list hq
  refine call_reversed_list pl.isList (args_nil ?_)
  generalize ho : revObj l ((its.toArray.size : Int) - 1) = ob
  have I2 : Inv X pins σ H1 { s1 with heap := s1.heap.push ob } := I1.kept (t' := s1.toks) fun b o e => Heap.get?_push_of_some _ e
  have fo : FpOk X pins H1 s1.heap.objs.size := I1.fpOk (Nat.le_refl _) (I1.hok.fresh (Nat.le_refl _))
  have hl := pl.isList
  have hne : l ≠ s1.heap.objs.size := by obtain ⟨_, e, _⟩ := id hl; exact Nat.ne_of_lt (Heap.lt_size e)
  have hn : its.toArray.size ≤ sizeLine := by rw [List.size_toArray, ← rv.length]; exact hz
  refine call_listRev (s := { s1 with heap := s1.heap.push ob }) (I1.ok.hd hc) ⟨ob, Heap.get?_push_size _ (by rw [← ho]; rfl), by rw [← ho]; rfl, by rw [← ho]; rfl⟩ (hl.push _) hne hn fun h' tk acc c hk hD hi => ?_
  have fr : H1 (s1.heap.push ob).objs.size = none := I2.hok.fresh (Nat.le_refl _)
  have new : ObjOk X.prog X.w (upd H1 (s1.heap.push ob).objs.size (.lst xs.reverse)) h' (s1.heap.push ob).objs.size (.lst xs.reverse) := ⟨by rw [List.length_reverse]; exact hz, acc.toList, c, RT.vals_rev rv hi, by rw [Array.toArray_toList]; exact hD⟩
  exact ⟨.ref (s1.heap.push ob).objs.size, _, I2.turnedNew (t' := tk) (ch := [s1.heap.objs.size]) (fun b o hb e => hk b o (by simpa using hb) e) (fun b hb => by rw [List.mem_singleton.mp hb]; exact fo) (Nat.le_refl _) new, rfl, q _ fr⟩
def oListRev : O1 := fun _ d Q => match d with
  | .lst _ xs => immL xs = true ∧ Q true (.lst true xs.reverse)
  | _ => False
theorem repL_rev {F H : Hp} {ds : List D} {vs : List V} (r : RepL K F H ds vs []) : RepL K F H ds.reverse vs.reverse [] := by
  have hl := r.len
  refine repL_at (by rw [List.length_reverse, List.length_reverse, hl]) fun i d v h1 h2 => ?_
  have hi : i < ds.length := by
    have := (List.getElem?_eq_some_iff.mp h1).1
    rwa [List.length_reverse] at this
  rw [List.getElem?_reverse hi] at h1
  rw [List.getElem?_reverse (by omega)] at h2
  obtain ⟨u, e, ru⟩ := r.at0 h1
  rw [hl] at e
  rw [e] at h2
  cases h2
  exact ru
theorem lf_listRev : Lf1 K (rListRev K) oListRev := fun F H al1 d1 v1 q1 Q R s o1 q k => by
  cases d1 <;> first | exact q.elim | skip
  rename_i m xs
  obtain ⟨im, q⟩ := q
  obtain ⟨a, vs, rfl, h1, rl⟩ := seqL_imm s o1.rep im
  exact ⟨a, vs, rfl, h1, fun p hp => k _ _ _ _ _ _ (Ans.newL s hp (repL_rev (rl.mono Sub.refl fun _ h => absurd h (by simp)))) q⟩
theorem ve_listRev (hK : X.K = K) (hc : X.calm = true) (hg : Gl X "list") (hm : X.mg "list" = none) (hg2 : Gl X "reversed") (hm2 : X.mg "reversed" = none) (ha : VE X K p a ta Ta)
    (hs : starEach [a] X.env = (false, eval a X.env) :: starEach [] X.env := by rfl) (hs2 : starEach [.Call (.Name "reversed" P1) [a] [] pos1] X.env = (false, eval (.Call (.Name "reversed" P1) [a] [] pos1) X.env) :: starEach [] X.env := by rfl) :
    VE X K p (.Call (.Name "list" P0) [.Call (.Name "reversed" P1) [a] [] pos1] [] pos) (tUn (rListRev K) ta) (TU Ta oListRev) := by
  subst hK
  exact ⟨pe_listRev hc hg hm hg2 hm2 ha.pe hs hs2, Snd.un ha.snd lf_listRev⟩
theorem y_listRev {al m : Bool} {xs : List D} {QB : Bool → D → Prop} : oListRev al (.lst m xs) QB = (immL xs = true ∧ K2 QB ⟨⟩ true (.lst true xs.reverse)) := rfl
end
end VL

namespace VL
open PySem PySem.Spec PyProof.Rows L2
/-! ### zip over a list or a tuple and a list or a tuple -/
def ItzX (K : PySem.W.Frag) (t1 t2 : Bool) (a b : Addr) : It :=
  ⟨fun i H => ∃ (xs ys : List V) (x y : V), SqX K t1 H a xs ∧ SqX K t2 H b ys ∧ xs[i]? = some x ∧ ys[i]? = some y,
    fun i H v H' => ∃ T o x y, v = .ref T ∧ H T = none ∧ o.dict = none ∧ H' = upd H T (.frz o (.tup [x, y])) ∧ (∀ xs, SqX K t1 H a xs → xs[i]? = some x) ∧ ∀ ys, SqX K t2 H b ys → ys[i]? = some y,
    fun i H => ∃ xs ys : List V, SqX K t1 H a xs ∧ SqX K t2 H b ys ∧ (xs.length ≤ i ∨ ys.length ≤ i)⟩
theorem turn_zipX {P : Program} {w : World} {K : PySem.W.Frag} {elts : List Expr} {kk : Nat} {tpos : Pos} {t1 t2 : Bool} {a b z TI TO i1 i2 : Addr} (S : ZipSep2 z TI TO i1 i2 [i1, a] [i2, b]) (n1 : a ≠ i1) (n2 : b ≠ i2) :
    Turn P w K (.Tuple elts kk tpos) (ItzX K t1 t2 a b) [z, TI, TO, i1, i2] z (fun i h => IsZip h z TI TO .none ∧ IsTupOf2 h TI (.ref i1) (.ref i2) ∧ (∃ x y, IsTupOf2 h TO x y) ∧ AtX t1 h i1 a i ∧ AtX t2 h i2 b i) where
  mem := by simp
  obj := fun i h st c hc => by
    obtain ⟨hz, hTI, ⟨x, y, hTO⟩, h1, h2⟩ := st
    have e : c = z ∨ c = TI ∨ c = TO ∨ c = i1 ∨ c = i2 := by simpa using hc
    rcases e with q | q | q | q | q <;> rw [q]
    · exact ⟨_, hz, fun v q => nomatch q⟩
    · exact ⟨_, hTI, fun v q => nomatch q⟩
    · exact ⟨_, hTO, fun v q => nomatch q⟩
    · exact h1.obj
    · exact h2.obj
  keep := fun i h h' st k => by
    obtain ⟨hz, hTI, ⟨x, y, hTO⟩, h1, h2⟩ := st
    exact ⟨k z (by simp) _ hz, k TI (by simp) _ hTI, ⟨x, y, k TO (by simp) _ hTO⟩, h1.at fun o q => k i1 (by simp) o q, h2.at fun o q => k i2 (by simp) o q⟩
  item := by
    intro X hP hw hK hc i pins s σ H E I hf st hg
    subst hP hw hK
    obtain ⟨hz, hTI, ⟨x0, y0, hTO⟩, h1, h2⟩ := st
    obtain ⟨xs, ys, x, y, hqx, hqy, hx, hy⟩ := hg
    obtain ⟨its, rv, p⟩ := Inv.srcX I hqx
    obtain ⟨jts, rv2, p2⟩ := Inv.srcX I hqy
    obtain ⟨u, hu, ru⟩ := rv.get hx
    obtain ⟨u2, hu2, ru2⟩ := rv2.get hy
    have hzl : z < s.heap.objs.size := Heap.lt_size hz
    have hA : X.A.in1.handled = none := by rw [← I.ok.hd hc]
    have l1 : i < its.toArray.size := by simpa using (List.getElem?_eq_some_iff.mp hu).1
    have l2 : i < jts.toArray.size := by simpa using (List.getElem?_eq_some_iff.mp hu2).1
    refine wpAny_pyNext_zipD2_item S (drawsX t1 hA i1 a n1 its.toArray) (drawsX t2 hA i2 b n2 jts.toArray) hz hTI hTO ⟨h1, p⟩ ⟨h2, p2⟩ l1 l2 fun w1 w2 h' tk e1 e2 z' TO' h1' h2' hT hsz hk => ?_
    have e1 : w1 = u := by
      have : its[i]? = some w1 := by simpa using e1
      rw [hu] at this; exact (Option.some.inj this).symm
    have e2 : w2 = u2 := by
      have : jts[i]? = some w2 := by simpa using e2
      rw [hu2] at this; exact (Option.some.inj this).symm
    subst e1; subst e2
    refine ⟨_, rfl, wpAny_letOwnedTupleGo_zip (s := { s with heap := h', toks := tk }) z' fun h'' z'' sb => ?_⟩
    have hT2 : h''.get? s.heap.objs.size = some { cls := .type "tuple", data := .seq #[w1, w2] } := (sb.2 _ (Nat.ne_of_gt hzl)).trans hT
    have new : ObjOk X.prog X.w (upd H s.heap.objs.size (.frz { cls := .type "tuple", data := .seq #[w1, w2] } (.tup [x, y]))) h'' s.heap.objs.size (.frz { cls := .type "tuple", data := .seq #[w1, w2] } (.tup [x, y])) :=
      ⟨hT2, by show 2 ≤ sizeLine; decide, [w1, w2], .cons ru (.cons ru2 .nil), ⟨_, hT2, rfl, _, rfl⟩⟩
    have I1 := I.turnedNew (t' := tk) (ch := [z, TI, TO, i1, i2]) (fun c o hb q => (sb.2 c (fun q' => hb (by simp [q']))).trans (hk c o (fun q' => hb (by simp [q'])) (fun q' => hb (by simp [q'])) (fun q' => hb (by simp [q'])) (fun q' => hb (by simp [q'])) q)) hf (Nat.le_refl _) new
    refine ⟨.ref s.heap.objs.size, _, I1, rfl, ⟨_, _, x, y, rfl, I.hok.fresh (Nat.le_refl _), rfl, rfl, fun l hl => by rw [Inv.injX I hl hqx]; exact hx, fun l hl => by rw [Inv.injX I hl hqy]; exact hy⟩, ⟨z'', (sb.2 _ S.TIz).trans (hk _ _ S.TIz S.TITO S.TIi1 S.TIi2 hTI), ⟨w1, w2, (sb.2 _ S.TOz).trans TO'⟩, h1'.1.at fun o q => (sb.2 _ (Ne.symm S.zi1)).trans q, h2'.1.at fun o q => (sb.2 _ (Ne.symm S.zi2)).trans q⟩, fun c hcm => ?_⟩
    have hlt : c < s.heap.objs.size := by
      have e : c = z ∨ c = TI ∨ c = TO ∨ c = i1 ∨ c = i2 := by simpa using hcm
      rcases e with q | q | q | q | q <;> rw [q]
      · exact hzl
      · exact Heap.lt_size hTI
      · exact Heap.lt_size hTO
      · obtain ⟨_, e1, _⟩ := h1.obj; exact Heap.lt_size e1
      · obtain ⟨_, e2, _⟩ := h2.obj; exact Heap.lt_size e2
    rw [upd_ne (Nat.ne_of_lt hlt)]
    exact (hf c hcm).1
  done := by
    intro X hP hw hK hc i pins s σ H E I hf st hg
    subst hP hw hK
    obtain ⟨hz, hTI, ⟨x0, y0, hTO⟩, h1, h2⟩ := st
    obtain ⟨xs, ys, hqx, hqy, hend⟩ := hg
    obtain ⟨its, rv, p⟩ := Inv.srcX I hqx
    obtain ⟨jts, rv2, p2⟩ := Inv.srcX I hqy
    have l1 := rv.length
    have l2 := rv2.length
    have hA : X.A.in1.handled = none := by rw [← I.ok.hd hc]
    have fin : ∀ (h' : Heap) (tk : Nat), (∀ c o, c ≠ z → c ≠ TO → c ≠ i1 → c ≠ i2 → s.heap.get? c = some o → h'.get? c = some o) → ((none : Option Value) = none ∧ Inv X pins σ H { s with heap := h', toks := tk }) := fun h' tk hk => ⟨rfl, I.turnedL (t' := tk) (ch := [z, TI, TO, i1, i2]) (fun c o hb q =>
      hk c o (fun q' => hb (by simp [q'])) (fun q' => hb (by simp [q'])) (fun q' => hb (by simp [q'])) (fun q' => hb (by simp [q'])) q) hf⟩
    by_cases g1 : its.toArray.size ≤ i
    · have m1 : its.toArray[i]? = none := Array.getElem?_eq_none_iff.mpr g1
      by_cases g2 : jts.toArray.size ≤ i
      · have m2 : jts.toArray[i]? = none := Array.getElem?_eq_none_iff.mpr g2
        exact wpAny_pyNext_zipD2_end S (drawsE t1 hA i1 a its.toArray m1) (drawsE t2 hA i2 b jts.toArray m2) hz hTI hTO ⟨rfl, h1, p⟩ ⟨rfl, h2, p2⟩ (Nat.le_refl _) (Nat.le_refl _) (.inl rfl) fin
      · exact wpAny_pyNext_zipD2_end S (drawsE t1 hA i1 a its.toArray m1) (drawsX t2 hA i2 b n2 jts.toArray) hz hTI hTO ⟨rfl, h1, p⟩ ⟨h2, p2⟩ (Nat.le_refl _) (by omega) (.inl rfl) fin
    · have g2 : jts.toArray.size ≤ i := by
        rw [List.size_toArray] at *
        omega
      have m2 : jts.toArray[i]? = none := Array.getElem?_eq_none_iff.mpr g2
      exact wpAny_pyNext_zipD2_end S (drawsX t1 hA i1 a n1 its.toArray) (drawsE t2 hA i2 b jts.toArray m2) hz hTI hTO ⟨h1, p⟩ ⟨rfl, h2, p2⟩ (by omega) (Nat.le_refl _) (.inr rfl) fin
  self := fun A i s Q E st h => wpAny_pyIter_zip st.1 h
def iZipX (K : PySem.W.Frag) (ta : TA) : TI := fun σ H R => ta σ H fun vs H1 => ∃ t1 t2 a b xs ys, vs = [.ref a, .ref b] ∧ SqX K t1 H1 a xs ∧ SqX K t2 H1 b ys ∧ R (ItzX K t1 t2 a b) H1
theorem pi_zipX {X : Cx} {e e2 : Expr} {ta : TA} {p pos tpos : Pos} {elts : List Expr} {kk : Nat} (hg : Gl X "zip") (hm : X.mg "zip" = none) (ha : PA X [e, e2] ta)
    (hs : starEach [e, e2] X.env = (false, eval e X.env) :: starEach [e2] X.env := by rfl) (hpl : (backTo pos (starEach [e2] X.env)).any (·.1) = false := by rfl) :
    PI X (.Tuple elts kk tpos) (.Call (.Name "zip" p) [e, e2] [] pos) (iZipX X.K ta) := by
  refine ⟨fun pins s σ H R I h => ?_⟩
  refine Call_ (ld_blt I hg hm PyProof.Rows.boot_zip (PyProof.Rows.callWith_type1 (L2.thn (ha.run pos pins s σ H _ I h) fun us s1 ⟨vs, H1, I1, r1, q1⟩ => ?_) hs hpl))
  obtain ⟨t1, t2, a, b, xs, ys, ex, hqx, hqy, q⟩ := q1
  subst ex
  cases r1 with
  | cons r rr =>
    cases rr with
    | cons r' rr =>
      cases rr
      cases r
      cases r'
      obtain ⟨its, rv, p1⟩ := Inv.srcX I1 hqx
      obtain ⟨jts, rv2, p2⟩ := Inv.srcX I1 hqy
      have lt : ∀ {t : Bool} {a : Addr} {its : Array Value}, SrcX t s1.heap a its → a < s1.heap.objs.size := fun {t a its} x => by
        cases t
        · obtain ⟨_, e, _⟩ := (show s1.heap.IsList a its from x); exact Heap.lt_size e
        · obtain ⟨_, e, _⟩ := (show s1.heap.IsTuple a its from x); exact Heap.lt_size e
      have la := lt p1
      have lb := lt p2
      refine zip_begins2 (beginsX t1 a its.toArray) (beginsX t2 b jts.toArray) p1 p2 fun h' hz hTI hTO h1 h2 hsz hk => wpAny_pyIter_zip hz ?_
      have at1 : AtX t1 h' s1.heap.objs.size a 0 := by
        cases t1
        · exact ⟨_, h1, rfl, rfl⟩
        · exact ⟨_, h1, rfl, rfl⟩
      have at2 : AtX t2 h' (s1.heap.objs.size + 1) b 0 := by
        cases t2
        · exact ⟨_, h2, rfl, rfl⟩
        · exact ⟨_, h2, rfl, rfl⟩
      have S := zip_sep2 (N := s1.heap.objs.size) (fp1 := [a]) (fp2 := [b]) (fun c hc => by rw [List.mem_singleton.mp hc]; exact la) (fun c hc => by rw [List.mem_singleton.mp hc]; exact lb)
      refine ⟨s1.heap.objs.size + 4, [s1.heap.objs.size + 4, s1.heap.objs.size + 2, s1.heap.objs.size + 3, s1.heap.objs.size, s1.heap.objs.size + 1], _, _, H1, rfl, I1.kept (t' := s1.toks) hk, turn_zipX S (Nat.ne_of_lt la) (Nat.ne_of_lt (Nat.lt_succ_of_lt lb)), ⟨hz, hTI, ⟨_, _, hTO⟩, at1, at2⟩, fun c hcm => ?_, q⟩
      have e' : c = s1.heap.objs.size + 4 ∨ c = s1.heap.objs.size + 2 ∨ c = s1.heap.objs.size + 3 ∨ c = s1.heap.objs.size ∨ c = s1.heap.objs.size + 1 := by simpa using hcm
      have hle : s1.heap.objs.size ≤ c := by
        rcases e' with z | z | z | z | z <;> rw [z] <;> first | exact Nat.le_add_right _ _ | exact Nat.le_refl _
      exact I1.fpOk hle (I1.hok.fresh hle)
section
variable {K : PySem.W.Frag} {F H : Hp}
theorem itok_zipX {t1 t2 : Bool} {a b : Addr} {vs us : List V} {ds es : List D} {H0 : Hp} (h : SqX K t1 F a vs) (r : RepL K F H ds vs []) (h2 : SqX K t2 F b us) (r2 : RepL K F H0 es us []) : ItOk K (ItzX K t1 t2 a b) F (zipD ds es) := fun F' H' s1 s2 => by
  have hs : SqX K t1 H' a vs := h.sub (s1.trans s2)
  have hs2 : SqX K t2 H' b us := h2.sub (s1.trans s2)
  have hl := r.len
  have hl2 := r2.len
  refine ⟨fun i d e => ?_, fun i hi => ⟨vs, us, hs, hs2, ?_⟩⟩
  · obtain ⟨x, y, ex, ey, rfl⟩ := zipD_at e
    obtain ⟨v, ev, rv⟩ := r.at0 ex
    obtain ⟨u, eu, ru⟩ := r2.at0 ey
    refine ⟨⟨vs, us, v, u, hs, hs2, ev, eu⟩, fun w H'' z => ?_⟩
    obtain ⟨T, o, v', u', rfl, hT, hd, rfl, z1, z2⟩ := z
    have e1 := z1 vs hs
    have e2 := z2 us hs2
    rw [ev] at e1
    rw [eu] at e2
    cases e1
    cases e2
    exact ⟨_, pair_newF s2 hT hd (rv.mono s1 fun b hb => absurd hb (by simp)) (ru.mono s1 fun b hb => absurd hb (by simp))⟩
  · unfold zipD at hi
    rw [List.length_map, List.length_zip] at hi
    omega
end
/-- both fixed already -/
def TIZipX (Ta Tb : VT) : VTI := fun S Q => Ta S fun S1 _ d1 => Tb S1 fun S2 _ d2 => d1.imm = true ∧ d2.imm = true ∧ match d1, d2 with
  | .lst false xs, .lst false ys => Q S2 (zipD xs ys)
  | .tup xs, .tup ys => Q S2 (zipD xs ys)
  | .tup xs, .lst false ys => Q S2 (zipD xs ys)
  | .lst false xs, .tup ys => Q S2 (zipD xs ys)
  | _, _ => False
section
variable {X : Cx} {K : PySem.W.Frag} {p1 p2 : Bool} {a b : Expr} {ta tb : TE} {Ta Tb : VT} {P0 pos tpos : Pos} {elts : List Expr} {kk : Nat}
theorem vi_zipX (hK : X.K = K) (hg : Gl X "zip") (hm : X.mg "zip" = none) (h1 : VE X K p1 a ta Ta) (h2 : VE X K p2 b tb Tb) (hs : starEach [a, b] X.env = (false, eval a X.env) :: starEach [b] X.env := by rfl) (hs2 : starEach [b] X.env = [(false, eval b X.env)] := by rfl) (hpl : (backTo pos (starEach [b] X.env)).any (·.1) = false := by rfl) :
    VI X K (p1 && p2) (.Tuple elts kk tpos) (.Call (.Name "zip" P0) [a, b] [] pos) (iZipX K (tCons ta (tCons tb tNil))) (TIZipX Ta Tb) := by
  subst hK
  refine ⟨pi_zipX hg hm (pa_cons h1.pe (pa_cons h2.pe pa_nil hs2) hs) hs hpl, fun F H σ S fp Q R g q k => h1.snd F H σ S fp _ _ g q fun F1 H1 S1 fp1 al1 d1 v1 fq1 r1 q1 => ?_⟩
  refine h2.snd F1 H1 σ S1 fp1 _ _ r1.good q1 fun F2 H2 S2 fp2 al2 d2 v2 fq2 r2 q2 => ?_
  obtain ⟨i1, i2, q2⟩ := q2
  have e1 := r1.rep.ofImm i1
  subst e1
  have e2 := r2.rep.ofImm i2
  subst e2
  have main : ∀ {xs ys : List D}, (d1 = .tup xs ∨ d1 = .lst false xs) → (d2 = .tup ys ∨ d2 = .lst false ys) → Q S2 (zipD xs ys) → ∃ t1 t2 a b us ws, [v1, v2] = [.ref a, .ref b] ∧ SqX X.K t1 H2 a us ∧ SqX X.K t2 H2 b ws ∧ R (ItzX X.K t1 t2 a b) H2 := fun c1 c2 q => by
    obtain ⟨t1, a, vs, ea, h1, rl1⟩ := srcD r1.rep c1
    obtain ⟨t2, b, us, eb, h2, rl2⟩ := srcD r2.rep c2
    subst ea; subst eb
    have h1' := h1.sub r2.step.fsub
    exact ⟨t1, t2, a, b, vs, us, rfl, h1'.sub r2.good.sub, h2.sub r2.good.sub, k F2 H2 S2 fp2 _ _ r2.good (r1.step.trans r2.step) (pureT r1.pure r2.pure) (itok_zipX h1' (rl1.mono (H' := H1) r2.step.fsub fun _ h => absurd h (by simp)) h2 rl2) q⟩
  cases d1 <;> first | exact q2.elim | skip
  · cases d2 <;> first | exact q2.elim | skip
    · exact main (.inl rfl) (.inl rfl) q2
    · rename_i xs m ys
      cases m with
      | true => exact q2.elim
      | false => exact main (.inl rfl) (.inr rfl) q2
  · rename_i m xs
    cases m with
    | true => cases d2 <;> exact q2.elim
    | false =>
      cases d2 <;> first | exact q2.elim | skip
      · exact main (.inr rfl) (.inl rfl) q2
      · rename_i m' ys
        cases m' with
        | true => exact q2.elim
        | false => exact main (.inr rfl) (.inr rfl) q2
end
theorem x_TIZipX {Ta Tb : VT} {S : SV} {QI : SV → List D → Prop} : TIZipX Ta Tb S QI = Ta S fun S1 _ d1 => Tb S1 fun S2 _ d2 => d1.imm = true ∧ d2.imm = true ∧ (match d1, d2 with
  | .lst false xs, .lst false ys => QI S2 (zipD xs ys)
  | .tup xs, .tup ys => QI S2 (zipD xs ys)
  | .tup xs, .lst false ys => QI S2 (zipD xs ys)
  | .lst false xs, .tup ys => QI S2 (zipD xs ys)
  | _, _ => False) := rfl
end VL

namespace VL
open PySem PySem.Spec PyProof.Rows L2
/-! ### methods of a tuple -/
theorem TupN.obj {X : Cx} {pins : List (Addr × Obj)} {σ : L2.St} {H : Hp} {s : Shared} {a : Addr} {vs : List V} (I : Inv X pins σ H s) (h : TupN X.K H a vs) : s.TypeIs (.ref a) "tuple" ∧ (∀ b, Value.ref a = .ref b → ∃ ob, s.heap.get? b = some ob ∧ ob.dict = none) := by
  obtain ⟨its, rv, ⟨o, ho, hc, n, hd⟩, hz⟩ := I.tuple h.sq
  refine ⟨⟨o, ho, hc⟩, fun b e => ?_⟩
  cases e
  refine ⟨o, ho, ?_⟩
  rcases h with ⟨o', e, hn⟩ | ⟨o', its', n', hk, _, hn, _⟩
  · have := (I.hok a _ e).1
    rw [ho] at this; cases this; exact hn
  · have := I.kIn a o' hk
    rw [ho] at this; cases this; exact hn
def tTM (K : PySem.W.Frag) (r : V → List V → Hp → VK → Prop) (to te : TE) : TE := fun σ H Q => to σ H fun x H1 => (∃ a xs, x = .ref a ∧ TupN K H1 a xs) ∧ te σ H1 fun y H2 => r x [y] H2 Q
theorem pe_tm {X : Cx} {o e : Expr} {apos cpos : Pos} {to te : TE} {name : Str} {id : String} {r : V → List V → Hp → VK → Prop} (slot : Slot "tuple" name id) (hty : typeOf (.builtin id) = pure (.type "method_descriptor")) (hm : MtR X id r) (ho : PE X o to) (he : PE X e te) (m : M1 X o name apos e cpos) :
    PE X (.Call (.Attribute o name apos) [e] [] cpos) (tTM X.K r to te) := by
  refine ⟨fun pins s σ H Q I h => ?_⟩
  refine wpAny_Call_method m.base m.few m.line PySem.F.plainAttrs_tuple slot hty (L2.thn (ho.run pins s σ H _ I h) fun u s1 ⟨x, H1, I1, rx, ⟨a, xs, ex, d⟩, q1⟩ => ?_)
  subst ex
  obtain rfl : u = Value.ref a := rx
  obtain ⟨t1, t2⟩ := d.obj I1
  refine ⟨t1, t2, ?_⟩
  rw [m.trees]
  exact Calls.callWith_builtin rfl (Calls.evalArgs_plain (Calls.spliced_cons (L2.thn (he.run pins s1 σ H1 _ I1 q1) fun iv s2 ⟨y, H2, I2, ry, q2⟩ => Calls.spliced_nil (hm pins s2 σ H2 (.ref a) [y] (.ref a) [iv] Q I2 rfl (.cons ry .nil) q2))))
def isTup : D → Prop
  | .tup _ => True
  | _ => False
def TT1 (p2 : Bool) (Ta Tb : VT) (O : O2) : VT := fun S Q => Ta S fun S1 al1 d1 => isTup d1 ∧ Tb S1 fun S2 al2 d2 => (p2 || al1 || d1.scal) = true ∧ O al1 d1 al2 d2 (Q S2)
section
variable {K : PySem.W.Frag} {ta tb : TE} {Ta Tb : VT} {p1 p2 : Bool}
theorem Snd.t1 {r : V → List V → Hp → VK → Prop} {O : O2} (h1 : Snd K p1 ta Ta) (h2 : Snd K p2 tb Tb) (l : Lf2 K (fun x y => r x [y]) O) : Snd K (p1 && p2) (tTM K r ta tb) (TT1 p2 Ta Tb O) := fun F H σ S fp Q R g q k => by
  refine h1 F H σ S fp _ _ g q fun F1 H1 S1 fp1 al1 d1 v1 fq1 r1 q1 => ?_
  obtain ⟨il, q1⟩ := q1
  refine ⟨?_, ?_⟩
  · cases d1 <;> first | exact il.elim | skip
    obtain ⟨a, vs, rfl, h, _⟩ := tup_partsN r1.rep
    exact ⟨a, vs, rfl, r1.good.sub.tupN h⟩
  · refine h2 F1 H1 σ S1 fp1 _ _ r1.good q1 fun F2 H2 S2 fp2 al2 d2 v2 fq2 r2 q2 => ?_
    obtain ⟨c, q2⟩ := q2
    obtain ⟨m1, m2, m3⟩ := r1.carry r2 c
    refine l F2 H2 al1 d1 v1 fq1 al2 d2 v2 fq2 _ _ r2.good.sub ⟨m1, fun z => ⟨(m2 z).1, fun a ha => ((m2 z).2 a ha).1⟩⟩ ⟨r2.rep, fun z => ⟨(r2.sep z).1, fun a ha => ((r2.sep z).2 a ha).1⟩⟩ m3 q2 fun F3 H3 al d v fq an q3 => ?_
    have s12 := r1.step.trans r2.step
    refine k F3 H3 S2 fp2 al d v fq ⟨r2.good.grow an.grow, an.rep, s12.trans an.grow.step, fun z => ⟨(an.sep z).1, fun a ha => ⟨((an.sep z).2 a ha).1, ?_⟩⟩, fun z => ?_⟩ q3
    · rcases ((an.sep z).2 a ha).2 with y | ⟨y1, y2⟩ | ⟨y1, y2⟩
      · refine ⟨fun hb => ?_, ?_⟩
        · obtain ⟨o, e, _⟩ := r2.good.rep.mu a hb
          rw [e] at y; cases y
        · by_cases n : a ∈ fp
          · exact .inl n
          · cases e : H a with
            | none => exact .inr rfl
            | some o => rw [s12.keep a o e n] at y; cases y
      · exact ((m2 y1).2 a y2).2
      · obtain ⟨_, z2, z3⟩ := (r2.sep y1).2 a y2
        refine ⟨z2, ?_⟩
        rcases z3 with z3 | z3
        · exact r1.step.own a z3
        · by_cases n : a ∈ fp
          · exact .inl n
          · cases e : H a with
            | none => exact .inr rfl
            | some o => rw [r1.step.keep a o e n] at z3; cases z3
    · obtain ⟨a1, a2, a3⟩ := pureT r1.pure r2.pure z
      exact ⟨a1, a2, a3.trans an.grow⟩
end
/-! ### t.index(i), ints -/
def rTIndex (K : PySem.W.Frag) : V → List V → Hp → VK → Prop := fun x xs H Q => ∃ (a : Addr) (ns : List Int) (i : Int), x = .ref a ∧ xs = [.int i] ∧ SqT K H a (ns.map V.int) ∧ i ∈ ns ∧ Q (.int (ns.idxOf i : Nat)) H
theorem mt_tindex {X : Cx} : MtR X "tuple.index" (rTIndex X.K) := by
  intro pins s σ H x xs v us Q I rx rv h
  obtain ⟨a, ns, i, rfl, rfl, hq, hi, q⟩ := h
  cases rx
  obtain ⟨u, rfl, ru⟩ := Vals.one rv
  obtain ⟨t, rfl⟩ := ru
  obtain ⟨its, r, pl, _⟩ := I.tuple hq
  exact SeqAt.tuple_index_ints pl (RZ.intsAre_vals r) hi ⟨.int _, H, I.tok _, ⟨_, rfl⟩, q⟩
def oTIndex : O2 := fun _ d1 _ d2 Q => ∃ (ns : List Int) (i : Int), d1 = .tup (ns.map D.int) ∧ d2 = .int i ∧ i ∈ ns ∧ Q true (.int (ns.idxOf i : Nat))
theorem lf_tindex {K : PySem.W.Frag} : Lf2 K (fun x y => rTIndex K x [y]) oTIndex := fun F H al1 d1 v1 q1 al2 d2 v2 q2 Q R s o1 o2 dj q k => by
  obtain ⟨ns, i, rfl, rfl, hi, q⟩ := q
  obtain ⟨a, vs, rfl, h1, rl⟩ := tup_parts o1.rep
  obtain ⟨rfl, _⟩ := rl.ints
  have e := o2.int
  subst e
  exact ⟨a, ns, i, rfl, rfl, s.seqT h1, hi, k F H true _ _ [] (Ans.int s) q⟩
/-! ### t.count(x): plain things -/
def rTCount (K : PySem.W.Frag) : V → List V → Hp → VK → Prop := fun x xs H Q => ∃ (y : V) (d : PyData) (ds : List PyData), xs = [y] ∧ (∃ a vs, x = .ref a ∧ SqT K H a vs ∧ DpAll K H vs ds) ∧ Dp K H y d ∧ SeqAt.shaped d = true ∧ SeqAt.shaped (.tuple ds) = true ∧ Q (.int ((ds.countP fun z => PyData.eqv z d : Nat) : Int)) H
theorem canLayAll_of_tup {ds : List PyData} (h : SeqAt.shaped (.tuple ds) = true) : PyData.canLayAll0 ds = true := by
  have := SeqAt.canLay_of_shaped h
  rwa [PyData.canLay0] at this
theorem mt_tcount {X : Cx} (hu : X.A.units + 65 < cLine) : MtR X "tuple.count" (rTCount X.K) := by
  intro pins s σ H x xs v us Q I rx rv h
  obtain ⟨y, d, ds, rfl, ⟨a, vs, rfl, hq, da⟩, hy, sd, se, q⟩ := h
  cases rx
  obtain ⟨u, rfl, ru⟩ := Vals.one rv
  obtain ⟨its, r, pl, _⟩ := I.tuple hq
  obtain ⟨as, r1⟩ := Dp.readsAll I ds vs its da r
  obtain ⟨bs, r2⟩ := Dp.reads I d y u hy ru
  refine SeqAt.count_tuple_data pl r1 r2 (PyData.plainAll_of_canLay0 _ (canLayAll_of_tup se)) (PyData.plain_of_canLay0 _ (SeqAt.canLay_of_shaped sd)) (room_in_shaped sd hu) ⟨.int _, H, I.tok _, ⟨_, rfl⟩, q⟩
def oTCount : O2 := fun _ d1 _ d2 Q => ∃ (k k' : Nat) (xs : List D), d1 = .tup xs ∧ pln k d2 = true ∧ plnL k' xs = true ∧ k ≤ 60 ∧ k' ≤ 60 ∧ Q true (.int (((toPyL xs).countP fun z => PyData.eqv z (toPy d2) : Nat) : Int))
theorem lf_tcount {K : PySem.W.Frag} : Lf2 K (fun x y => rTCount K x [y]) oTCount := fun F H al1 d1 v1 q1 al2 d2 v2 q2 Q R s o1 o2 dj q k => by
  obtain ⟨n, n', xs, rfl, h1, h2, hn, hn', q⟩ := q
  have sh1 := pln_shaped h1 (Nat.le_trans hn (by decide))
  have dp1 := o2.rep.dp s (SeqAt.canLay_of_shaped sh1)
  have sh2 := pln_shaped (k := n' + 1) (d := .tup xs) (by rw [pln]; exact h2) (by omega)
  rw [toPy] at sh2
  obtain ⟨a, vs, rfl, ha, rl⟩ := tup_parts o1.rep
  exact ⟨v2, _, _, rfl, ⟨a, vs, rfl, s.seqT ha, rl.dp s (canLayAll_of_tup sh2)⟩, dp1, sh1, sh2, k F H true _ _ [] (Ans.int s) q⟩
theorem cnt_ints {i : Int} : ∀ {l : List Int}, (toPyL (l.map D.int)).countP (fun z => PyData.eqv z (toPy (.int i))) = l.count i
  | [] => rfl
  | a :: l => by
    have e : PyData.eqv (toPy (.int a)) (toPy (.int i)) = (a == i) := by
      rw [Bool.eq_iff_iff, pln_eqv (k := 5) (k' := 5) pln_int pln_int, fz_int, fz_int]; simp
    rw [List.map_cons, toPyL, List.countP_cons, cnt_ints, List.count_cons, e]
theorem cnt_prs {p : Int × Int} : ∀ {l : List (Int × Int)}, (toPyL (l.map p2D)).countP (fun z => PyData.eqv z (toPy (p2D p))) = l.count p
  | [] => rfl
  | a :: l => by
    have e : PyData.eqv (toPy (p2D a)) (toPy (p2D p)) = (a == p) := by
      rw [Bool.eq_iff_iff, pln_eqv (k := 5) (k' := 5) (d := p2D a) (e := p2D p) rfl rfl]
      have f : ∀ q : Int × Int, fz (p2D q) = p2D q := fun q => by rw [p2D_eq, fz_tup, fzL_cons, fzL_cons, fzL_nil, fz_int, fz_int]
      rw [f, f]
      exact ⟨fun z => by rw [p2D_inj z]; simp, fun z => by rw [eq_of_beq z]⟩
    rw [List.map_cons, toPyL, List.countP_cons, cnt_prs, List.count_cons, e]
theorem c_tcountI {al1 al2 : Bool} {l : List Int} {i : Int} {QB : Bool → D → Prop} {mk : Mk QB} : CO2 oTCount al1 (.tup (l.map D.int)) al2 (.int i) QB mk = K2 QB ⟨⟩ true (.int (l.count i : Nat)) := propext
  ⟨fun ⟨k, k', xs, e, _, _, _, _, q⟩ => by injection e with e; subst e; rw [cnt_ints] at q; exact q, fun q => ⟨5, 5, _, rfl, pln_int, plnL_ints, by decide, by decide, by rw [cnt_ints]; exact q⟩⟩
theorem c_tcountP {al1 al2 : Bool} {l : List (Int × Int)} {a b : Int} {QB : Bool → D → Prop} {mk : Mk QB} : CO2 oTCount al1 (.tup (l.map p2D)) al2 (.tup [.int a, .int b]) QB mk = K2 QB ⟨⟩ true (.int (l.count (a, b) : Nat)) := by
  have c := cnt_prs (p := (a, b)) (l := l)
  rw [p2D_eq] at c
  exact propext ⟨fun ⟨k, k', xs, e, _, _, _, _, q⟩ => by injection e with e; subst e; rw [c] at q; exact q, fun q => ⟨5, 5, _, rfl, rfl, plnL_prs, by decide, by decide, by rw [c]; exact q⟩⟩
theorem c_tindexI {al1 al2 : Bool} {l : List Int} {i : Int} {QB : Bool → D → Prop} {mk : Mk QB} : CO2 oTIndex al1 (.tup (l.map D.int)) al2 (.int i) QB mk = (i ∈ l ∧ K2 QB ⟨⟩ true (.int (l.idxOf i : Nat))) := propext
  ⟨fun ⟨ns, j, e, e2, h, q⟩ => by
    injection e with e
    injection e2 with e2
    have : l = ns := (List.map_inj_right (fun _ _ z => by injection z)).mp e
    subst this; subst e2
    exact ⟨h, q⟩, fun ⟨h, q⟩ => ⟨l, i, rfl, rfl, h, q⟩⟩
section
variable {X : Cx} {K : PySem.W.Frag} {a b : Expr} {pos apos : Pos} {p1 p2 al1 al2 : Bool} {Ta Tb : VT} {ta tb : TE} {d1 d2 : D} {QB : Bool → D → Prop} {O : O2} {S : SV} {Q : SV → Bool → D → Prop} {xs : List D}
theorem ve_tindex (hK : X.K = K) (ha : VE X K p1 a ta Ta) (hb : VE X K p2 b tb Tb) (m : M1 X a "index" apos b pos := by exact ⟨rfl, rfl, rfl, rfl⟩) : VE X K (p1 && p2) (.Call (.Attribute a "index" apos) [b] [] pos) (tTM K (rTIndex K) ta tb) (TT1 p2 Ta Tb oTIndex) := by
  subst hK
  exact ⟨pe_tm PySem.F.slot_tuple_index PySem.F.type_tuple_index mt_tindex ha.pe hb.pe m, Snd.t1 ha.snd hb.snd lf_tindex⟩
theorem ve_tcount (hK : X.K = K) (hu : X.A.units + 65 < cLine) (ha : VE X K p1 a ta Ta) (hb : VE X K p2 b tb Tb) (m : M1 X a "count" apos b pos := by exact ⟨rfl, rfl, rfl, rfl⟩) : VE X K (p1 && p2) (.Call (.Attribute a "count" apos) [b] [] pos) (tTM K (rTCount K) ta tb) (TT1 p2 Ta Tb oTCount) := by
  subst hK
  exact ⟨pe_tm PySem.F.slot_tuple_count PySem.F.type_tuple_count (mt_tcount hu) ha.pe hb.pe m, Snd.t1 ha.snd hb.snd lf_tcount⟩
theorem x_TT1 : TT1 p2 Ta Tb O S Q = Ta S fun S1 al1 d1 => isTup d1 ∧ Tb S1 fun S2 al2 d2 => (p2 || al1 || d1.scal) = true ∧ O al1 d1 al2 d2 (Q S2) := rfl
theorem isTup_t : isTup (.tup xs) = True := rfl
theorem z_tindex : oTIndex al1 d1 al2 d2 QB = CO2 oTIndex al1 d1 al2 d2 QB ⟨⟩ := rfl
theorem z_tcount : oTCount al1 d1 al2 d2 QB = CO2 oTCount al1 d1 al2 d2 QB ⟨⟩ := rfl
end
end VL

namespace VL
open PySem PySem.Spec PyProof.Rows L2
/-! ### a cut behind a statement: what is known there is told, and the walk begins anew -/
section
variable {X : Cx} {K : PySem.W.Frag} {pin : List Nat} {st : Stmt} {rest : List Stmt} {T U : VTS}
def TCut (T U : VTS) : VTS := fun V S => ∃ I : SV → Prop, T { V with nx := I } S ∧ ∀ S', I S' → U V S'
theorem vs_cut (h1 : VS X K pin st T) (h2 : VSs X K pin rest U) : VSs X K pin (st :: rest) (TCut T U) := by
  obtain ⟨t, a1, s1⟩ := h1.ex
  obtain ⟨u, a2, s2⟩ := h2.ex
  refine ⟨_, pss_cons a1 a2, fun F H σ S fp V M g q l => ?_⟩
  obtain ⟨I, q, r⟩ := q
  exact s1 F H σ S fp { V with nx := I } { M with nx := u M } g q (l.next fun F' H' σ' S' fp' g' s' p' q' => s2 F' H' σ' S' fp' V M g' (r S' q') (l.on s' p'))
end
def CUT (A : (SV → Prop) → Prop) (_ : Mk A) (B : SV → Prop) (_ : Mk B) : Prop := ∃ I, A I ∧ ∀ S, I S → B S
theorem x_TCut {T U : VTS} {W : VD} {S : SV} : TCut T U W S = CUT (fun I => T { W with nx := I } S) ⟨⟩ (U W) ⟨⟩ := rfl
theorem cut_by {A : (SV → Prop) → Prop} {B : SV → Prop} {m1 : Mk A} {m2 : Mk B} (I : SV → Prop) (h1 : A I) (h2 : ∀ S, I S → B S) : CUT A m1 B m2 := ⟨I, h1, h2⟩
theorem ve_pure {X : Cx} {K : PySem.W.Frag} {p : Bool} {e : Expr} {t : TE} {T : VT} (h : VE X K p e t T) (hp : p = true := by rfl) : VE X K true e t T := by subst hp; exact h
theorem rng_I {n : Nat} : rng 0 n = ((List.range n).map fun k : Nat => (k : Int)).map D.int := by
  unfold rng
  rw [List.map_map]
  exact List.map_congr_left fun k _ => by simp
theorem set_ints {l : List Int} {j : Nat} {x : Int} : (l.map D.int).set j (.int x) = (l.set j x).map D.int := by rw [List.map_set]
theorem at_intsE {l : List Int} {i : Int} (h0 : 0 ≤ i) (h1 : i < (l.length : Int)) : L2.atI (l.map D.int) i = some (.int (l.getD i.toNat 0)) := by
  rw [atI_nn h0, List.getElem?_map, List.getD_eq_getElem?_getD, List.getElem?_eq_getElem (by omega)]
  rfl
theorem lc_e3pn {S : SV} {acc : List D} {cont : SV → List D → Prop} {d : D} {p r : Prop} [Decidable p] [Decidable r] (hl : acc.length < sizeLine) (hc : cont S (put1 (if p ∧ ¬ r then some d else none) acc)) : (p → (¬ r → acc.length < sizeLine ∧ cont S (acc ++ [d])) ∧ (r → cont S acc)) ∧ (¬ p → cont S acc) := by
  have := lc_e3 hl hc
  exact ⟨fun h => ⟨fun z => (this.1 h).1 z, fun z => (this.1 h).2 fun y => y z⟩, this.2⟩
theorem flat_one {α : Type} {n : Nat} {d : α} : (List.replicate n [d]).flatten = List.replicate n d := by
  induction n with
  | zero => rfl
  | succ n ih => rw [List.replicate_succ, List.flatten_cons, ih]; rfl
theorem repl_int {n : Nat} {a : Int} : List.replicate n (D.int a) = (List.replicate n a).map D.int := by rw [List.map_replicate]
theorem lc_e2n {S : SV} {acc : List D} {cont : SV → List D → Prop} {d : D} {p : Prop} [Decidable p] (hl : acc.length < sizeLine) (hc : cont S (put1 (if ¬ p then some d else none) acc)) : (¬ p → acc.length < sizeLine ∧ cont S (acc ++ [d])) ∧ (p → cont S acc) := by
  have := lc_e2 hl hc
  exact ⟨this.1, fun z => this.2 fun y => y z⟩
theorem c_minP2 {al : Bool} {a b : Int} {QB : Bool → D → Prop} {mk : Mk QB} : CO oMinT al (.tup [.int a, .int b]) QB mk = K2 QB ⟨⟩ true (.int (min a b)) := by
  refine propext ⟨?_, fun h => ⟨a, [b], rfl, ?_⟩⟩
  · rintro ⟨n, ns, e, q⟩
    cases ns with
    | nil => simp at e
    | cons m ns =>
      simp at e
      obtain ⟨rfl, rfl, rfl⟩ := e
      rw [minT_two] at q
      exact q
  · rw [minT_two]; exact h
theorem c_maxP2 {al : Bool} {a b : Int} {QB : Bool → D → Prop} {mk : Mk QB} : CO oMaxT al (.tup [.int a, .int b]) QB mk = K2 QB ⟨⟩ true (.int (max a b)) := by
  refine propext ⟨?_, fun h => ⟨a, [b], rfl, ?_⟩⟩
  · rintro ⟨n, ns, e, q⟩
    cases ns with
    | nil => simp at e
    | cons m ns =>
      simp at e
      obtain ⟨rfl, rfl, rfl⟩ := e
      rw [maxT_two] at q
      exact q
  · rw [maxT_two]; exact h
theorem mrev {α β : Type} {f : α → β} {l : List α} : (l.map f).reverse = l.reverse.map f := List.map_reverse.symm
end VL

namespace VL
open PySem PySem.Spec PyProof.Rows L2
/-! ### a if c else b -/
section
variable {X : Cx} {K : PySem.W.Frag} {a b c : Expr} {pos : Pos} {p1 p2 p3 : Bool} {Ta Tb : VT} {ta tb : TE} {Tc : VB} {tc : TT}
def TIfE (Tc : VB) (Ta Tb : VT) : VT := fun S Q => Tc S fun S1 x => (x = true → Ta S1 Q) ∧ (x = false → Tb S1 Q)
theorem Res.pre {F H F1 H1 F2 H2 : Hp} {σ : L2.St} {S S1 S2 : SV} {fp fp1 fp2 fq : List Addr} {al : Bool} {d : D} {v : V} {q : Bool} (st : Step fp F H F1 H1 fp1) (pu : p1 = true → S1 = S ∧ fp1 = fp ∧ Grow F H F1 H1) (r : Res K p2 F1 H1 σ S1 fp1 F2 H2 S2 fp2 al d v fq) (hq : q = true → p1 = true ∧ p2 = true) : Res K q F H σ S fp F2 H2 S2 fp2 al d v fq :=
  ⟨r.good, r.rep, st.trans r.step, fun z => ⟨(r.sep z).1, fun x hx => ⟨((r.sep z).2 x hx).1, ((r.sep z).2 x hx).2.1, st.back ((r.sep z).2 x hx).2.2⟩⟩, fun z => pureT pu r.pure (by rw [(hq z).1, (hq z).2]; rfl)⟩
theorem ve_ife (hc : VQ X K p1 c tc Tc) (ha : VE X K p2 a ta Ta) (hb : VE X K p3 b tb Tb) : VE X K (p1 && (p2 && p3)) (.IfExp c a b pos) (tIf tc ta tb) (TIfE Tc Ta Tb) := ⟨pe_ifExp hc.pe ha.pe hb.pe, fun F H σ S fp Q R g q k => by
  refine hc.snd F H σ S fp _ _ g q fun F1 H1 S1 fp1 x g1 st1 pu1 q1 => ?_
  cases x with
  | true =>
    rw [if_pos rfl]
    exact ha.snd F1 H1 σ S1 fp1 _ _ g1 (q1.1 rfl) fun F2 H2 S2 fp2 al d v fq r q2 => k F2 H2 S2 fp2 al d v fq (r.pre st1 pu1 fun z => by rw [Bool.and_eq_true, Bool.and_eq_true] at z; exact ⟨z.1, z.2.1⟩) q2
  | false =>
    rw [if_neg Bool.false_ne_true]
    exact hb.snd F1 H1 σ S1 fp1 _ _ g1 (q1.2 rfl) fun F2 H2 S2 fp2 al d v fq r q2 => k F2 H2 S2 fp2 al d v fq (r.pre st1 pu1 fun z => by rw [Bool.and_eq_true, Bool.and_eq_true] at z; exact ⟨z.1, z.2.2⟩) q2⟩
theorem x_TIfE {S : SV} {Q : SV → Bool → D → Prop} : TIfE Tc Ta Tb S Q = Tc S fun S1 x => (x = true → Ta S1 Q) ∧ (x = false → Tb S1 Q) := rfl
end
/-! ### a < b < c of ints -/
section
variable {X : Cx} {K : PySem.W.Frag} {a b c : Expr} {pos : Pos} {p1 p2 p3 : Bool} {Ta Tb Tc : VT} {ta tb tc : TE}
def TChain (f g : Int → Int → Bool) (Ta Tb Tc : VT) : VT := fun S Q => Ta S fun S1 _ d1 => Tb S1 fun S2 _ d2 => match d1, d2 with
  | .int i, .int j => (f i j = true → Tc S2 fun S3 _ d3 => match d3 with
    | .int k => Q S3 true (.bl (g j k))
    | _ => False) ∧ (f i j = false → Q S2 true (.bl false))
  | _, _ => False
theorem Snd.chain {f g : Int → Int → Bool} (ha : Snd K p1 ta Ta) (hb : Snd K p2 tb Tb) (hc : Snd K p3 tc Tc) : Snd K (p1 && (p2 && p3)) (tChain (rI0 fun i j => .bl (f i j)) (rI0 fun i j => .bl (g i j)) ta tb tc) (TChain f g Ta Tb Tc) := fun F H σ S fp Q R gd q k => by
  refine ha F H σ S fp _ _ gd q fun F1 H1 S1 fp1 al1 d1 v1 q1 r1 z1 => ?_
  refine hb F1 H1 σ S1 fp1 _ _ r1.good z1 fun F2 H2 S2 fp2 al2 d2 v2 q2 r2 z2 => ?_
  cases d1 <;> first | exact z2.elim | skip
  cases d2 <;> first | exact z2.elim | skip
  rename_i i j
  have e1 := r1.rep
  have e2 := r2.rep
  rw [Rep] at e1 e2
  obtain ⟨rfl, _⟩ := e1
  obtain ⟨rfl, _⟩ := e2
  refine ⟨i, j, rfl, rfl, _, rfl, ?_⟩
  have pu12 : (p1 && p2) = true → S2 = S ∧ fp2 = fp ∧ Grow F H F2 H2 := fun z => pureT r1.pure r2.pure z
  cases ef : f i j with
  | false =>
    rw [if_neg Bool.false_ne_true]
    exact k F2 H2 S2 fp2 true _ _ [] ⟨r2.good, by rw [Rep]; exact ⟨rfl, rfl⟩, r1.step.trans r2.step, fun _ => ⟨List.nodup_nil, fun a ha => absurd ha (by simp)⟩, fun z => pu12 (by rw [Bool.and_eq_true, Bool.and_eq_true] at z; rw [z.1, z.2.1]; rfl)⟩ (z2.2 ef)
  | true =>
    rw [if_pos rfl]
    refine hc F2 H2 σ S2 fp2 _ _ r2.good (z2.1 ef) fun F3 H3 S3 fp3 al3 d3 v3 q3 r3 z3 => ?_
    cases d3 <;> first | exact z3.elim | skip
    rename_i l
    have e3 := r3.rep
    rw [Rep] at e3
    obtain ⟨rfl, _⟩ := e3
    refine ⟨j, l, rfl, rfl, ?_⟩
    refine k F3 H3 S3 fp3 true _ _ [] ⟨r3.good, by rw [Rep]; exact ⟨rfl, rfl⟩, (r1.step.trans r2.step).trans r3.step, fun _ => ⟨List.nodup_nil, fun a ha => absurd ha (by simp)⟩, fun z => ?_⟩ z3
    rw [Bool.and_eq_true, Bool.and_eq_true] at z
    exact pureT (p1 := p1 && p2) (p2 := p3) pu12 r3.pure (by rw [z.1, z.2.1, z.2.2]; rfl)
theorem ve_chain {op op' : CmpOp} {f g : Int → Int → Bool} (ho : OpR X (compareOp op) (rI0 fun i j => .bl (f i j))) (ho' : OpR X (compareOp op') (rI0 fun i j => .bl (g i j))) (ha : VE X K p1 a ta Ta) (hb : VE X K p2 b tb Tb) (hc : VE X K p3 c tc Tc)
    (hm : lastMarks [op, op'] [b, c] = false := by with_unfolding_all rfl) : VE X K (p1 && (p2 && p3)) (.Compare a [op, op'] [b, c] pos) (tChain (rI0 fun i j => .bl (f i j)) (rI0 fun i j => .bl (g i j)) ta tb tc) (TChain f g Ta Tb Tc) := ⟨pe_chain ho ho' ha.pe hb.pe hc.pe hm, Snd.chain ha.snd hb.snd hc.snd⟩
theorem vq_chain {op op' : CmpOp} {f g : Int → Int → Bool} (ho : OpR X (compareOp op) (rI0 fun i j => .bl (f i j))) (ho' : OpR X (compareOp op') (rI0 fun i j => .bl (g i j))) (ha : VE X K p1 a ta Ta) (hb : VE X K p2 b tb Tb) (hc : VE X K p3 c tc Tc)
    (hm : lastMarks [op, op'] [b, c] = false := by with_unfolding_all rfl) : VQ X K (p1 && (p2 && p3)) (.Compare a [op, op'] [b, c] pos) (tTest (tChain (rI0 fun i j => .bl (f i j)) (rI0 fun i j => .bl (g i j)) ta tb tc)) (TQ (TChain f g Ta Tb Tc)) := ⟨pt_chain ho ho' ha.pe hb.pe hc.pe hm, Snd.tst (Snd.chain ha.snd hb.snd hc.snd)⟩
theorem x_TChain {f g : Int → Int → Bool} {S : SV} {Q : SV → Bool → D → Prop} : TChain f g Ta Tb Tc S Q = Ta S fun S1 _ d1 => Tb S1 fun S2 _ d2 => (match d1, d2 with
  | .int i, .int j => (f i j = true → Tc S2 fun S3 _ d3 => (match d3 with
    | .int k => K3 Q ⟨⟩ S3 true (.bl (g j k))
    | _ => False)) ∧ (f i j = false → K3 Q ⟨⟩ S2 true (.bl false))
  | _, _ => False) := rfl
end
/-! ### the least of a list of plain rows -/
def bestI (ds : List D) : Nat := argBest (fun i j => ltD (ds.getD i .non) (ds.getD j .non)) (ds.length - 1)
section
variable {X : Cx} {K : PySem.W.Frag}
theorem pL_memW {k : Nat} : ∀ {ds : List D} {d : D}, pL k ds = true → d ∈ ds → pD k d = true
  | e :: ds, d, h, hm => by
    rw [pL, Bool.and_eq_true] at h
    rcases List.mem_cons.mp hm with rfl | hm
    · exact h.1
    · exact pL_memW h.2 hm
def rMinLD (K : PySem.W.Frag) : List V → Hp → VK → Prop := fun vs H Q => ∃ (F : Hp) (a : Addr) (xs : List V) (ds : List D) (k : Nat), vs = [.ref a] ∧ Sub F H ∧ SqL K H a xs ∧ RepL K F H ds xs [] ∧ pL k ds = true ∧ k ≤ 60 ∧ ds ≠ [] ∧ (∀ d ∈ ds, ∀ e ∈ ds, okD d e = true) ∧ ∀ v, xs[bestI ds]? = some v → Q v H
theorem cr_minLD (hc : X.calm = true) (hu : X.A.units + 64 < cLine) : CallR X (.builtin "min") (rMinLD X.K) := fun pins s σ H vs us Q I r h => by
  obtain ⟨F0, a, xs, ds, k, rfl, sub, hs, rl, hk, hk60, hne, hok, q⟩ := h
  obtain ⟨u, rfl, ru⟩ := vals1 r
  obtain rfl : u = Value.ref a := ru
  obtain ⟨its, rv, ⟨o, n, ho, hcl, _, hd⟩, hz⟩ := I.list hs
  have dl := datL_of rfl I sub hk rl rv
  have hT : s.heap.IsList a its.toArray := ⟨o, ho, hcl, n, hd⟩
  have len : its.length = ds.length := by rw [← rv.length, ← rl.len]
  refine call_min_walkH ?_
  refine PySem.W.iter_listW (A := X.A.in1) (by rw [← I.ok.hd hc]) hT fun s2 e2 W st0 hfp hw hkeep => ?_
  have hu1 : X.A.in1.units + k < cLine := by
    have : X.A.in1.units ≤ X.A.units + 1 := by simp
    omega
  have at_ : ∀ {i : Nat} {z : Value}, its.toArray[i]? = some z → ∃ d, ds[i]? = some d ∧ DatH s.heap d z ∧ pD k d = true := fun {i z} hz => by
    have hz : its[i]? = some z := by simpa using hz
    obtain ⟨d, ed, dd⟩ := dl.at hz
    exact ⟨d, ed, dd, pL_memW hk (List.mem_of_getElem? ed)⟩
  have len2 : its.toArray.size = ds.length := by rw [List.size_toArray, len]
  refine ⟨_, _, _, _, _, _, _, s.heap, fun i j => ltD (ds.getD i .non) (ds.getD j .non), rfl, W, st0, hfp, by rw [len2]; exact List.length_pos_iff.mpr hne, hw, hkeep, ?_, fun t s' hP hm => ?_⟩
  · intro i j vi vj st Q E hk2 hi hj hQ
    obtain ⟨d, ed, dd, pd⟩ := at_ hi
    obtain ⟨e, ee, de, pe⟩ := at_ hj
    have e1 : ds.getD i .non = d := by rw [List.getD_eq_getElem?_getD, ed]; rfl
    have e2 : ds.getD j .non = e := by rw [List.getD_eq_getElem?_getD, ee]; rfl
    have hQ : Q (.bool (ltD (ds.getD i .non) (ds.getD j .non))) st := hQ
    rw [e1, e2] at hQ
    exact dat_lt k pd pe (hok d (List.mem_of_getElem? ed) e (List.mem_of_getElem? ee)) (dd.keep fun b o e _ => hk2 b o e) (de.keep fun b o e _ => hk2 b o e) hu1 _ _ _ _ hQ
  · obtain ⟨h', tk, rfl, hk3⟩ := PySem.W.moved_old e2 rfl hm
    have I2 := I.kept (t' := tk) fun b o e => hk3 b o e
    have hP : its[bestI ds]? = some t := by
      unfold bestI
      rw [← len2]
      simpa using hP
    have hlt : bestI ds < xs.length := by rw [rv.length]; exact (List.getElem?_eq_some_iff.mp hP).1
    have ev : xs[bestI ds]? = some xs[bestI ds] := List.getElem?_eq_getElem hlt
    obtain ⟨u', eu, rq⟩ := rv.get ev
    rw [hP] at eu
    cases eu
    exact ⟨_, H, I2, rq, q _ ev⟩
def oMinL : O1 := fun _ d Q => ∃ (m : Bool) (ds : List D) (k : Nat), d = .lst m ds ∧ k ≤ 60 ∧ pL k ds = true ∧ ds ≠ [] ∧ (∀ d ∈ ds, ∀ e ∈ ds, okD d e = true) ∧ ∀ r, ds[bestI ds]? = some r → Q true r
theorem lf_minL : Lf1 K (fun v => rMinLD K [v]) oMinL := fun F H al1 d1 v1 q1 Q R s o1 q k => by
  obtain ⟨m, ds, kk, rfl, h60, hp, hne, hok, q⟩ := q
  have im : immL ds = true := immL_pL hp
  have rr := o1.rep
  rw [Rep] at rr
  obtain ⟨a, vs, fq, rfl, rl, hh⟩ := rr
  have e0 := rl.ofImm im
  subst e0
  have hs : SqL K H a vs := by
    rcases hh with ⟨_, h, _⟩ | ⟨_, h, _⟩
    · exact SqL.of h
    · exact s.seqL h
  refine ⟨F, a, vs, ds, kk, rfl, s, hs, rl, hp, h60, hne, hok, fun v ev => ?_⟩
  have hlt : bestI ds < ds.length := by rw [rl.len]; exact (List.getElem?_eq_some_iff.mp ev).1
  have ed : ds[bestI ds]? = some ds[bestI ds] := List.getElem?_eq_getElem hlt
  obtain ⟨v', ev', rd⟩ := rl.at0 ed
  rw [ev] at ev'
  cases ev'
  exact k F H true _ v [] ⟨rd, Grow.refl s, fun _ => ⟨List.nodup_nil, fun a ha => absurd ha (by simp)⟩⟩ (q _ ed)
end
section
variable {X : Cx} {K : PySem.W.Frag} {a : Expr} {ta : TE} {Ta : VT} {P0 pos : Pos} {p : Bool}
theorem ve_minL (hK : X.K = K) (hc : X.calm = true) (hu : X.A.units + 64 < cLine) (hg : Gl X "min") (hm : X.mg "min" = none) (ha : VE X K p a ta Ta) (he : starEach [a] X.env = [(false, eval a X.env)] := by rfl) : VE X K p (.Call (.Name "min" P0) [a] [] pos) (tUn (fun v => rMinLD K [v]) ta) (TU Ta oMinL) := by
  subst hK; exact ve_b1 (cr_minLD hc hu) lf_minL hg hm (by decide +kernel) ha (by decide) (by decide) he
theorem argBest0 {bt : Nat → Nat → Bool} (h : ∀ j, bt (j + 1) 0 = false) : ∀ k, argBest bt k = 0
  | 0 => rfl
  | k + 1 => by rw [argBest, argBest0 h k, h k]; rfl
/-- the least of rows of ints -/
def minLI (rs : List (List Int)) : List Int := rs.getD (bestI (rs.map iT)) []
theorem argBest_le {bt : Nat → Nat → Bool} : ∀ k, argBest bt k ≤ k
  | 0 => Nat.le_refl _
  | k + 1 => by
    have := argBest_le (bt := bt) k
    rw [argBest]
    split <;> omega
theorem best_lt {ds : List D} (h : ds ≠ []) : bestI ds < ds.length := by
  have := argBest_le (bt := fun i j => ltD (ds.getD i .non) (ds.getD j .non)) (ds.length - 1)
  have := List.length_pos_iff.mpr h
  unfold bestI
  omega
theorem c_minLI {al m : Bool} {rs : List (List Int)} {QB : Bool → D → Prop} {mk : Mk QB} : CO oMinL al (.lst m (rs.map fun l => .tup (l.map D.int))) QB mk = (rs ≠ [] ∧ K2 QB ⟨⟩ true (.tup ((minLI rs).map D.int))) := by
  have hr : rs ≠ [] → (rs.map iT)[bestI (rs.map iT)]? = some (iT (minLI rs)) := fun h => by
    have hb := best_lt (ds := rs.map iT) (by simpa using h)
    rw [List.length_map] at hb
    unfold minLI
    rw [List.getElem?_map, List.getElem?_eq_getElem hb, List.getD_eq_getElem?_getD, List.getElem?_eq_getElem hb]
    rfl
  refine propext ⟨?_, fun ⟨h, q⟩ => ⟨m, rs.map iT, 1, rfl, by decide, pL_iTs, by simpa using h, fun d hd e he => ?_, fun r er => ?_⟩⟩
  · rintro ⟨m', ds, k, e, _, _, hne, _, q⟩
    injection e with _ e
    subst e
    have h : rs ≠ [] := by simpa using hne
    exact ⟨h, q _ (hr h)⟩
  · obtain ⟨l, _, rfl⟩ := List.mem_map.mp hd
    obtain ⟨l', _, rfl⟩ := List.mem_map.mp he
    exact okD_iT
  · rw [hr h] at er
    injection er with er
    rw [← er]
    exact q
theorem z_minL {al : Bool} {d : D} {QB : Bool → D → Prop} : oMinL al d QB = CO oMinL al d QB ⟨⟩ := rfl
/-- the first one stays where none is less -/
theorem minLI_first {x : List Int} {rs : List (List Int)} (h : ∀ y ∈ x :: rs, ltD (iT y) (iT x) = false) : minLI (x :: rs) = x := by
  have e : bestI ((x :: rs).map iT) = 0 := by
    unfold bestI
    refine argBest0 (fun j => ?_) _
    show ltD (((x :: rs).map iT).getD (j + 1) .non) (((x :: rs).map iT).getD 0 .non) = false
    rw [List.getD_eq_getElem?_getD (l := (x :: rs).map iT) (i := 0), List.getD_eq_getElem?_getD, List.getElem?_map]
    cases ej : (x :: rs)[j + 1]? with
    | none => rfl
    | some y => exact h y (List.mem_of_getElem? ej)
  unfold minLI
  rw [e]
  rfl
end
end VL

namespace VL
open PySem PySem.Spec PyProof.Rows L2
/-! ### {k: v} of one pair -/
section
variable {X : Cx} {K : PySem.W.Frag} {a b : Expr} {pos : Pos} {Ta Tb : VT} {ta tb : TE}
def TD1 (Ta Tb : VT) : VT := fun S Q => Ta S fun S1 _ d1 => Tb S1 fun S2 _ d2 => d2.scal = true ∧ match keyD d1 with
  | some k => Q S2 true (.dK true [k] [d2])
  | none => False
theorem ve_d1 (ha : VE X K true a ta Ta) (hb : VE X K true b tb Tb) : VE X K true (.Dict [some a] [b] pos) (tDisp [(ta, tb)]) (TD1 Ta Tb) := ⟨pe_disp (pps_cons ha.pe hb.pe pps_nil) rfl rfl (by simp) (by simp), fun F H σ S fp Q R g q k p hp => by
  have gr0 : Grow F H F (upd H p (.dK [])) := Grow.owned g.sub hp
  have Fp : F p = none := g.sub.none hp
  have pfp : p ∉ fp := fun z => by
    obtain ⟨o, e, _⟩ := g.rep.mu p z
    rw [hp] at e; cases e
  refine ha.snd F (upd H p (.dK [])) σ S fp _ _ (g.grow gr0) q fun F1 H1 S1 fp1 al1 d1 v1 q1 r1 z1 => ?_
  obtain ⟨rfl, rfl, w1⟩ := r1.pure rfl
  refine hb.snd F1 H1 σ S1 fp1 _ _ r1.good z1 fun F2 H2 S2 fp2 al2 d2 v2 q2 r2 z2 => ?_
  obtain ⟨rfl, rfl, w2⟩ := r2.pure rfl
  obtain ⟨sc, z2⟩ := z2
  cases ek : keyD d1 with
  | none => rw [ek] at z2; exact z2.elim
  | some kk =>
  rw [ek] at z2
  obtain ⟨e1, _⟩ := keyD_rep r1.rep ek
  have gr : Grow F (upd H p (.dK [])) F2 H2 := w1.trans w2
  have H2p : H2 p = some (.dK []) := gr.hsub p _ upd_same
  have F2p : F2 p = none := gr.dis Fp (o := .dK []) upd_same
  refine ⟨H2p, [(kk, v2)], by rw [e1]; rfl, by simp, ?_⟩
  obtain ⟨rv, e2⟩ := Rep.scal_any (F' := F2) (H' := upd H2 p (.dK (mergeK [] [(kk, v2)]))) r2.rep sc
  subst e2
  have em : mergeK [] [(kk, v2)] = [kk].zip [v2] := rfl
  have ne : ∀ {x o}, H x = some o → x ≠ p := fun {x o} e z => by rw [z, hp] at e; cases e
  have big : Grow F H F2 (upd H2 p (.dK (mergeK [] [(kk, v2)]))) := by
    refine ⟨gr.fsub, fun x o e => ?_, fun x hx => ?_, fun x o e => ?_⟩
    · rw [upd_ne (ne e)]; exact gr.hsub x o (by rw [upd_ne (ne e)]; exact e)
    · by_cases c : x = p
      · subst c; exact absurd F2p hx
      · rcases gr.fnew x hx with y | y
        · exact .inl y
        · rw [upd_ne c] at y; exact .inr y
    · have c : x ≠ p := fun z => by rw [z, F2p] at e; cases e
      rw [upd_ne c]; exact gr.sub x o e
  refine k F2 _ S2 fp2 true _ _ [p] ⟨g.grow big, ?_, big.step (fp := fp2), fun _ => ⟨by simp, fun x hx => ?_⟩, fun _ => ⟨rfl, rfl, big⟩⟩ z2
  · rw [Rep]
    refine ⟨p, [v2], [], rfl, rfl, ?_, .inl ⟨rfl, by rw [upd_same, em], rfl⟩⟩
    rw [RepL]
    exact ⟨v2, [], [], [], rfl, rfl, rv, by rw [RepL]; exact ⟨rfl, rfl⟩⟩
  · have e : x = p := by simpa using hx
    subst e
    exact ⟨F2p, pfp, .inr hp⟩⟩
theorem x_TD1 {S : SV} {Q : SV → Bool → D → Prop} : TD1 Ta Tb S Q = Ta S fun S1 _ d1 => Tb S1 fun S2 _ d2 => d2.scal = true ∧ (match keyD d1 with
  | some k => K3 Q ⟨⟩ S2 true (.dK true [k] [d2])
  | none => False) := rfl
end
end VL

namespace VL
open PySem PySem.Spec PyProof.Rows L2
/-! ### min(list of ints, default=i) -/
theorem min_ints_default {prog : Program} {w : World} {A : Around} {E : Value → Shared → Prop} {s : Shared} {l : Addr} {xs : Array (Int × Tok)} {d : Value} {Q : Value → Shared → Prop} (hh : A.handled = none) (hl : s.heap.IsList l (intItems xs))
    (h0 : xs.size = 0 → ∀ h' tk, (∀ b o, s.heap.get? b = some o → h'.get? b = some o) → Q d { s with heap := h', toks := tk })
    (h : 0 < xs.size → ∀ v h' tk, (intItems xs)[argBest (fun i j => decide (numAt xs i < numAt xs j)) (xs.size - 1)]? = some v → (∀ b o, s.heap.get? b = some o → h'.get? b = some o) → Q v { s with heap := h', toks := tk }) :
    wpAny (model prog w) A (call (.builtin "min") [.ref l] [(Str.ofString "default", d)]) Q E s := by
  refine call_min_walkD (PySem.W.iter_listW (A := A.in1) hh hl fun s₂ e W st hfp hw hk => ?_)
  refine ⟨_, _, _, _, _, _, _, s.heap, (fun i j => decide (numAt xs i < numAt xs j)), rfl, W, st, hfp, hw, hk, fun hz s' m => ?_, fun hp => ⟨fun i j vi vj s Q E _ hi hj q => CmpOf.ints_lt (numAt xs) (fun _ _ => intItems_at) i j vi vj s Q E hi hj q, fun v s' hP m => ?_⟩⟩
  · obtain ⟨h', tk, rfl, hk'⟩ := PySem.W.moved_old e rfl m
    exact h0 (by simpa [intItems] using hz) h' tk hk'
  · obtain ⟨h', tk, rfl, hk'⟩ := PySem.W.moved_old e rfl m
    exact h (by simpa [intItems] using hp) v h' tk (by simpa [intItems] using hP) hk'
def rMinDf (K : PySem.W.Frag) : List V → List V → Hp → VK → Prop := fun xs zs H Q => ∃ (a : Addr) (ns : List Int) (d : V), xs = [V.ref a] ∧ zs = [d] ∧ SqL K H a (ns.map V.int) ∧ (ns = [] → Q d H) ∧ (0 < ns.length → ∀ m, m ∈ ns → (∀ y, y ∈ ns → m ≤ y) → Q (.int m) H)
section
variable {X : Cx} {K : PySem.W.Frag}
theorem cr_minDf (hc : X.calm = true) : CallRK X (.builtin "min") [Str.ofString "default"] (rMinDf X.K) := by
  intro pins s σ H xs zs us ws Q I r rz h
  obtain ⟨a, ns, d, rfl, rfl, hs, q0, q1⟩ := h
  obtain ⟨its, rv, hl, _⟩ := I.list hs
  rw [Vals.ref1 r]
  obtain ⟨dv, rfl, rd⟩ : ∃ dv, ws = [dv] ∧ RelV d dv := by
    cases rz with
    | cons h t => cases t; exact ⟨_, rfl, h⟩
  have hi := rv.ints
  obtain ⟨xs, e⟩ := hi.allInts.items
  have hn : numsOf (intItems xs).toList = ns := by rw [← e]; exact hi.numsOf
  rw [nums_intItems] at hn
  subst hn
  have hl := hl.isList
  rw [e] at hl
  refine min_ints_default (I.ok.hd hc) hl (fun hz h' tk hk => ?_) fun hsz v h' tk hv hk => ?_
  · exact ⟨d, H, I.kept hk, rd, q0 (List.eq_nil_of_length_eq_zero (by rw [List.length_map, Array.length_toList]; exact hz))⟩
  · obtain ⟨t, rfl⟩ := intItems_at hv
    obtain ⟨h1, h2⟩ := argBest_lt (numAt xs) (xs.size - 1)
    refine ⟨.int _, H, I.kept hk, ⟨_, rfl⟩, q1 (by rw [List.length_map, Array.length_toList]; exact hsz) _ ?_ fun a ha => ?_⟩
    · rw [numAt_eq]; exact PySem.getD_mem (by rw [List.length_map, Array.length_toList]; omega)
    · obtain ⟨j, hj, rfl⟩ := mem_getD ha
      rw [List.length_map, Array.length_toList] at hj
      rw [← numAt_eq]; exact h2 j (by omega)
def oMinDf : O2 := fun _ d _ e Q => ∃ (ns : List Int) (i : Int), (∃ m, d = .lst m (ns.map D.int)) ∧ e = .int i ∧ (ns = [] → Q true (.int i)) ∧ (0 < ns.length → ∀ m, m ∈ ns → (∀ y, y ∈ ns → m ≤ y) → Q true (.int m))
theorem lf_minDf : Lf2 K (fun v u => rMinDf K [v] [u]) oMinDf := fun F H al1 d1 v1 q1 al2 d2 v2 q2 Q R s o1 o2 dj q k => by
  obtain ⟨ns, i, ⟨m, rfl⟩, rfl, q0, qn⟩ := q
  obtain ⟨a, vs, rfl, h1, rl⟩ := seqL_imm s o1.rep immL_ints
  obtain ⟨rfl, _⟩ := rl.ints
  have e2 := o2.rep
  rw [Rep] at e2
  obtain ⟨rfl, _⟩ := e2
  exact ⟨a, ns, _, rfl, rfl, h1, fun e => k F H true _ _ [] (Ans.int s) (q0 e), fun hp m h1 h2 => k F H true _ _ [] (Ans.int s) (qn hp m h1 h2)⟩
theorem ve_minDf {a b : Expr} {p1 p2 : Bool} {ta tb : TE} {Ta Tb : VT} {P0 pos kp : Pos} (hK : X.K = K) (hc : X.calm = true) (hg : Gl X "min") (hm : X.mg "min" = none) (ha : VE X K p1 a ta Ta) (hb : VE X K p2 b tb Tb) (he : starEach [a] X.env = [(false, eval a X.env)] := by rfl)
    (he2 : backTo pos (starEach [a] X.env) = (false, eval a X.env) :: backTo pos (starEach [] X.env) := by rfl) (hpl : (backTo pos (starEach [a] X.env)).any (·.1) = false := by rfl) :
    VE X K (p1 && p2) (.Call (.Name "min" P0) [a] [⟨some "default", b, kp⟩] pos) (tOp (fun v u => rMinDf K [v] [u]) ta tb) (T2 p2 Ta Tb oMinDf) := by
  subst hK
  exact ⟨pe_callBK (cr_minDf hc) hg hm (by decide +kernel) (pa_cons ha.pe pa_nil he) (pk_cons hb.pe pk_nil) (by decide) (by decide) he2 hpl rfl rfl rfl, Snd.op2 ha.snd hb.snd lf_minDf⟩
end
theorem z_minDf {al1 al2 : Bool} {d1 d2 : D} {QB : Bool → D → Prop} : oMinDf al1 d1 al2 d2 QB = CO2 oMinDf al1 d1 al2 d2 QB ⟨⟩ := rfl
end VL

namespace VL
open PySem PySem.Spec PyProof.Rows L2
/-! ### is True, is not True; & and | of ints -/
def rIsB (neg : Bool) : R2 := fun x y H Q => ∃ a b, x = .bl a ∧ y = .bl b ∧ Q (.bl (neg != decide (a = b))) H
section
variable {X : Cx}
theorem bool_beq (a b : Bool) : (Value.bool a == Value.bool b) = decide (a = b) := by cases a <;> cases b <;> decide
theorem op_isB : OpR X (compareOp .Is) (rIsB false) := by
  intro pins s σ H x y v u Q I rx ry h
  obtain ⟨a, b, rfl, rfl, q⟩ := h
  cases (show v = Value.bool a from rx)
  cases (show u = Value.bool b from ry)
  exact wpAny_is_plain rfl (fin_bl I q (by rw [bool_beq]; simp))
theorem op_notB : OpR X (compareOp .IsNot) (rIsB true) := by
  intro pins s σ H x y v u Q I rx ry h
  obtain ⟨a, b, rfl, rfl, q⟩ := h
  cases (show v = Value.bool a from rx)
  cases (show u = Value.bool b from ry)
  exact wpAny_isNot_plain rfl (fin_bl I q (by rw [bool_beq]; simp))
end
def oIsB (neg : Bool) : O2 := fun _ d1 _ d2 Q => match d1, d2 with
  | .bl a, .bl b => Q true (.bl (neg != decide (a = b)))
  | _, _ => False
section
variable {X : Cx} {K : PySem.W.Frag} {a b : Expr} {pos : Pos} {p1 p2 al1 al2 : Bool} {Ta Tb : VT} {ta tb : TE} {QB : Bool → D → Prop}
theorem lf_isB {neg : Bool} : Lf2 K (rIsB neg) (oIsB neg) := fun F H al1 d1 v1 q1 al2 d2 v2 q2 Q R s o1 o2 _ q k => by
  cases d1 <;> first | exact q.elim | skip
  cases d2 <;> first | exact q.elim | skip
  have r1 := o1.rep; have r2 := o2.rep
  rw [Rep] at r1 r2
  exact ⟨_, _, r1.1, r2.1, k F H true _ _ [] (Ans.bl s) q⟩
theorem ve_isB (ha : VE X K p1 a ta Ta) (hb : VE X K p2 b tb Tb) (hm : behindInMarks .Is b = false := by rfl) : VE X K (p1 && p2) (.Compare a [.Is] [b] pos) (tOp (rIsB false) ta tb) (T2 p2 Ta Tb (oIsB false)) := ve_cmp op_isB lf_isB ha hb hm
theorem ve_notB (ha : VE X K p1 a ta Ta) (hb : VE X K p2 b tb Tb) (hm : behindInMarks .IsNot b = false := by rfl) : VE X K (p1 && p2) (.Compare a [.IsNot] [b] pos) (tOp (rIsB true) ta tb) (T2 p2 Ta Tb (oIsB true)) := ve_cmp op_notB lf_isB ha hb hm
theorem vq_isB (ha : VE X K p1 a ta Ta) (hb : VE X K p2 b tb Tb) (hm : behindInMarks .Is b = false := by rfl) : VQ X K (p1 && p2) (.Compare a [.Is] [b] pos) (tTest (tOp (rIsB false) ta tb)) (TQ (T2 p2 Ta Tb (oIsB false))) := vq_cmp op_isB lf_isB ha hb hm
theorem vq_notB (ha : VE X K p1 a ta Ta) (hb : VE X K p2 b tb Tb) (hm : behindInMarks .IsNot b = false := by rfl) : VQ X K (p1 && p2) (.Compare a [.IsNot] [b] pos) (tTest (tOp (rIsB true) ta tb)) (TQ (T2 p2 Ta Tb (oIsB true))) := vq_cmp op_notB lf_isB ha hb hm
theorem y_isB {neg i j : Bool} : oIsB neg al1 (.bl i) al2 (.bl j) QB = K2 QB ⟨⟩ true (.bl (neg != decide (i = j))) := rfl
theorem ve_and_b (ha : VE X K p1 a ta Ta) (hb : VE X K p2 b tb Tb) : VE X K (p1 && p2) (.BinOp a .BitAnd b pos) (tOp (rI0 fun i j => .int (Builtin.bitAnd i j)) ta tb) (T2 p2 Ta Tb (oI (fun _ _ => True) Builtin.bitAnd)) := ve_op op_and lf_I0 ha hb
theorem ve_shl (ha : VE X K p1 a ta Ta) (hb : VE X K p2 b tb Tb) : VE X K (p1 && p2) (.BinOp a .LShift b pos) (tOp (rI CPow fun i j => .int (i * 2 ^ j.toNat)) ta tb) (T2 p2 Ta Tb (oI CPow fun i j => i * 2 ^ j.toNat)) := ve_op op_shl lf_I ha hb
theorem ve_shr (ha : VE X K p1 a ta Ta) (hb : VE X K p2 b tb Tb) : VE X K (p1 && p2) (.BinOp a .RShift b pos) (tOp (rI (fun _ j => 0 ≤ j) fun i j => .int (i / 2 ^ j.toNat)) ta tb) (T2 p2 Ta Tb (oI (fun _ j => 0 ≤ j) fun i j => i / 2 ^ j.toNat)) := ve_op op_shr lf_I ha hb
theorem ve_or_b (ha : VE X K p1 a ta Ta) (hb : VE X K p2 b tb Tb) : VE X K (p1 && p2) (.BinOp a .BitOr b pos) (tOp (rI0 fun i j => .int (Builtin.bitOr i j)) ta tb) (T2 p2 Ta Tb (oI (fun _ _ => True) Builtin.bitOr)) := ve_op op_or lf_I0 ha hb
end
theorem x_and1 {x : Int} : Builtin.bitAnd x 1 = x % 2 := bitAnd_m1 x
section
variable {neg al1 al2 m m' : Bool} {l : List Int} {x : Int} {QB : Bool → D → Prop}
theorem y_eqLI1 : oEqB neg al1 (.lst m (l.map D.int)) al2 (.lst m' [D.int x]) QB = K2 QB ⟨⟩ true (.bl (neg != decide (l = [x]))) := y_eqLI (l' := [x])
end
end VL

namespace VL
open PySem PySem.Spec PyProof.Rows L2

/-! ### what is raised: a class's name in the stead of an answer -/
abbrev excD (x : Str) : D := .dK false [.inr x] []
theorem excD_rep {K : PySem.W.Frag} {F H : Hp} {x : Str} {v : V} {fq : List Addr} (h : Rep K F H (excD x) v fq) : False := by
  rw [Rep] at h
  obtain ⟨_, _, _, _, e, _⟩ := h
  simp at e
def spX (K : PySem.W.Frag) (mg : Str → Option Value) (n : Nat) (C : Ct) : Sp := fun vs H Q E => vs.length = n ∧ ∃ (F : Hp) (ds : List D) (fp : List Addr) (Qv : D → List D → Prop), Sub F H ∧ RepL K F H ds vs fp ∧ fp.Nodup ∧ (∀ a ∈ fp, F a = none) ∧
  C ds Qv ∧ (∀ (r : D) (ds' : List D) (F' H' : Hp) (v : V) (fp' fq : List Addr), Qv r ds' → Sub F' H' → RepL K F' H' ds' vs fp' → Rep K F' H' r v fq → (fp' ++ fq).Nodup → (∀ a ∈ fp' ++ fq, F' a = none) → Step fp F H F' H' (fp' ++ fq) → Q v H') ∧
  ∀ (x : Str) (c : Addr) (ds' : List D) (F' H' : Hp) (fp' : List Addr), Qv (excD x) ds' → mg x = some (.ref c) → Sub F' H' → RepL K F' H' ds' vs fp' → fp'.Nodup → (∀ a ∈ fp', F' a = none) → Step fp F H F' H' fp' → E (.ref c) none H'
/-- where nothing is raised -/
def noX (C : Ct) : Ct := fun ds Q => C ds fun r d => (∀ x, r ≠ excD x) ∧ Q r d
theorem spX_of {K : PySem.W.Frag} {mg : Str → Option Value} {n : Nat} {C : Ct} {vs : List V} {H : Hp} {Q : VK} {E E' : XK} (h : spC K n (noX C) vs H Q E) : spX K mg n C vs H Q E' := by
  obtain ⟨hl, F, ds, fp, Qv, s, rl, nd, dis, hC, q⟩ := h
  exact ⟨hl, F, ds, fp, _, s, rl, nd, dis, hC, fun r ds' F' H' v fp' fq hq => q r ds' F' H' v fp' fq hq.2, fun x c ds' F' H' fp' hq => absurd rfl (hq.1 x)⟩
section
variable {P : Program} {w : World} {K : PySem.W.Frag} {mg : Str → Option Value} {base : Heap}
theorem fn_noX {k n : Nat} {f : Addr} {fd : FuncData} {ps : List Str} {C : Ct} (Fn : FnOk P w K mg base (L2.CX P w) k f fd ps (spX K mg n C)) : FnOk P w K mg base CX0 k f fd ps (spC K n (noX C)) := by
  refine ⟨fun vs H Q E h => Fn.len vs H Q E (spX_of h), fun A outer s H args us vs Q E hr he hb hv hs => ?_⟩
  refine codeAny_mono (Fn.run A outer s H args us vs Q E0 hr he hb hv (spX_of hs)) fun r s' hq => ?_
  cases r with
  | error e =>
    obtain ⟨_, _, _, _, _, _, _, _, _, _, _, _, z⟩ := hq
    exact z.elim
  | ok fl => cases fl <;> exact hq
/-- a def that may raise, as it is called -/
structure CalX (P : Program) (w : World) (K : PySem.W.Frag) (mg : Str → Option Value) (base : Heap) (k : Nat) (x : Str) (n : Nat) (C : Ct) (dvs : List V) (ds0 : List D) : Prop where
  ex : ∃ (f : Addr) (fd : FuncData) (ps : List Str) (ds : List Value), FnOk P w K mg base (L2.CX P w) k f fd ps (spX K mg n C) ∧ mg x = some (.ref f) ∧ PySem.W.keepIn K (.ref f) = true ∧ Binds K fd ps ds ∧ Vals dvs ds
  dd : ∀ F H, RepL K F H ds0 dvs []
theorem CalX.noX {k n : Nat} {x : Str} {C : Ct} {dvs : List V} {ds0 : List D} (c : CalX P w K mg base k x n C dvs ds0) : Cal P w K mg base k x n (noX C) dvs ds0 := by
  obtain ⟨f, fd, ps, ds, Fn, hm, hk, hb, hd⟩ := c.ex
  exact ⟨⟨f, fd, ps, ds, fn_noX Fn, hm, hk, hb, hd⟩, c.dd⟩
/-- THE RULE for a def that may raise -/
theorem fn_okX {x qual : Str} {st : Stmt} {f : Addr} {fd : FuncData} {N ps : List Str} {k : Nat} {C : Ct} (pin : List Nat) (Fn : Fun K x qual st f fd) (Sc : FnScope N ps (defScope st))
    (hbody : ∀ (cdv : Value) (A : Around) (outer : List Env) (s : Shared) (H : Hp) (E : XK), Room k (A.deeper (envOfC qual (defScope st) s.heap.objs.size f cdv)) →
      ∃ T, VSs (cxOf (L2.CX P w) P w K mg base N qual (defScope st) f cdv A outer s H E) K pin (defBody st) T ∧ ∀ ds Qv, ds.length = ps.length → C ds Qv → T { nx := fun S => Qv .non (fin pin ps.length S), rt := fun r S => Qv r (fin pin ps.length S), xc := fun x S => Qv (excD x) (fin pin ps.length S) } (begin N.length ps.length ds)) :
    FnOk P w K mg base (L2.CX P w) (k + 1) f fd ps (spX K mg ps.length C) := by
  refine Fn.okX Sc (fun vs H Q E h => h.1) (fun cdv A outer s H vs Q E hr h => ?_)
  obtain ⟨hlv, F, ds, fp, Qv, sub, rl, nd, dis, hC, fin', finX⟩ := h
  obtain ⟨T, hb, hT⟩ := hbody cdv A outer s H E hr
  obtain ⟨t, h1, s1⟩ := hb.ex
  have hld : ds.length = ps.length := rl.len.trans hlv
  have hpl : ps.length ≤ N.length := by
    have := congrArg List.length Sc.pre
    rw [List.length_take] at this
    omega
  have rs : RepS K F H (begin N.length ps.length ds) (start N vs) (fp ++ []) := by
    unfold begin
    rw [start_app, hlv]
    exact RepS.app (RepS.ofL rl) (RepS.nones _)
  rw [List.append_nil] at rs
  refine ⟨t, h1, s1 F H (start N vs) _ fp { nx := fun S => Qv .non (fin pin ps.length S), rt := fun r S => Qv r (fin pin ps.length S), xc := fun x S => Qv (excD x) (fin pin ps.length S) } _ ⟨sub, rs, nd, dis⟩ (hT ds Qv hld hC) ?_⟩
  have hpin : ∀ σ' : L2.St, Pin pin (start N vs) σ' → ∀ i ∈ pin, i < vs.length → σ'[i]? = some (vs[i]?) := fun σ' hp i hi hl => by
    rw [hp.2 i hi, start_app, List.getElem?_append_left (by simpa using hl), List.getElem?_map, List.getElem?_eq_getElem hl]
    rfl
  have lenS : ∀ {F' H' : Hp} {σ' : L2.St} {S' : SV} {fp' : List Addr}, Good K F' H' σ' S' fp' → Pin pin (start N vs) σ' → vs.length ≤ S'.length := fun g' p' => by
    rw [g'.rep.len, p'.1, ← rs.len]
    unfold begin
    rw [List.length_append]
    omega
  have body : ∀ (F' H' : Hp) (σ' : L2.St) (S' : SV) (fp' : List Addr) (d : D) (v : V) (fq : List Addr), Good K F' H' σ' S' fp' → Step fp F H F' H' fp' → Pin pin (start N vs) σ' → Rep K F' H' d v fq → fq.Nodup → (∀ a ∈ fq, F' a = none ∧ a ∉ fp' ∧ (a ∈ fp ∨ H a = none)) →
      Qv d (fin pin ps.length S') → Q v H' := fun F' H' σ' S' fp' d v fq g' st' p' r' n' z' q' => by
    obtain ⟨fr, rl', sl⟩ := g'.rep.fin (hpin σ' p') (lenS g' p')
    rw [hlv] at rl'
    have hsub : ∀ a ∈ fr, a ∈ fp' := fun a ha => sl.subset ha
    refine fin' d _ F' H' v fr fq q' g'.sub rl' r' (List.nodup_append.mpr ⟨g'.nd.sublist sl, n', fun a ha b hb e => ?_⟩) (fun a ha => ?_) ⟨st'.fsub, st'.keep, st'.fnew, fun a ha => ?_⟩
    · subst e; exact (z' a hb).2.1 (hsub a ha)
    · rcases List.mem_append.mp ha with y | y
      · exact g'.dis a (hsub a y)
      · exact (z' a y).1
    · rcases List.mem_append.mp ha with y | y
      · exact st'.own a (hsub a y)
      · exact (z' a y).2.2
  refine ⟨fun F' H' σ' S' fp' g' st' p' q' => ?_, fun _ _ _ _ _ _ _ _ q' => q'.elim, fun _ _ _ _ _ _ _ _ q' => q'.elim, fun F' H' σ' S' fp' d v fq g' st' p' r' n' z' q' => body F' H' σ' S' fp' d v fq g' st' p' r' n' z' q', fun F' H' σ' S' fp' x c g' st' p' q' hm => ?_⟩
  · exact body F' H' σ' S' fp' .non .non [] g' st' p' (by rw [Rep]; exact ⟨rfl, rfl⟩) List.nodup_nil (fun a ha => absurd ha (by simp)) q'
  · obtain ⟨fr, rl', sl⟩ := g'.rep.fin (hpin σ' p') (lenS g' p')
    rw [hlv] at rl'
    refine XW_of (takes_of (E := E) rfl rfl rfl rfl) (finX x c _ F' H' fr q' hm g'.sub rl' (g'.nd.sublist sl) (fun a ha => g'.dis a (sl.subset ha)) ⟨st'.fsub, st'.keep, st'.fnew, fun a ha => st'.own a (sl.subset ha)⟩)
end

/-! ### raise -/
section
variable {X : Cx} {K : PySem.W.Frag} {pin : List Nat} {pos : Pos} {e : Expr}
def TRaise (x : Str) : VTS := fun V S => V.xc x S
theorem vs_raise {x : Str} {C : Addr} (hc : X.calm = true) (hm : X.mg x = some (.ref C)) (he : PMk X e (fun _ H Q => Q (.ref C) none H)) : VS X K pin (.Raise (some e) none pos) (TRaise x) :=
  ⟨_, ps_raise hc takes_XW he, fun F H σ S fp V M g q l => l.xc F H σ S fp x C g Step.refl Pin.refl q hm⟩
theorem x_TRaise {x : Str} {V : VD} {S : SV} : TRaise x V S = V.xc x S := rfl
end

/-! ### calls that may raise -/
abbrev VTX := SV → (SV → Bool → D → Prop) → (Str → SV → Prop) → Prop
def SndX (X : Cx) (K : PySem.W.Frag) (p : Bool) (t : TE) (T : VTX) : Prop := ∀ (F H : Hp) (σ : L2.St) (S : SV) (fp : List Addr) (Q : SV → Bool → D → Prop) (Qx : Str → SV → Prop) (R : VK), Good K F H σ S fp → T S Q Qx →
  (∀ F' H' S' fp' al d v fq, Res K p F H σ S fp F' H' S' fp' al d v fq → Q S' al d → R v H') →
  (∀ F' H' S' fp' x c, Good K F' H' σ S' fp' → Step fp F H F' H' fp' → Qx x S' → X.mg x = some (.ref c) → XW X (.ref c) none σ H') → t σ H R
structure VX (X : Cx) (K : PySem.W.Frag) (p : Bool) (e : Expr) (T : VTX) : Prop where
  ex : ∃ t, PE X e t ∧ SndX X K p t T
section
variable {X : Cx} {k n : Nat} {f : Addr} {fd : FuncData} {ps : List Str} {C : Ct} {dvs : List V} {ds0 : List D} {ds : List Value} {x : Str} {P0 pos : Pos} {e : Expr} {es : List Expr} {p : Bool} {T : VTA} {t : TA} {K : PySem.W.Frag} {pin : List Nat} {TX : VTX}
/-- what comes behind a call that may raise -/
def XQ (r : D) (A : Str → Prop) (B : Prop) : Prop := (∀ y, r = excD y → A y) ∧ ((∀ y, r ≠ excD y) → B)
theorem xq_no {r : D} {A : Str → Prop} {B : Prop} (h : ∀ y, r ≠ excD y) : XQ r A B = B := propext ⟨fun z => z.2 h, fun z => ⟨fun y e => absurd e (h y), fun _ => z⟩⟩
theorem xq_exc {x : Str} {A : Str → Prop} {B : Prop} : XQ (excD x) A B = A x := propext ⟨fun z => z.1 x rfl, fun z => ⟨fun y e => by
  injection e with _ e _
  injection e with e _
  injection e with e
  subst e; exact z, fun h => absurd rfl (h x)⟩⟩
section
variable {A : Str → Prop} {B : Prop} {m : Bool} {xs : List D} {i : Int} {b : Bool} {x : Str}
theorem xq_lst : XQ (.lst m xs) A B = B := xq_no fun _ e => nomatch e
theorem xq_tup : XQ (.tup xs) A B = B := xq_no fun _ e => nomatch e
theorem xq_int : XQ (.int i) A B = B := xq_no fun _ e => nomatch e
theorem xq_bl : XQ (.bl b) A B = B := xq_no fun _ e => nomatch e
theorem xq_str : XQ (.str x) A B = B := xq_no fun _ e => nomatch e
theorem xq_non : XQ .non A B = B := xq_no fun _ e => nomatch e
end
/-- all arguments are free -/
def TCallX0 (n : Nat) (T : VTA) (C : Ct) (dd : List D) : VTX := fun S Q Qx => T S fun S1 ks => ks.all AK.isVal = true ∧ ks.all AK.al = true ∧ ks.length + dd.length = n ∧ C (ks.map AK.d ++ dd) (fun r _ => XQ r (fun y => Qx y S1) (Q S1 true r))
theorem Snd.callX0 (h : SndA K p t T) (hd : ∀ F H, RepL K F H ds0 dvs []) : SndX X K p (tCallSD (spX K X.mg n C) dvs (WE (XW X)) t) (TCallX0 n T C ds0) := fun F H σ S fp Q Qx R g q kk kx => by
  refine h F H σ S fp _ _ g q fun F1 H1 S1 fp1 ks vs fA r q => ?_
  obtain ⟨q1, q2, ql, q3⟩ := q
  obtain ⟨fq, rl, ef⟩ := r.arg.repL q1
  have ef := ef q2
  subst ef
  have rl2 : RepL K F1 H1 (ks.map AK.d ++ ds0) (vs ++ dvs) (fq ++ []) := rl.app (hd _ _)
  rw [List.append_nil] at rl2
  have hlen := rl2.len
  rw [List.length_append, List.length_map] at hlen
  refine ⟨by omega, F1, ks.map AK.d ++ ds0, fq, _, r.good.sub, rl2, r.nd, fun a ha => (r.sep a ha).1, q3, fun r' ds' F' H' v fp' fr q4 sub rl' rr nd dis st => ?_, fun y c ds' F' H' fp' q4 hm sub rl' nd dis st => ?_⟩
  · obtain ⟨g', n', s1, s2⟩ := after_call r.good (fun a ha => (r.sep a ha).2.1) st sub rr nd dis
    have q4 := q4.2 fun y e => by subst e; exact excD_rep rr
    refine kk F' H' S1 fp1 true r' v fr ⟨g', rr, r.step.free st fun a ha => (r.sep a ha).2.2.1, fun _ => ⟨n', fun a ha => ⟨(s1 a ha).1, (s1 a ha).2, ?_⟩⟩, fun z => ?_⟩ q4
    · rcases s2 a ha with y | y
      · exact (r.sep a y).2.2.1
      · exact r.step.back (.inr y)
    · obtain ⟨a1, a2, a3⟩ := r.pure z
      refine ⟨a1, a2, a3.free (fp := fp) (fp1 := fp1) st sub fun a ha => ?_⟩
      rcases (r.sep a ha).2.2.1 with y | y
      · have := (r.sep a ha).2.1
        rw [a2] at this
        exact absurd y this
      · exact y
  · have ra : Rep K F' H' .unk .non [] := by rw [Rep]
    obtain ⟨g', _⟩ := after_call (fr := fp') (fq := []) r.good (fun a ha => (r.sep a ha).2.1) (by rw [List.append_nil]; exact st) sub ra (by rw [List.append_nil]; exact nd) (by rw [List.append_nil]; exact dis)
    exact kx F' H' S1 fp1 y c g' (r.step.free st fun a ha => (r.sep a ha).2.2.1) (q4.1 y rfl) hm
/-- some are parts of what stands: all are lent, to be read -/
def TCallXB (n : Nat) (T : VTA) (C : Ct) (dd : List D) : VTX := fun S Q Qx => T S fun S1 ks => ks.all AK.isVal = true ∧ ks.length + dd.length = n ∧ C (fzL (ks.map AK.d) ++ dd) (fun r _ => XQ r (fun y => Qx y S1) (r.nofz = true ∧ Q S1 true r))
theorem Snd.callXB (h : SndA K p t T) (hd : ∀ F H, RepL K F H ds0 dvs []) : SndX X K p (tCallSD (spX K X.mg n C) dvs (WE (XW X)) t) (TCallXB n T C ds0) := fun F H σ S fp Q Qx R g q kk kx => by
  refine h F H σ S fp _ _ g q fun F1 H1 S1 fp1 ks vs fA r q => ?_
  obtain ⟨q1, ql, q3⟩ := q
  obtain ⟨B, rl, _⟩ := r.arg.repL q1
  have hB : ∀ a ∈ B, ∃ o, H1 a = some o ∧ Mu o := rl.mu
  have rl1 : RepL K (bor B F1 H1) H1 (fzL (ks.map AK.d)) vs [] := rl.fz (bor_sub1 r.good.sub) fun a ha o e => by rw [bor_in ha]; exact e
  have rl2 : RepL K (bor B F1 H1) H1 (fzL (ks.map AK.d) ++ ds0) (vs ++ dvs) ([] ++ []) := rl1.app (hd _ _)
  have hlen := rl2.len
  rw [List.length_append, fzL_len, List.length_map] at hlen
  have gr : ∀ {F' H' : Hp} {fz : List Addr}, Sub F' H' → Step [] (bor B F1 H1) H1 F' H' fz → Grow F1 H1 (unbor B F1 F') H' := fun {F' H' fz} sub st => by
    refine ⟨fun a o e => ?_, fun a o e => st.keep a o e (by simp), fun a h => ?_, fun a o e => ?_⟩
    · by_cases hb : a ∈ B
      · rw [unbor_in hb]; exact e
      · rw [unbor_out hb]; exact st.fsub a o (by rw [bor_out hb]; exact e)
    · by_cases hb : a ∈ B
      · rw [unbor_in hb] at h; exact .inl h
      · rw [unbor_out hb] at h
        rcases st.fnew a h with z | z | z
        · rw [bor_out hb] at z; exact .inl z
        · exact absurd z (by simp)
        · exact .inr z
    · by_cases hb : a ∈ B
      · rw [unbor_in hb] at e; exact st.keep a o (r.good.sub a o e) (by simp)
      · rw [unbor_out hb] at e; exact sub a o e
  refine ⟨by omega, bor B F1 H1, _, [], _, bor_sub2 r.good.sub, rl2, List.nodup_nil, fun a ha => absurd ha (by simp), q3, fun r' ds' F' H' v fp' fr q4 sub rl' rr nd dis st => ?_, fun y c ds' F' H' fp' q4 hm sub rl' nd dis st => ?_⟩
  · obtain ⟨q4, q5⟩ := q4.2 fun y e => by subst e; exact excD_rep rr
    have stB : ∀ a ∈ B, ∃ o, H' a = some o ∧ Mu o := fun a ha => let ⟨o, e, m⟩ := hB a ha; ⟨o, st.keep a o e (by simp), m⟩
    have rr' : Rep K (unbor B F1 F') H' r' v fr := rr.lent stB sub (fun a ha => unbor_out ha) q4
    have gr := gr sub st
    refine kk _ H' S1 fp1 true r' v fr ⟨r.good.grow gr, rr', r.step.trans gr.step, fun _ => ⟨(List.nodup_append.mp nd).2.1, fun a ha => ?_⟩, fun z => ?_⟩ q5
    · have hn : H1 a = none := by
        rcases st.own a (List.mem_append_right _ ha) with y | y
        · exact absurd y (by simp)
        · exact y
      have hnB : a ∉ B := fun z => by
        obtain ⟨o, e, _⟩ := hB a z
        rw [hn] at e; cases e
      refine ⟨by rw [unbor_out hnB]; exact dis a (List.mem_append_right _ ha), fun z => ?_, r.step.back (.inr hn)⟩
      obtain ⟨o, e, _⟩ := r.good.rep.mu a z
      rw [hn] at e; cases e
    · obtain ⟨a1, a2, a3⟩ := r.pure z
      exact ⟨a1, a2, a3.trans gr⟩
  · have gr := gr sub st
    exact kx _ H' S1 fp1 y c (r.good.grow gr) (r.step.trans gr.step) (q4.1 y rfl) hm
theorem vx_call0 {j : Nat} (c : CalX X.prog X.w X.K X.mg X.base k x n C dvs ds0) (hr : Room j X.A) (hk : k ≤ j) (hK : X.K = K) (hg : Gl X x) (ha : VA X K p (e :: es) t T) (hdb : (x == ("__debug__" : Str)) = false := by decide) (he : starEach (e :: es) X.env = (false, eval e X.env) :: starEach es X.env := by rfl) (hpl : (backTo pos (starEach es X.env)).any (·.1) = false := by rfl) :
    VX X K p (.Call (.Name x P0) (e :: es) [] pos) (TCallX0 n T C ds0) := by
  subst hK
  obtain ⟨f, fd, ps, ds, Fn, hm, hkp, hb, hdv⟩ := c.ex
  exact ⟨_, pe_callSD Fn (hr.mono hk) hg hm hkp hb hdv (fun σ => passAt takes_XW σ) ha.pe hdb he hpl, Snd.callX0 ha.snd c.dd⟩
theorem vx_callB {j : Nat} (c : CalX X.prog X.w X.K X.mg X.base k x n C dvs ds0) (hr : Room j X.A) (hk : k ≤ j) (hK : X.K = K) (hg : Gl X x) (ha : VA X K p (e :: es) t T) (hdb : (x == ("__debug__" : Str)) = false := by decide) (he : starEach (e :: es) X.env = (false, eval e X.env) :: starEach es X.env := by rfl) (hpl : (backTo pos (starEach es X.env)).any (·.1) = false := by rfl) :
    VX X K p (.Call (.Name x P0) (e :: es) [] pos) (TCallXB n T C ds0) := by
  subst hK
  obtain ⟨f, fd, ps, ds, Fn, hm, hkp, hb, hdv⟩ := c.ex
  exact ⟨_, pe_callSD Fn (hr.mono hk) hg hm hkp hb hdv (fun σ => passAt takes_XW σ) ha.pe hdb he hpl, Snd.callXB ha.snd c.dd⟩
/-! as statements -/
def TDropX (T : VTX) : VTS := fun V S => T S (fun S1 _ _ => V.nx S1) V.xc
theorem vs_exprX (h : VX X K p e TX) (hs : swapsWith e none pos.line X.env = pure false := by rfl) : VS X K pin (.Expr e pos) (TDropX TX) := by
  obtain ⟨t, a, s⟩ := h.ex
  exact ⟨_, ps_expr a hs, fun F H σ S fp V M g q l => s F H σ S fp _ _ _ g q (fun F' H' S' fp' al d v fq r q' => l.nx F' H' σ S' fp' r.good r.step Pin.refl q') fun F' H' S' fp' y c g' st' q' hm => l.xc F' H' σ S' fp' y c g' st' Pin.refl q' hm⟩
def TRetX (T : VTX) : VTS := fun V S => T S (fun S1 al d => al = true ∧ V.rt d S1) V.xc
theorem vs_retX (h : VX X K p e TX) : VS X K pin (.Return (some e) pos) (TRetX TX) := by
  obtain ⟨t, a, s⟩ := h.ex
  exact ⟨_, ps_ret a, fun F H σ S fp V M g q l => s F H σ S fp _ _ _ g q (fun F' H' S' fp' al d v fq r q' => l.rt F' H' σ S' fp' d v fq r.good r.step Pin.refl r.rep (r.sep q'.1).1 (r.sep q'.1).2 q'.2) fun F' H' S' fp' y c g' st' q' hm => l.xc F' H' σ S' fp' y c g' st' Pin.refl q' hm⟩
def TAsgX (T : VTX) (G : VTG) : VTS := fun V S => T S (fun S1 al d => al = true ∧ G d S1 V.nx) V.xc
theorem SndS.asgX {te : TE} {g : TG} {G : VTG} (h : SndX X K p te TX) (hg : SndG K pin g G) : SndS X K pin (tAsg te g) (TAsgX TX G) := fun F H σ S fp V M gd q l => by
  refine h F H σ S fp _ _ _ gd q (fun F1 H1 S1 fp1 al d v fq r q1 => ?_) fun F' H' S' fp' y c g' st' q' hm => l.xc F' H' σ S' fp' y c g' st' Pin.refl q' hm
  obtain ⟨n, z⟩ := r.sep q1.1
  refine hg F1 H1 σ S1 fp1 d v fq _ _ r.good r.rep n (fun a ha => ⟨(z a ha).1, (z a ha).2.1⟩) q1.2 fun F2 H2 σ2 S2 fp2 g2 st2 p2 q2 => ?_
  have hb : ∀ a, a ∈ fq ++ fp1 → a ∈ fp ∨ H a = none := fun a ha => by
    rcases List.mem_append.mp ha with y | y
    · exact (z a y).2.2
    · exact r.step.own a y
  refine l.nx F2 H2 σ2 S2 fp2 g2 ⟨r.step.fsub.trans st2.fsub, fun a o e hn => ?_, fun a hh => ?_, fun a ha => ?_⟩ p2 q2
  · refine st2.keep a o (r.step.keep a o e hn) fun y => ?_
    rcases hb a y with w | w
    · exact hn w
    · rw [e] at w; cases w
  · rcases st2.fnew a hh with y | y | y
    · exact r.step.fnew a y
    · exact .inr (hb a y)
    · exact .inr (r.step.back (.inr y))
  · rcases st2.own a ha with y | y
    · exact hb a y
    · exact r.step.back (.inr y)
theorem vs_asgX {tg : Expr} {G : VTG} {g : TG} (he : VX X K p e TX) (hg : VG X K pin tg g G) (hs : swapsWithSole [tg] e pos.line X.env = pure false := by rfl) (hw : swappedStores [tg] e X.env = pure none := by rfl)
    (h1 : (assignEach [tg] X.env).map (·.2) = [assign tg X.env] := by rfl) : VS X K pin (.Assign [tg] e pos) (TAsgX TX G) := by
  obtain ⟨t, a, s⟩ := he.ex
  exact ⟨_, ps_asg a hg.pe hs hw h1, SndS.asgX s hg.snd⟩
theorem vs_setX {x : Str} (i : Nat) {pos' : Pos} (hp : i ∉ pin) (he : VX X K p e TX) (h : ∀ te, PE X e te → PS X (.Assign [.Name x pos'] e pos) (tAsg te (gName i))) : VS X K pin (.Assign [.Name x pos'] e pos) (TAsgX TX (TGName i)) := by
  obtain ⟨t, a, s⟩ := he.ex
  exact ⟨_, h t a, SndS.asgX s (SndG.name hp)⟩
end
end VL

namespace VL
open PySem PySem.Spec PyProof.Rows L2

/-! ### try, and what comes behind it: what was caught stays pinned there -/
/-- what was raised has come to rest at the address a, in the frame of X -/
def Rests (X : Cx) (pins : List (Addr × Obj)) (σ : L2.St) (H : Hp) (cls : Value) (dx : Option Addr) (a : Addr) (s : Shared) : Prop :=
  H a = none ∧ ∃ B : Heap, HandSPX.FlyingZ B (X.env :: X.outer) a (Zc cls dx) s.heap ∧ ∀ g : Heap, B.StaysIn g → s.heap.UpToSlots g → Inv X pins σ H { s with heap := g }
section
variable {X : Cx} {pins : List (Addr × Obj)} {σ : L2.St} {H : Hp} {cls : Value} {dx : Option Addr} {a : Addr} {s : Shared}
theorem upTo_self {g : Heap} : g.UpToSlots g := fun b o e _ => ⟨o.slots, e⟩
theorem Rests.inv (R : Rests X pins σ H cls dx a s) : Inv X pins σ H s := let ⟨_, B, fl, k⟩ := R; k s.heap fl.1 upTo_self
theorem Rests.obj (R : Rests X pins σ H cls dx a s) (hf : X.env.frame = some X.env.locals) : ∃ oe, s.heap.get? a = some oe ∧ Zc cls dx oe ∧ (∃ vs, oe.data = .fields vs) ∧ a ≠ X.env.locals ∧ a ∉ X.fs := by
  obtain ⟨_, B, fl, _⟩ := R
  obtain ⟨oe, vs, e1, z, dt⟩ := fl.there
  have off : ∀ b ∈ (X.env :: X.outer).filterMap (·.frame), a ≠ b := fun b hb e => by
    obtain ⟨_, o2, e2, nf⟩ := fl.2.2.1.mem hb
    subst e
    rw [e1] at e2
    exact nf vs ((congrArg (·.data) (Option.some.inj e2)).symm.trans dt)
  refine ⟨oe, e1, z, ⟨vs, dt⟩, off _ (List.mem_filterMap.mpr ⟨X.env, List.mem_cons_self, hf⟩), fun m => ?_⟩
  obtain ⟨en, m1, m2⟩ := List.mem_filterMap.mp m
  exact off a (List.mem_filterMap.mpr ⟨en, List.mem_cons_of_mem _ m1, m2⟩) rfl
theorem Rests.again {M : Model} {A : Around} {E : Value → Shared → Prop} {Q : Unit → Shared → Prop} (R : Rests X pins σ H cls dx a s) (k : ∀ g, Rests X pins σ H cls dx a { s with heap := g } → Q () { s with heap := g }) : wpAny M A (setFlight (.ref a) none) Q E s := by
  obtain ⟨na, B, fl, q⟩ := R
  exact HandSPX.lands_againZ fl fun g fg ug => k g ⟨na, B, fg, fun g2 b u => q g2 b (ug.trans u)⟩
/-- from the air to rest -/
theorem rests_of {W : WX} {u : Value} {M : Model} {A : Around} {E : Value → Shared → Prop} {Q : Unit → Shared → Prop} {pn : List (Addr × Obj)} {xe : Value → Shared → Prop} (hs : X.stack = X.env :: X.outer) (hf : X.env.frame = some X.env.locals) (hA : A.frames = some X.stack)
    (back : ∀ {p σ H s}, Inv (X.tr pn xe) p σ H s → Inv X pins σ H s) (x : XE (X.tr pn xe) W u s)
    (k : ∀ a cls dx σ H g, u = .ref a → Rests X pins σ H cls dx a { s with heap := g } → W cls dx σ H → Q () { s with heap := g }) :
    wpAny M A (noteFrame u X.env) (fun _ t => wpAny M A (setFlight u none) Q E t) E s := by
  obtain ⟨a, B, s1, p1, σ1, H1, c1, d1, eu, I1, low, up, sk, na, eo, eg, w⟩ := x
  subst eu
  have sk : Sky B (X.env :: X.outer) a (Zc c1 d1) X.env.locals s.heap := hs ▸ sk
  exact Sky.land Zc.steady (hA.trans (congrArg some hs)) hf sk fun g fg ug => k a c1 d1 σ1 H1 g rfl ⟨na, B, fg, fun g2 b2 u2 => (back I1).landed low b2 (up.trans (ug.trans u2)) eo eg⟩ w
/-- the same state, one more thing pinned -/
theorem inv_held {p : Addr × Obj} {xe : Value → Shared → Prop} (ok : X.Ok) (I : Inv (X.suite a (p :: (X.pn ++ pins))) [] σ H s) : Inv (X.tr (p :: (X.pn ++ pins)) xe) [] σ H s where
  ok := ok.toTry _ _
  os := I.os
  bare := I.bare
  base := I.base
  loc := I.loc
  cell := I.cell
  free := I.free
  freeC := I.freeC
  pin := I.pin
  hok := I.hok
  len := I.len
theorem inv_unheld {p : Addr × Obj} {xe : Value → Shared → Prop} {pl : List (Addr × Obj)} (ok : X.Ok) (I : Inv (X.tr (p :: (X.pn ++ pins)) xe) pl σ H s) : Inv X pins σ H s where
  ok := ok
  os := I.os
  bare := I.bare
  base := I.base
  loc := I.loc
  cell := I.cell
  free := I.free
  freeC := I.freeC
  pin := fun q hq => I.pin q (List.mem_append_left _ (List.mem_cons_of_mem _ hq))
  hok := I.hok
  len := I.len
/-- the ends of what comes behind the suite: its name is gone -/
def endR (D : Ends) (i : Nat) (r : TS) : Ends := { nx := fun σ H => r D (σ.set i none) H, rt := D.rt, bk := fun σ H => D.bk (σ.set i none) H, ct := fun σ H => D.ct (σ.set i none) H }
/-- what is wished of an exception of the body: it is caught, and suite and rest do -/
def wTry (X : Cx) (c : Value) (i : Nat) (ts tr : Addr → Obj → List (Addr × Obj) → Value → TS) (D : Ends) : WX := fun cls dx σ H => dx = none ∧ PySem.W.exmOne X.K cls c = some true ∧
  ∀ a oe pn, (∀ q ∈ X.pn, q ∈ pn) → H a = none → Zc cls none oe → (∃ vs, oe.data = .fields vs) → ts a oe pn cls (endR D i (tr a oe pn cls)) (σ.set i (some (.ref a))) H
variable {x n : Str} {c : Value} {i : Nat} {body suite rest : List Stmt} {b0 : Stmt} {np pos pos' : Pos} {tb : WX → TS} {ts tr : Addr → Obj → List (Addr × Obj) → Value → TS} {u : TS}
theorem pss_try (hs : X.stack = X.env :: X.outer) (hf : X.env.frame = some X.env.locals) (hN : X.N.Nodup) (hi : X.N[i]? = some n) (hl : X.env.kindOf n = some .local) (hc : Names X x c)
    (hb : ∀ (W : WX) (pn : List (Addr × Obj)) (xe : Value → Shared → Prop), Takes (X.tr pn xe) W → PassesOwn (model X.prog X.w) X.A X.env xe → PSs (X.tr pn xe) body (tb W))
    (hsu : ∀ a oe cls pn, Zc cls none oe → (∃ vs, oe.data = .fields vs) → PSs (X.suite a ((a, oe) :: pn)) (b0 :: suite) (ts a oe pn cls))
    (hr : ∀ a oe cls pn, Zc cls none oe → (∃ vs, oe.data = .fields vs) → PSs (X.tr ((a, oe) :: pn) X.xe) rest (tr a oe pn cls)) (h0 : PSs X rest u) :
    PSs X (.Try body [.ExceptHandler (some (.Name x np)) (some n) (b0 :: suite) pos'] [] [] pos :: rest) (fun D σ H => tb (wTry X c i ts tr D) { D with nx := u D } σ H) := by
  refine ⟨fun pins s σ H D I w => wpAny_execs_cons (wpAny_Try_except ?_)⟩
  have ok := I.ok
  have fr : X.A.frames = some X.stack := ok.frames
  have lc : Loc X.env.scope n := .inl hl
  have B := hb (wTry X c i ts tr D) (X.pn ++ pins) (fun v t => wpAny (model X.prog X.w) X.A (noteFrame v X.env) (fun _ t => wpAny (model X.prog X.w) X.A (setFlight v none) (fun _ t =>
    wpAny (model X.prog X.w) X.A (handleBy v X.env [.ExceptHandler (some (.Name x np)) (some n) (b0 :: suite) pos']) (fun f t => match f with | .next => wpAny (model X.prog X.w) X.A (execs rest X.env) (SP X pins D) X.xe t | f => SP X pins D f t) X.xe t) X.xe t) X.xe t)
    (fun v t air => rests_of hs hf fr (fun I => I.ofTry ok) air fun a cls dx σ1 H1 g ev R wish => ?_) PassesOwn.looking
  · refine wpAny_mono (B.run [] s σ H _ (I.toTry _) w) (fun f t q => ?_) fun _ _ q => q
    cases f with
    | next => exact wpAny_execs_nil (let ⟨σ2, H2, J, q⟩ := q; h0.run pins t σ2 H2 D (J.ofTry ok) q)
    | brk => exact let ⟨σ2, H2, J, q⟩ := q; ⟨σ2, H2, J.ofTry ok, q⟩
    | cont => exact let ⟨σ2, H2, J, q⟩ := q; ⟨σ2, H2, J.ofTry ok, q⟩
    | ret _ => exact let ⟨v2, σ2, H2, J, r, q⟩ := q; ⟨v2, σ2, H2, J.ofTry ok, r, q⟩
  · -- the catch
    subst ev
    obtain ⟨dn, em, wish⟩ := wish
    subst dn
    obtain ⟨oe, e1, z1, fd1, nl1, nf1⟩ := R.obj hf
    have I1 := R.inv
    obtain ⟨vs1, dt1⟩ := fd1
    have S1 := I1.suite e1 dt1 R.1 nl1 nf1
    have LT : PySem.W.Looks (model X.prog X.w) g (typeOf (.ref a)) cls := fun A Q E s k q => wpAny_typeOf_ref (k _ _ e1) (z1.1.symm ▸ q)
    have LM := PySem.W.exm_one (M := model X.prog X.w) (S1.kIn) LT em
    refine wpAny_handleBy_cons (codeAny_handlers_test ?_) (fun z => nomatch z)
    have name : ∀ {Q : Value → Shared → Prop} {E : Value → Shared → Prop}, Q c { t with heap := g } → wpAny (model X.prog X.w) (X.A.mark (some (.ref a))) (eval (.Name x np) X.env) Q E { t with heap := g } := fun q => by
      obtain ⟨hg, hd, hm | ⟨hm, hv, hn⟩⟩ := hc
      · exact ld_glob (X := X.suite a _) S1 hg hm q hd
      · exact ld_blt (X := X.suite a _) S1 hg hm hv q hn hd
    refine name (LM.here (codeAny_handlers_suite_as (R.again fun g2 R2 => ?_)))
    obtain ⟨oe2, e2, z2, fd2, nl2, nf2⟩ := R2.obj hf
    obtain ⟨vs2, dt2⟩ := fd2
    have S2 := R2.inv.suite e2 dt2 R2.1 nl2 nf2
    refine store_ok (X := X.suite a ((a, oe2) :: (X.pn ++ pins))) (v := .ref a) S2 hN hi lc rfl (fun t3 S3 => ?_) (.inr hl)
    refine wpAny_mono ((hsu a oe2 cls (X.pn ++ pins) z2 ⟨_, dt2⟩).run [] t3 _ H1 _ S3 (wish a oe2 (X.pn ++ pins) (fun q h => List.mem_append_left _ h) R2.1 z2 ⟨_, dt2⟩)) (fun f t4 q => ?_) (fun _ _ z => z.elim)
    have gone : ∀ {σ4 : L2.St} {H4 : Hp} {Q : Shared → Prop}, Inv (X.suite a ((a, oe2) :: (X.pn ++ pins))) [] σ4 H4 t4 → (∀ t5, Inv (X.tr ((a, oe2) :: (X.pn ++ pins)) X.xe) [] (σ4.set i none) H4 t5 → Q t5) →
        wpAny (model X.prog X.w) X.A (do bindName X.env n .none; unbindBehindTheSuite X.env n pos') (fun _ t5 => Q t5) X.xe t4 := fun S4 k => gone_ok (X := X.tr ((a, oe2) :: (X.pn ++ pins)) X.xe) (inv_held ok S4) hN hi hl k
    cases f with
    | next =>
      obtain ⟨σ4, H4, S4, q⟩ := q
      refine gone S4 fun t5 J5 => wpAny_mono ((hr a oe2 cls (X.pn ++ pins) z2 ⟨_, dt2⟩).run [] t5 _ H4 D J5 q) (fun f t6 q => ?_) fun _ _ q => q
      cases f with
      | next => exact let ⟨σ6, H6, J, q⟩ := q; ⟨σ6, H6, inv_unheld ok J, q⟩
      | brk => exact let ⟨σ6, H6, J, q⟩ := q; ⟨σ6, H6, inv_unheld ok J, q⟩
      | cont => exact let ⟨σ6, H6, J, q⟩ := q; ⟨σ6, H6, inv_unheld ok J, q⟩
      | ret _ => exact let ⟨v6, σ6, H6, J, r, q⟩ := q; ⟨v6, σ6, H6, inv_unheld ok J, r, q⟩
    | brk =>
      obtain ⟨σ4, H4, S4, q⟩ := q
      exact gone S4 fun t5 J5 => ⟨_, _, inv_unheld ok J5, q⟩
    | cont =>
      obtain ⟨σ4, H4, S4, q⟩ := q
      exact gone S4 fun t5 J5 => ⟨_, _, inv_unheld ok J5, q⟩
    | ret _ =>
      obtain ⟨v4, σ4, H4, S4, r, q⟩ := q
      exact gone S4 fun t5 J5 => ⟨_, _, _, inv_unheld ok J5, r, q⟩
end
end VL

namespace VL
open PySem PySem.Spec PyProof.Rows L2

section
variable {X : Cx} {K : PySem.W.Frag} {pin : List Nat} {F F' H H' : Hp} {fp fp1 fp2 : List Addr} {σ : L2.St} {S : SV}
theorem Step.less (s : Step fp F H F' H' fp1) (h : ∀ a ∈ fp2, a ∈ fp1) : Step fp F H F' H' fp2 := ⟨s.fsub, s.keep, s.fnew, fun a ha => s.own a (h a ha)⟩
/-- a slot is empty from now on -/
theorem Good.gone {i : Nat} (g : Good K F H σ S fp) (hi : i < S.length) : ∃ fp', Good K F H (σ.set i none) (S.set i .unk) fp' ∧ ∀ a ∈ fp', a ∈ fp := by
  obtain ⟨ov, f1, f2, f3, e1, rfl, ro, pt⟩ := g.rep.lens (List.getElem?_eq_getElem hi)
  have nd := g.nd
  rw [List.nodup_append] at nd
  obtain ⟨n1, n2, n3⟩ := nd
  rw [List.nodup_append] at n2
  have sub : ∀ a ∈ f1 ++ ([] ++ f3), a ∈ f1 ++ (f2 ++ f3) := fun a ha => by
    rcases List.mem_append.mp ha with y | y
    · simp [y]
    · rw [List.nil_append] at y; simp [y]
  refine ⟨f1 ++ ([] ++ f3), ⟨g.sub, pt Sub.refl (fun a _ o e => e) (show RepO K F H .unk none [] from ⟨rfl, rfl⟩), ?_, fun a ha => g.dis a (sub a ha)⟩, sub⟩
  rw [List.nil_append]
  exact List.nodup_append.mpr ⟨n1, n2.2.1, fun a ha b hb => n3 a ha b (List.mem_append_right _ hb)⟩
/-- what is raised where more is pinned -/
theorem xw_held {p : Addr × Obj} {pn : List (Addr × Obj)} {cls : Value} (ok : X.Ok ∨ True) (hsub : ∀ q ∈ X.pn, q ∈ pn) (w : XW X cls none σ H) : XW (X.tr (p :: pn) X.xe) cls none σ H := fun v s' ⟨a, B, sI, pins, σ', H', cls', d', ea, I, nb, up, sky, na, os, ag, e⟩ => by
  have J : Inv X [] σ' H' sI := ⟨I.ok.ofTry, I.os, I.bare, I.base, I.loc, I.cell, I.free, I.freeC, fun q hq => by
    rw [List.append_nil] at hq
    exact I.pin q (List.mem_append_left _ (List.mem_cons_of_mem _ (hsub q hq))), I.hok, I.len⟩
  exact w v s' ⟨a, B, sI, [], σ', H', cls', d', ea, J, nb, up, sky, na, os, ag, e⟩
/-- what is pinned and may be asked for its class -/
def PinE (X : Cx) (P : Addr → Str → Prop) : Prop := ∀ a x, P a x → ∃ (D : Addr) (oe : Obj), X.mg x = some (.ref D) ∧ (a, oe) ∈ X.pn ∧ Zc (.ref D) none oe ∧ ∃ vs, oe.data = .fields vs
theorem pinE_none : PinE X fun _ _ => False := fun _ _ h => h.elim
def TTry (mg : Str → Option Value) (i : Nat) (known : List Str) (T : VTS) (Ts Tr : (Addr → Str → Prop) → VTS) : VTS := fun V S =>
  T { V with nx := Tr (fun _ _ => False) V, xc := fun x S1 => known.contains x = true ∧ i < S1.length ∧ ∀ a, Ts (fun a' x' => a' = a ∧ mg x' = mg x) { nx := fun S2 => i < S2.length ∧ Tr (fun a' x' => a' = a ∧ mg x' = mg x) V (S2.set i .unk), rt := V.rt, bk := fun S2 => i < S2.length ∧ V.bk (S2.set i .unk), ct := fun S2 => i < S2.length ∧ V.ct (S2.set i .unk) } (S1.set i (.exc a x)) } S
variable {x n : Str} {c : Value} {i : Nat} {body suite rest : List Stmt} {b0 : Stmt} {np pos pos' : Pos} {known : List Str} {T : VTS} {Ts Tr : (Addr → Str → Prop) → VTS}
theorem vss_try (hip : i ∉ pin) (hs : X.stack = X.env :: X.outer) (hf : X.env.frame = some X.env.locals) (hN : X.N.Nodup) (hi : X.N[i]? = some n) (hl : X.env.kindOf n = some .local) (hc : Names X x c)
    (hex : ∀ y ∈ known, ∀ D, X.mg y = some (.ref D) → PySem.W.exmOne X.K (.ref D) c = some true)
    (hb : ∀ pn xe, PassesOwn (model X.prog X.w) X.A X.env xe → VSs (X.tr pn xe) K pin body T)
    (hsu : ∀ a oe pn P, PinE (X.suite a ((a, oe) :: pn)) P → VSs (X.suite a ((a, oe) :: pn)) K pin (b0 :: suite) (Ts P))
    (hr : ∀ pn P, PinE (X.tr pn X.xe) P → VSs (X.tr pn X.xe) K pin rest (Tr P)) :
    VSs X K pin (.Try body [.ExceptHandler (some (.Name x np)) (some n) (b0 :: suite) pos'] [] [] pos :: rest) (TTry X.mg i known T Ts Tr) := by
  have pinP : ∀ (a : Addr) (oe : Obj) (cls : Value) (pn : List (Addr × Obj)), Zc cls none oe → (∃ vs, oe.data = .fields vs) → PinE (X.tr ((a, oe) :: pn) X.xe) (fun a' x' => a' = a ∧ X.mg x' = some cls ∧ ∃ D, cls = .ref D) := fun a oe cls pn z f a' x' ⟨e1, e2, D, e3⟩ => by
    subst e1
    subst e3
    exact ⟨D, oe, e2, List.mem_cons_self, z, f⟩
  let tb : WX → TS := fun W D σ H => ∀ pn xe (hp : PassesOwn (model X.prog X.w) X.A X.env xe), Takes (X.tr pn xe) W → (hb pn xe hp).ex.choose D σ H
  have pinS : ∀ (a : Addr) (oe : Obj) (cls : Value) (pn : List (Addr × Obj)), Zc cls none oe → (∃ vs, oe.data = .fields vs) → PinE (X.suite a ((a, oe) :: pn)) (fun a' x' => a' = a ∧ X.mg x' = some cls ∧ ∃ D, cls = .ref D) := fun a oe cls pn z f a' x' h => pinP a oe cls pn z f a' x' h
  let ts : Addr → Obj → List (Addr × Obj) → Value → TS := fun a oe pn cls D σ H => ∀ (z : Zc cls none oe) (f : ∃ vs, oe.data = .fields vs), (hsu a oe pn _ (pinS a oe cls pn z f)).ex.choose D σ H
  let tr : Addr → Obj → List (Addr × Obj) → Value → TS := fun a oe pn cls D σ H => ∀ (z : Zc cls none oe) (f : ∃ vs, oe.data = .fields vs), (hr _ _ (pinP a oe cls pn z f)).ex.choose D σ H
  have h0 := hr X.pn (fun _ _ => False) pinE_none
  refine ⟨_, pss_try (tb := tb) (ts := ts) (tr := tr) (u := h0.ex.choose) hs hf hN hi hl hc (fun W pn xe tk hp => ⟨fun pins s σ H D I w => (hb pn xe hp).ex.choose_spec.1.run pins s σ H D I (w pn xe hp tk)⟩)
    (fun a oe cls pn z f => ⟨fun pins s σ H D I w => (hsu a oe pn _ (pinS a oe cls pn z f)).ex.choose_spec.1.run pins s σ H D I (w z f)⟩) (fun a oe cls pn z f => ⟨fun pins s σ H D I w => (hr _ _ (pinP a oe cls pn z f)).ex.choose_spec.1.run pins s σ H D I (w z f)⟩) h0.ex.choose_spec.1, ?_⟩
  intro F H σ S fp V M g q l pn xe hp tk
  refine (hb pn xe hp).ex.choose_spec.2 F H σ S fp _ _ g q ⟨fun F' H' σ' S' fp' g' s' p' q' => h0.ex.choose_spec.2 F' H' σ' S' fp' V M g' q' (l.on s' p'), l.bk, l.ct, l.rt, fun F' H' σ' S' fp' y D g' s' p' q' hm => ?_⟩
  obtain ⟨q1, q2, q3⟩ := q'
  refine XW_of tk ⟨rfl, hex y (by simpa using q1) D hm, fun a oe pn2 hsub na z f => ?_⟩
  obtain ⟨fp2, g2, sb2⟩ := g'.put (d := .exc a y) (v := .ref a) (fq := []) q2 (by rw [Rep]; exact ⟨rfl, rfl⟩) List.nodup_nil (fun b hb => absurd hb (by simp))
  have sb2 : ∀ b ∈ fp2, b ∈ fp' := fun b hb => (sb2 b hb).resolve_left (by simp)
  have st2 : Step fp F H F' H' fp2 := s'.less sb2
  have p2 : Pin pin σ (σ'.set i (some (.ref a))) := p'.trans (Pin.set hip)
  have l2 := l.on st2 p2
  have eP : (fun (a' : Addr) (x' : Str) => a' = a ∧ X.mg x' = X.mg y) = fun a' x' => a' = a ∧ X.mg x' = some (.ref D) ∧ ∃ D', Value.ref D = .ref D' := by
    funext a' x'
    rw [hm]
    exact propext ⟨fun h => ⟨h.1, h.2, D, rfl⟩, fun h => ⟨h.1, h.2.1⟩⟩
  intro z f
  have q3 := q3 a
  rw [eP] at q3
  refine (hsu a oe pn2 _ (pinS a oe (.ref D) pn2 z f)).ex.choose_spec.2 F' H' _ _ fp2 _ _ g2 q3 ⟨fun F3 H3 σ3 S3 fp3 g3 s3 p3 q => ?_, fun F3 H3 σ3 S3 fp3 g3 s3 p3 q => ?_, fun F3 H3 σ3 S3 fp3 g3 s3 p3 q => ?_, l2.rt, fun _ _ _ _ _ _ _ _ _ _ q _ => q.elim⟩
  · obtain ⟨q, w⟩ := q
    obtain ⟨fp4, g4, sb4⟩ := g3.gone q
    have st4 := (st2.trans s3).less sb4
    have p4 : Pin pin σ (σ3.set i none) := (p2.trans p3).trans (Pin.set hip)
    have l4 := l.on st4 p4
    intro z f
    exact (hr _ _ (pinP a oe (.ref D) pn2 z f)).ex.choose_spec.2 F3 H3 _ _ fp4 V M g4 w ⟨l4.nx, l4.bk, l4.ct, l4.rt, fun F5 H5 σ5 S5 fp5 x5 c5 g5 s5 p5 q5 hm5 => xw_held (.inr trivial) hsub (l4.xc F5 H5 σ5 S5 fp5 x5 c5 g5 s5 p5 q5 hm5)⟩
  · obtain ⟨q, w⟩ := q
    obtain ⟨fp4, g4, sb4⟩ := g3.gone q
    exact l.bk F3 H3 _ _ fp4 g4 ((st2.trans s3).less sb4) ((p2.trans p3).trans (Pin.set hip)) w
  · obtain ⟨q, w⟩ := q
    obtain ⟨fp4, g4, sb4⟩ := g3.gone q
    exact l.ct F3 H3 _ _ fp4 g4 ((st2.trans s3).less sb4) ((p2.trans p3).trans (Pin.set hip)) w
end
/-! ### isinstance of what is held -/
def rIsX (K : PySem.W.Frag) (mg : Str → Option Value) (P : Addr → Str → Prop) : List V → Hp → VK → Prop := fun xs H Q => ∃ (a D : Addr) (x : Str) (c : V) (u : Value) (b : Bool), xs = [.ref a, c] ∧ P a x ∧ mg x = some (.ref D) ∧ ExcC K D ∧ ClsV c u ∧ PySem.W.kitOne K (.ref D) u = some b ∧ Q (.bl b) H
def rIsXT (K : PySem.W.Frag) (mg : Str → Option Value) (P : Addr → Str → Prop) : List V → Hp → VK → Prop := fun xs H Q => ∃ (a D tp : Addr) (x : Str) (cs : List V) (us : List Value) (b : Bool), xs = [.ref a, .ref tp] ∧ P a x ∧ mg x = some (.ref D) ∧ ExcC K D ∧ H tp = some (.tup cs) ∧ Paired ClsV cs us ∧ PySem.W.kitAny K (.ref D) us = some b ∧ Q (.bl b) H
section
variable {X : Cx} {P : Addr → Str → Prop}
theorem inst_held {pins : List (Addr × Obj)} {σ : L2.St} {H : Hp} {s : Shared} {a D : Addr} {oe : Obj} (I : Inv X pins σ H s) (m : (a, oe) ∈ X.pn) (z : Zc (.ref D) none oe) (f : ∃ vs, oe.data = .fields vs) : PySem.W.InstAt s.heap a oe D none := by
  obtain ⟨e, _⟩ := I.pin (a, oe) (List.mem_append_left _ m)
  obtain ⟨vs, f⟩ := f
  obtain ⟨k1, k2, k3, k4⟩ := oe
  obtain ⟨z1, z2⟩ := z
  dsimp only at z1 z2 f
  subst z1; subst z2; subst f
  exact ⟨e, rfl, rfl, trivial⟩
theorem call_isX (hp : PinE X P) : CallR X (.builtin "isinstance") (fun xs H Q => rIsi X.K xs H Q ∨ rIsX X.K X.mg P xs H Q) := by
  intro pins s σ H xs us Q I r h
  rcases h with h | ⟨a, D, x, c, u, b, rfl, hP, hm, C, k, e, q⟩
  · exact call_isi pins s σ H xs us Q I r h
  · obtain ⟨u1, u2, rfl, r1, r2⟩ := vals2 r
    cases (show u1 = Value.ref a from r1)
    have e2 := k.eq r2
    subst e2
    obtain ⟨D', oe, h1, h2, h3, h4⟩ := hp a x hP
    rw [hm] at h1
    cases h1
    exact PySem.W.kia_one (PySem.W.handS_kitx_exc C.hg C.hk C.hs C.hd C.ha C.hn C.ht C.hm) I.kIn (inst_held I h2 h3 h4) e (fun z => nomatch z) fun tk => ⟨.bl b, H, I.tok tk, rfl, q⟩
theorem call_isXT (hp : PinE X P) : CallR X (.builtin "isinstance") (fun xs H Q => rIsiT X.K xs H Q ∨ rIsXT X.K X.mg P xs H Q) := by
  intro pins s σ H xs us Q I r h
  rcases h with h | ⟨a, D, tp, x, cs, ws, b, rfl, hP, hm, C, hT, k, e, q⟩
  · exact call_isiT pins s σ H xs us Q I r h
  · obtain ⟨u1, u2, rfl, r1, r2⟩ := vals2 r
    cases (show u1 = Value.ref a from r1)
    cases (show u2 = Value.ref tp from r2)
    obtain ⟨D', oe, h1, h2, h3, h4⟩ := hp a x hP
    rw [hm] at h1
    cases h1
    obtain ⟨_, its, rv, o, h5, h6, n, h7⟩ := (show ObjOk X.prog X.w H s.heap tp (.tup cs) from I.hok tp _ hT)
    have e3 := ClsV.all k rv
    subst e3
    obtain ⟨oc, od, dt, sl⟩ := o
    simp only at h6 h7
    subst h6 h7
    exact PySem.W.kia_tup (PySem.W.handS_kitx_exc C.hg C.hk C.hs C.hd C.ha C.hn C.ht C.hm) I.kIn (inst_held I h2 h3 h4) h5 e (fun z => nomatch z) fun tk => ⟨.bl b, H, I.tok tk, rfl, q⟩
end
/-- the answers by the class's name; the empty name is None's -/
abbrev Tab := List (Str × Bool)
def oIsX (P : Addr → Str → Prop) (tab : Tab) : O1 := fun _ d Q => match d with
  | .non => match tab.lookup ("" : Str) with
    | some b => Q true (.bl b)
    | none => False
  | .exc a x => x ≠ ("" : Str) ∧ P a x ∧ match tab.lookup x with
    | some b => Q true (.bl b)
    | none => False
  | _ => False
/-- what a table says of one class, or of several -/
structure TabOk (K : PySem.W.Frag) (mg : Str → Option Value) (us : List Value) (tab : Tab) : Prop where
  non : ∀ b, tab.lookup ("" : Str) = some b → PySem.W.kitAny K (.type "NoneType") us = some b
  exc : ∀ x b D, x ≠ ("" : Str) → tab.lookup x = some b → mg x = some (.ref D) → ExcC K D ∧ PySem.W.kitAny K (.ref D) us = some b
theorem kit_one_any {K : PySem.W.Frag} {t u : Value} {b : Bool} (h : PySem.W.kitAny K t [u] = some b) : PySem.W.kitOne K t u = some b := by
  unfold PySem.W.kitAny at h
  split at h
  · rename_i e; rw [e]; exact h
  · rename_i e
    have h : some false = some b := h
    rw [e]; exact h
  · cases h
section
variable {X : Cx} {K : PySem.W.Frag} {P : Addr → Str → Prop} {tab : Tab} {mg : Str → Option Value} {a : Expr} {pos P0 : Pos} {p : Bool} {Ta : VT} {ta : TE}
theorem lf_isX {c : V} {u : Value} (hp : PinE X P) (k : ClsV c u) (ok : TabOk K X.mg [u] tab) : Lf1 K (fun v H Q => rIsi K [v, c] H Q ∨ rIsX K X.mg P [v, c] H Q) (oIsX P tab) := fun F H al1 d1 v1 q1 Q R s o1 q kk => by
  cases d1 <;> first | exact q.elim | skip
  · unfold oIsX at q
    dsimp only at q
    cases e : tab.lookup ("" : Str) with
    | none => rw [e] at q; exact q.elim
    | some b =>
      rw [e] at q
      have r := o1.rep
      rw [Rep] at r
      rw [r.1]
      exact .inl ⟨_, _, _, _, b, rfl, k, .base .non, kit_one_any (ok.non b e), kk F H true _ _ [] (Ans.bl s) q⟩
  · rename_i a x
    unfold oIsX at q
    dsimp only at q
    obtain ⟨hx, hP, q⟩ := q
    cases e : tab.lookup x with
    | none => rw [e] at q; exact q.elim
    | some b =>
      rw [e] at q
      have r := o1.rep
      rw [Rep] at r
      rw [r.1]
      obtain ⟨D, oe, hm, _⟩ := hp a x hP
      obtain ⟨C, ek⟩ := ok.exc x b D hx e hm
      exact .inr ⟨a, D, x, _, _, b, rfl, hP, hm, C, k, kit_one_any ek, kk F H true _ _ [] (Ans.bl s) q⟩
def rIsXL (K : PySem.W.Frag) (mg : Str → Option Value) (P : Addr → Str → Prop) (cs : List V) : V → Hp → VK → Prop := fun v H Q => cs.length ≤ sizeLine ∧ ∀ p, H p = none → rIsiT K [v, .ref p] (upd H p (.tup cs)) Q ∨ rIsXT K mg P [v, .ref p] (upd H p (.tup cs)) Q
theorem lf_isXL {cs : List V} {us : List Value} (hp : PinE X P) (hl : cs.length ≤ 100) (k : Paired ClsV cs us) (ok : TabOk K X.mg us tab) : Lf1 K (rIsXL K X.mg P cs) (oIsX P tab) := fun F H al1 d1 v1 q1 Q R s o1 q kk => by
  refine ⟨by rw [sizeLine_eq]; omega, fun t ht => ?_⟩
  have gr : Grow F H F (upd H t (.tup cs)) := Grow.owned s ht
  cases d1 <;> first | exact q.elim | skip
  · unfold oIsX at q
    dsimp only at q
    cases e : tab.lookup ("" : Str) with
    | none => rw [e] at q; exact q.elim
    | some b =>
      rw [e] at q
      have r := o1.rep
      rw [Rep] at r
      rw [r.1]
      exact .inl ⟨_, t, _, _, us, b, rfl, upd_same, k, .base .non, ok.non b e, kk F _ true _ _ [] ⟨by rw [Rep]; exact ⟨rfl, rfl⟩, gr, fun _ => ⟨List.nodup_nil, fun a ha => absurd ha (by simp)⟩⟩ q⟩
  · rename_i a x
    unfold oIsX at q
    dsimp only at q
    obtain ⟨hx, hP, q⟩ := q
    cases e : tab.lookup x with
    | none => rw [e] at q; exact q.elim
    | some b =>
      rw [e] at q
      have r := o1.rep
      rw [Rep] at r
      rw [r.1]
      obtain ⟨D, oe, hm, _⟩ := hp a x hP
      obtain ⟨C, ek⟩ := ok.exc x b D hx e hm
      exact .inr ⟨a, D, t, x, _, us, b, rfl, hP, hm, C, upd_same, k, ek, kk F _ true _ _ [] ⟨by rw [Rep]; exact ⟨rfl, rfl⟩, gr, fun _ => ⟨List.nodup_nil, fun a ha => absurd ha (by simp)⟩⟩ q⟩
/-- classes, evaluated -/
def tCs (cs : List V) : TA := fun _ H Q => Q cs H
theorem pa_cs0 : PA X [] (tCs []) := pa_nil
theorem pa_cs {e : Expr} {es : List Expr} {v : V} {cs : List V} (he : PE X e (tC v)) (h : PA X es (tCs cs)) (hs : starEach (e :: es) X.env = (false, eval e X.env) :: starEach es X.env := by rfl) : PA X (e :: es) (tCs (v :: cs)) := pa_cons he h hs
theorem ve_isX (hp : PinE X P) (hK : X.K = K) {c : V} {u : Value} {nx : Str} {pb : Pos} (k : ClsV c u) (ok : TabOk K X.mg [u] tab) (hg : Gl X "isinstance") (hm : X.mg "isinstance" = none) (ha : VE X K p a ta Ta) (hc : PE X (.Name nx pb) (tC c))
    (he : starEach [a, .Name nx pb] X.env = (false, eval a X.env) :: starEach [.Name nx pb] X.env := by rfl) (he2 : starEach [.Name nx pb] X.env = [(false, eval (.Name nx pb) X.env)] := by rfl) (hpl : (backTo pos (starEach [.Name nx pb] X.env)).any (·.1) = false := by rfl) :
    VE X K p (.Call (.Name "isinstance" P0) [a, .Name nx pb] [] pos) (tUn (fun v H Q => rIsi K [v, c] H Q ∨ rIsX K X.mg P [v, c] H Q) ta) (TU Ta (oIsX P tab)) := by
  subst hK
  exact ⟨pe_callB (call_isX hp) hg hm (by decide +kernel) (pa_cons ha.pe (pa_cons hc pa_nil he2) he) (by decide) (by decide) he hpl, Snd.un ha.snd (lf_isX hp k ok)⟩
theorem ve_isXT (hp : PinE X P) (hK : X.K = K) {cs : List V} {us : List Value} {es : List Expr} {kt : Nat} {pt : Pos} (hl : cs.length ≤ 100) (k : Paired ClsV cs us) (ok : TabOk K X.mg us tab) (hg : Gl X "isinstance") (hm : X.mg "isinstance" = none) (ha : VE X K p a ta Ta) (hc : PA X es (tCs cs))
    (he : starEach [a, .Tuple es kt pt] X.env = (false, eval a X.env) :: starEach [.Tuple es kt pt] X.env := by rfl) (he2 : starEach [.Tuple es kt pt] X.env = [(false, eval (.Tuple es kt pt) X.env)] := by rfl) (hpl : (backTo pos (starEach [.Tuple es kt pt] X.env)).any (·.1) = false := by rfl) :
    VE X K p (.Call (.Name "isinstance" P0) [a, .Tuple es kt pt] [] pos) (tUn (rIsXL K X.mg P cs) ta) (TU Ta (oIsX P tab)) := by
  subst hK
  exact ⟨pe_callB (call_isXT hp) hg hm (by decide +kernel) (pa_cons ha.pe (pa_cons (pe_tup hc) pa_nil he2) he) (by decide) (by decide) he hpl, Snd.un ha.snd (lf_isXL hp hl k ok)⟩
theorem tab_nil {us : List Value} {b : Bool} (h : PySem.W.kitAny K (.type "NoneType") us = some b) : TabOk K mg us [("", b)] := by
  refine ⟨fun b' e => ?_, fun x b' D hx e => ?_⟩
  · have : (some b : Option Bool) = some b' := e
    cases this; exact h
  · have e0 : (x == ("" : Str)) = false := by simpa using hx
    rw [List.lookup_cons, e0] at e
    cases e
theorem tab_cons {us : List Value} {b : Bool} {x : Str} {D : Addr} (t : TabOk K mg us tab) (hm : mg x = some (.ref D)) (C : ExcC K D) (h : PySem.W.kitAny K (.ref D) us = some b) (hx : (("" : Str) == x) = false := by decide) : TabOk K mg us ((x, b) :: tab) := by
  refine ⟨fun b' e => ?_, fun y b' D' hy e hm' => ?_⟩
  · rw [List.lookup_cons, hx] at e
    exact t.non b' e
  · rw [List.lookup_cons] at e
    cases c : (y == x) with
    | true =>
      rw [c] at e
      cases e
      have : y = x := by simpa using c
      subst this
      rw [hm] at hm'; cases hm'
      exact ⟨C, h⟩
    | false =>
      rw [c] at e
      exact t.exc y b' D' hy e hm'
/-- of classes, one by one -/
theorem ka_nil {t : Value} : PySem.W.kitAny K t [] = some false := rfl
theorem ka_true {t c : Value} {r : List Value} (h : PySem.W.kitOne K t c = some true) : PySem.W.kitAny K t (c :: r) = some true := by unfold PySem.W.kitAny; rw [h]
theorem ka_false {t c : Value} {r : List Value} {b : Bool} (h : PySem.W.kitOne K t c = some false) (h2 : PySem.W.kitAny K t r = some b) : PySem.W.kitAny K t (c :: r) = some b := by unfold PySem.W.kitAny; rw [h]; exact h2
theorem ko_ref {t : Value} {C : Addr} {b : Bool} (hd : PySem.W.hasDictIn K C = true) (ht : PySem.W.typeIn K (.ref C) = some (.type "type")) (hs : PySem.W.subIn K t (.ref C) = some b) (hb : b = true ∨ (t == Value.ref C) = false) : PySem.W.kitOne K t (.ref C) = some b := by
  obtain ⟨cd, hc, _⟩ := PySem.W.any_some hd
  have e : ((PySem.W.clsIn K C).isSome && PySem.W.typeIn K (.ref C) == some (.type "type")) = true := by rw [hc, ht] <;> rfl
  unfold PySem.W.kitOne
  by_cases z : (t == Value.ref C) = true
  · rw [if_pos z]
    rcases hb with hb | hb
    · rw [hb]
    · rw [z] at hb; cases hb
  · rw [if_neg z]
    unfold PySem.W.kitCls
    dsimp only
    rw [if_pos e]; exact hs
theorem ko_ty {t : Value} {T : String} {b : Bool} (hs : PySem.W.subIn K t (.type T) = some b) (hm : PySem.W.kitMeta T = true := by decide +kernel) (hb : (t == Value.type T) = false := by rfl) : PySem.W.kitOne K t (.type T) = some b := by
  unfold PySem.W.kitOne
  rw [if_neg (by rw [hb]; exact Bool.false_ne_true)]
  unfold PySem.W.kitCls
  dsimp only
  rw [if_pos hm]; exact hs
/-- what is known to be caught -/
def Kn (K : PySem.W.Frag) (mg : Str → Option Value) (c : Value) (known : List Str) : Prop := ∀ y ∈ known, ∀ D, mg y = some (.ref D) → PySem.W.exmOne K (.ref D) c = some true
theorem kn_nil {c : Value} : Kn K mg c [] := fun y h => absurd h (by simp)
theorem kn_cons {c : Value} {y : Str} {D : Addr} {kn : List Str} (hm : mg y = some (.ref D)) (h : PySem.W.exmOne K (.ref D) c = some true) (t : Kn K mg c kn) : Kn K mg c (y :: kn) := fun z hz D' hm' => by
  rcases List.mem_cons.mp hz with e | hz
  · subst e
    rw [hm] at hm'; cases hm'; exact h
  · exact t z hz D' hm'
theorem y_isX0 {al : Bool} {QB : Bool → D → Prop} : oIsX P tab al .non QB = match tab.lookup ("" : Str) with
  | some b => K2 QB ⟨⟩ true (.bl b)
  | none => False := rfl
theorem y_isXe {al : Bool} {QB : Bool → D → Prop} {b : Addr} {x : Str} : oIsX P tab al (.exc b x) QB = (x ≠ ("" : Str) ∧ P b x ∧ match tab.lookup x with
  | some b => K2 QB ⟨⟩ true (.bl b)
  | none => False) := rfl
end
/-! ### the readings, one step each -/
def NXA (r : D) (p : Prop) : Prop := (∀ x, r ≠ excD x) ∧ p
theorem nxa_no {r : D} {p : Prop} (h : ∀ x, r ≠ excD x) : NXA r p = p := propext ⟨fun z => z.2, fun z => ⟨h, z⟩⟩
section
variable {W : VD} {S : SV} {n i : Nat} {A : VTA} {C : Ct} {dd ds : List D} {Q : SV → Bool → D → Prop} {Qx : Str → SV → Prop} {TX : VTX} {G : VTG} {mg : Str → Option Value} {known : List Str} {T : VTS} {Ts Tr : (Addr → Str → Prop) → VTS} {p : Prop} {m : Bool} {xs : List D} {k : Int} {b : Bool} {x : Str} {QD : D → List D → Prop} {mk : Mk QD}
theorem x_TCallX0 : TCallX0 n A C dd S Q Qx = A S fun S1 ks => ks.all AK.isVal = true ∧ ks.all AK.al = true ∧ ks.length + dd.length = n ∧ CK C (ks.map AK.d ++ dd) (fun r _ => XQ r (fun y => K2 Qx ⟨⟩ y S1) (K3 Q ⟨⟩ S1 true r)) ⟨⟩ := rfl
theorem x_TCallXB : TCallXB n A C dd S Q Qx = A S fun S1 ks => ks.all AK.isVal = true ∧ ks.length + dd.length = n ∧ CK C (fzL (ks.map AK.d) ++ dd) (fun r _ => XQ r (fun y => K2 Qx ⟨⟩ y S1) (r.nofz = true ∧ K3 Q ⟨⟩ S1 true r)) ⟨⟩ := rfl
theorem x_TDropX : TDropX TX W S = TX S (fun S1 _ _ => W.nx S1) W.xc := rfl
theorem x_TRetX : TRetX TX W S = TX S (fun S1 al d => al = true ∧ K2 W.rt ⟨⟩ d S1) W.xc := rfl
theorem x_TAsgX : TAsgX TX G W S = TX S (fun S1 al d => al = true ∧ G d S1 W.nx) W.xc := rfl
theorem x_TTry : TTry mg i known T Ts Tr W S = T { nx := Tr (fun _ _ => False) W, rt := W.rt, bk := W.bk, ct := W.ct, xc := fun x S1 => known.contains x = true ∧ i < S1.length ∧ ∀ a, Ts (fun a' x' => a' = a ∧ mg x' = mg x) { nx := fun S2 => i < S2.length ∧ Tr (fun a' x' => a' = a ∧ mg x' = mg x) W (S2.set i .unk), rt := W.rt, bk := fun S2 => i < S2.length ∧ W.bk (S2.set i .unk), ct := fun S2 => i < S2.length ∧ W.ct (S2.set i .unk) } (S1.set i (.exc a x)) } S := rfl
theorem x_noX : CK (noX C) ds QD mk = CK C ds (fun r d => NXA r (QD r d)) ⟨⟩ := rfl
theorem nxa_lst : NXA (.lst m xs) p = p := nxa_no fun _ e => nomatch e
theorem nxa_tup : NXA (.tup xs) p = p := nxa_no fun _ e => nomatch e
theorem nxa_int : NXA (.int k) p = p := nxa_no fun _ e => nomatch e
theorem nxa_bl : NXA (.bl b) p = p := nxa_no fun _ e => nomatch e
theorem nxa_str : NXA (.str x) p = p := nxa_no fun _ e => nomatch e
theorem nxa_non : NXA .non p = p := nxa_no fun _ e => nomatch e
end
end VL

namespace VL
open PySem PySem.Spec PyProof.Rows L2
/-! ### t.index(p), pairs of ints -/
theorem toPyL_prs : ∀ {l : List (Int × Int)}, toPyL (l.map p2D) = l.map PySem.W.Datum.toD
  | [] => rfl
  | p :: l => by rw [List.map_cons, toPyL, toPyL_prs]; rfl
theorem beq_prs : (instBEqOfDecidableEq : BEq (Int × Int)) = instBEqProd := by
  have e : ∀ x y : Int × Int, instBEqOfDecidableEq.beq x y = instBEqProd.beq x y := fun x y => by
    rw [Bool.eq_iff_iff]
    constructor
    · intro h; rw [of_decide_eq_true h]; exact beq_self_eq_true (α := Int × Int) y
    · intro h; exact decide_eq_true (eq_of_beq (α := Int × Int) h)
  have f : instBEqOfDecidableEq.beq = (instBEqProd : BEq (Int × Int)).beq := by funext x y; exact e x y
  show BEq.mk instBEqOfDecidableEq.beq = BEq.mk (instBEqProd : BEq (Int × Int)).beq
  rw [f]
def rTIndexP (K : PySem.W.Frag) : V → List V → Hp → VK → Prop := fun x xs H Q => ∃ (y : V) (a : Addr) (vs : List V) (ps : List (Int × Int)) (p : Int × Int), x = .ref a ∧ xs = [y] ∧ SqT K H a vs ∧ DpAll K H vs (toPyL (ps.map p2D)) ∧ Dp K H y (toPy (p2D p)) ∧ p ∈ ps ∧ Q (.int (ps.idxOf p : Nat)) H
theorem mt_tindexP {X : Cx} (hu : X.A.units + 65 < cLine) : MtR X "tuple.index" (rTIndexP X.K) := by
  intro pins s σ H x xs v us Q I rx rv h
  obtain ⟨y, a, vs, ps, p, rfl, rfl, hq, da, hy, hp, q⟩ := h
  cases rx
  obtain ⟨u, rfl, ru⟩ := Vals.one rv
  obtain ⟨its, r, pl, _⟩ := I.tuple hq
  obtain ⟨as, r1⟩ := Dp.readsAll I _ vs its da r
  obtain ⟨bs, r2⟩ := Dp.reads I _ y u hy ru
  rw [toPyL_prs] at r1
  have hd : PySem.W.Datum.depth (Int × Int) ≤ 3 := by decide
  have eb := beq_prs
  exact PySem.W.index_tuple_datum (x := p) (xs := ps) pl ⟨as, r1⟩ ⟨bs, r2⟩ (by omega) hp ⟨.int _, H, I.tok _, ⟨_, rfl⟩, by rw [eb]; exact q⟩
def oTIndexP : O2 := fun _ d1 _ d2 Q => ∃ (ps : List (Int × Int)) (p : Int × Int), d1 = .tup (ps.map p2D) ∧ d2 = p2D p ∧ p ∈ ps ∧ Q true (.int (ps.idxOf p : Nat))
theorem lf_tindexP {K : PySem.W.Frag} : Lf2 K (fun x y => rTIndexP K x [y]) oTIndexP := fun F H al1 d1 v1 q1 al2 d2 v2 q2 Q R s o1 o2 dj q k => by
  obtain ⟨ps, p, rfl, rfl, hp, q⟩ := q
  have sh1 := pln_shaped (k := 5) (d := p2D p) rfl (by decide)
  have dp1 := o2.rep.dp s (SeqAt.canLay_of_shaped sh1)
  have sh2 := pln_shaped (k := 6) (d := .tup (ps.map p2D)) (by rw [pln]; exact plnL_prs) (by decide)
  rw [toPy] at sh2
  obtain ⟨a, vs, rfl, ha, rl⟩ := tup_parts o1.rep
  exact ⟨v2, a, vs, ps, p, rfl, rfl, s.seqT ha, rl.dp s (canLayAll_of_tup sh2), dp1, hp, k F H true _ _ [] (Ans.int s) q⟩
theorem c_tindexP {al1 al2 : Bool} {l : List (Int × Int)} {a b : Int} {QB : Bool → D → Prop} {mk : Mk QB} : CO2 oTIndexP al1 (.tup (l.map p2D)) al2 (.tup [.int a, .int b]) QB mk = ((a, b) ∈ l ∧ K2 QB ⟨⟩ true (.int (l.idxOf (a, b) : Nat))) := propext
  ⟨fun ⟨ps, p, e, e2, h, q⟩ => by
    injection e with e
    have : l = ps := prsL_inj e
    subst this
    have : (a, b) = p := p2D_inj e2
    subst this
    exact ⟨h, q⟩, fun ⟨h, q⟩ => ⟨l, (a, b), rfl, rfl, h, q⟩⟩
section
variable {X : Cx} {K : PySem.W.Frag} {a b : Expr} {pos apos : Pos} {p1 p2 al1 al2 : Bool} {Ta Tb : VT} {ta tb : TE} {d1 d2 : D} {QB : Bool → D → Prop}
theorem ve_tindexP (hK : X.K = K) (hu : X.A.units + 65 < cLine) (ha : VE X K p1 a ta Ta) (hb : VE X K p2 b tb Tb) (m : M1 X a "index" apos b pos := by exact ⟨rfl, rfl, rfl, rfl⟩) : VE X K (p1 && p2) (.Call (.Attribute a "index" apos) [b] [] pos) (tTM K (rTIndexP K) ta tb) (TT1 p2 Ta Tb oTIndexP) := by
  subst hK
  exact ⟨pe_tm PySem.F.slot_tuple_index PySem.F.type_tuple_index (mt_tindexP hu) ha.pe hb.pe m, Snd.t1 ha.snd hb.snd lf_tindexP⟩
theorem z_tindexP : oTIndexP al1 d1 al2 d2 QB = CO2 oTIndexP al1 d1 al2 d2 QB ⟨⟩ := rfl
end
end VL

namespace VL
open PySem PySem.Spec PyProof.Rows L2
/-! ### d.setdefault(k, {}).setdefault(l, z) -/
section
variable {X : Cx} {K : PySem.W.Frag} {pin : List Nat} {F H H' : Hp} {σ : L2.St} {S : SV} {fp f1 f2 f3 f2' : List Addr} {i : Nat} {v : V} {c c' : D} {V' : VD} {M : Ends}
/-- the thing in a slot has become another one, its parts in its old place or new -/
theorem Lk.rew (l : Lk X K pin F H σ fp V' M) (g : Good K F H σ S fp) (ei : σ[i]? = some (some v)) (efp : fp = f1 ++ (f2 ++ f3))
    (pt : ∀ {F' H' : Hp} {d' : D} {ov' : Option V} {f2' : List Addr}, Sub F F' → (∀ a ∈ f1 ++ f3, ∀ o, H a = some o → H' a = some o) → RepO K F' H' d' ov' f2' → RepS K F' H' (S.set i d') (σ.set i ov') (f1 ++ (f2' ++ f3)))
    (hk : ∀ b o, b ∉ f2 → H b = some o → H' b = some o) (rn : Rep K F H' c' v f2') (nd : f2'.Nodup) (hf : ∀ b ∈ f2', b ∈ f2 ∨ H b = none) (q : V'.nx (S.set i c')) : M.nx σ H' := by
  have ndp := g.nd
  rw [efp, List.nodup_append] at ndp
  obtain ⟨n1, n2, n3⟩ := ndp
  rw [List.nodup_append] at n2
  have in2 : ∀ b ∈ f2, b ∈ fp := fun b hb => by rw [efp]; simp [hb]
  have off : ∀ b ∈ f1 ++ f3, b ∉ f2 := fun b hb hz => by
    rcases List.mem_append.mp hb with y | y
    · exact n3 b y b (List.mem_append_left _ hz) rfl
    · exact n2.2.2 b hz b y rfl
  have in13 : ∀ b ∈ f1 ++ f3, b ∈ fp := fun b hb => by
    rw [efp]
    rcases List.mem_append.mp hb with y | y <;> simp [y]
  have new : ∀ b ∈ f2', b ∉ f1 ++ f3 := fun b hb hz => by
    rcases hf b hb with y | y
    · exact off b hz y
    · obtain ⟨o, e, _⟩ := g.rep.mu b (in13 b hz)
      rw [y] at e; cases e
  have rs : RepS K F H' (S.set i c') (σ.set i (some v)) (f1 ++ (f2' ++ f3)) := pt Sub.refl (fun b hb o e => hk b o (off b hb) e) (show RepO K F H' c' (some v) f2' from rn)
  rw [set_self ei] at rs
  have mem : ∀ b, b ∈ f1 ++ (f2' ++ f3) → b ∈ f2' ∨ b ∈ f1 ++ f3 := fun b hb => by
    rcases List.mem_append.mp hb with y | y
    · exact .inr (List.mem_append_left _ y)
    · rcases List.mem_append.mp y with y | y
      · exact .inl y
      · exact .inr (List.mem_append_right _ y)
  have offF : ∀ b o, F b = some o → b ∉ f2 := fun b o e z => by rw [g.dis b (in2 b z)] at e; cases e
  refine l.nx F H' σ (S.set i c') (f1 ++ (f2' ++ f3)) ⟨fun b o e => hk b o (offF b o e) (g.sub b o e), rs, ?_, fun b hb => ?_⟩ ⟨Sub.refl, fun b o e n => hk b o (fun z => n (in2 b z)) e, fun b h => .inl h, fun b hb => ?_⟩ Pin.refl q
  · refine List.nodup_append.mpr ⟨n1, List.nodup_append.mpr ⟨nd, n2.2.1, fun b hb d hd e => ?_⟩, fun b hb d hd e => ?_⟩
    · subst e; exact new b hb (List.mem_append_right _ hd)
    · subst e
      rcases List.mem_append.mp hd with y | y
      · exact new b y (List.mem_append_left _ hb)
      · exact n3 b hb b (List.mem_append_right _ y) rfl
  · rcases mem b hb with y | y
    · rcases hf b y with z | z
      · exact g.dis b (in2 b z)
      · cases e : F b with
        | none => rfl
        | some o => have := g.sub b o e; rw [z] at this; cases this
    · exact g.dis b (in13 b y)
  · rcases mem b hb with y | y
    · exact (hf b y).imp (in2 b) id
    · exact .inl (in13 b y)
def SetDD (ks : List Key) (ds : List D) (k1 k2 : Key) (z : Int) (G : D → Prop) : Prop := ks.length < 1000000 ∧ match idxK ks k1 with
  | none => G (.dK true (ks ++ [k1]) (ds ++ [.dK true [k2] [.int z]]))
  | some j => ∃ ks2 ds2, ds[j]? = some (.dK true ks2 ds2) ∧ ks2.length < 1000000 ∧ (inK ks2 k2 = true → G (.dK true ks ds)) ∧ (inK ks2 k2 = false → G (.dK true ks (ds.set j (.dK true (ks2 ++ [k2]) (ds2 ++ [.int z])))))
def TSetDD (i j1 j2 : Nat) (z : Int) : VTS := fun V S => ∃ (ks : List Key) (ds : List D) (a b : Int), S[i]? = some (.dK true ks ds) ∧ S[j1]? = some (.int a) ∧ S[j2]? = some (.int b) ∧ SetDD ks ds (.inl a) (.inl b) z fun c' => V.nx (S.set i c')
theorem slot_int (g : Good K F H σ S fp) {j : Nat} {a : Int} (e : S[j]? = some (.int a)) : σ[j]? = some (some (.int a)) := by
  obtain ⟨ov, f1, f2, f3, e1, _, ro, _⟩ := g.rep.lens e
  cases ov with
  | none => obtain ⟨z, _⟩ := ro; cases z
  | some v =>
    have ro : Rep K F H (.int a) v f2 := ro
    rw [Rep] at ro
    rw [e1, ro.1]
theorem vs_setdd {en e1 e2 : Expr} {ap1 ap2 cp1 cp2 dp zp pos : Pos} {zj : Nat} {z : Int} (i j1 j2 : Nat) (hn : PE X en (tVar i)) (h1 : PE X e1 (tVar j1)) (h2 : PE X e2 (tVar j2)) (m1 : M2 X en "setdefault" ap1 e1 (.Dict [] [] dp) cp1) (m2 : M2 X (.Call (.Attribute en "setdefault" ap1) [e1, .Dict [] [] dp] [] cp1) "setdefault" ap2 e2 (.Constant (.int z) zj zp) cp2)
    (hs : swapsWith (.Call (.Attribute (.Call (.Attribute en "setdefault" ap1) [e1, .Dict [] [] dp] [] cp1) "setdefault" ap2) [e2, .Constant (.int z) zj zp] [] cp2) none pos.line X.env = pure false := by rfl) :
    VS X K pin (.Expr (.Call (.Attribute (.Call (.Attribute en "setdefault" ap1) [e1, .Dict [] [] dp] [] cp1) "setdefault" ap2) [e2, .Constant (.int z) zj zp] [] cp2) pos) (TSetDD i j1 j2 z) := by
  refine ⟨_, ps_expr (pe_dsetd (pe_dsetd hn h1 pe_dnewK m1) h2 pe_int m2) hs, fun F H σ S fp V M g q l => ?_⟩
  obtain ⟨ks, ds, a1, a2, es, s1, s2, hlen, q⟩ := q
  have t1 := slot_int g s1
  have t2 := slot_int g s2
  obtain ⟨ov, f1, f2, f3, ei, efp, ro, pt⟩ := g.rep.lens es
  cases ov with
  | none => obtain ⟨y, _⟩ := ro; cases y
  | some v =>
  have ro : Rep K F H (.dK true ks ds) v f2 := ro
  rw [Rep] at ro
  obtain ⟨a, vs, fq, rfl, el, rl, ⟨_, ha, rfl⟩ | ⟨y, _⟩⟩ := ro
  rotate_left
  · cases y
  have hlv : ks.length = vs.length := el.trans rl.len
  have ndp := g.nd
  rw [efp, List.nodup_append] at ndp
  have nf := (List.nodup_append.mp ndp.2.1).1
  obtain ⟨na, nq⟩ := List.nodup_cons.mp nf
  refine ⟨.ref a, ei, a, rfl, .inl ⟨_, Rd.of ha⟩, .int a1, t1, fun p hp => ?_⟩
  have pa : p ≠ a := fun e => by rw [e, ha] at hp; cases hp
  have ha1 : upd H p (.dK []) a = some (.dK (ks.zip vs)) := by rw [upd_ne (Ne.symm pa)]; exact ha
  have pq : p ∉ fq := fun hm => by
    obtain ⟨o, e, _⟩ := rl.mu p hm
    rw [hp] at e; cases e
  have lz : (ks.zip vs).length < sizeLine := by rw [List.length_zip, line_eq]; omega
  refine ⟨ks.zip vs, .inl a1, ha1, rfl, lz, fun w hw => ?_, fun hw => ?_⟩
  · -- it stands there
    rw [valV_zip hlv] at hw
    cases ej : idxK ks (.inl a1) with
    | none => rw [ej] at hw; cases hw
    | some j =>
    rw [ej] at hw q
    obtain ⟨ks2, ds2, e2, hl2, qi, qn⟩ := q
    have hw : vs[j]? = some w := hw
    obtain ⟨u, g1, g2, g3, eu, efq, rb, pb⟩ := rl.lens e2
    rw [hw] at eu
    cases eu
    rw [Rep] at rb
    obtain ⟨b, vs2, fb, rfl, el2, rl2, ⟨_, hb, rfl⟩ | ⟨y, _⟩⟩ := rb
    rotate_left
    · cases y
    have hlv2 : ks2.length = vs2.length := el2.trans rl2.len
    have bq : b ∈ fq := by rw [efq]; simp
    have pb' : p ≠ b := fun e => pq (e ▸ bq)
    have ab : a ≠ b := fun e => na (e ▸ bq)
    have hb1 : upd H p (.dK []) b = some (.dK (ks2.zip vs2)) := by rw [upd_ne (Ne.symm pb')]; exact hb
    have lz2 : (ks2.zip vs2).length < sizeLine := by rw [List.length_zip, line_eq]; omega
    refine ⟨b, rfl, .inl ⟨_, Rd.of hb1⟩, .int a2, t2, ks2.zip vs2, .inl a2, hb1, rfl, lz2, fun w2 hw2 => ?_, fun hw2 => ?_⟩
    · -- and so does this
      have hin : inK ks2 (.inl a2) = true := by
        rw [inK_iff]
        rw [valV_zip hlv2] at hw2
        cases e : idxK ks2 (.inl a2) with
        | none => rw [e] at hw2; cases hw2
        | some j2 => exact List.mem_of_getElem? (idxK_at e)
      refine l.rew (f2' := a :: fq) g ei efp pt (fun y o _ e => by
        have : y ≠ p := fun z => by rw [z, hp] at e; cases e
        rw [upd_ne this]; exact e) ?_ nf (fun y hy => .inl hy) (qi hin)
      rw [Rep]
      exact ⟨a, vs, fq, rfl, el, rl.mono Sub.refl (fun y hy o e => by
        have : y ≠ p := fun z => pq (z ▸ hy)
        rw [upd_ne this]; exact e), .inl ⟨rfl, ha1, rfl⟩⟩
    · -- a new one within
      have hnk : idxK ks2 (.inl a2) = none := by
        rw [valV_zip hlv2] at hw2
        cases e : idxK ks2 (.inl a2) with
        | none => rfl
        | some j2 =>
          rw [e] at hw2
          have h1 : j2 < ks2.length := (List.getElem?_eq_some_iff.mp (idxK_at e)).1
          have hw2 : vs2[j2]? = none := hw2
          rw [List.getElem?_eq_getElem (by omega)] at hw2; cases hw2
      have hin : inK ks2 (.inl a2) = false := by
        cases e : inK ks2 (.inl a2) with
        | false => rfl
        | true => obtain ⟨j2, e2, _⟩ := inK_idx e; rw [hnk] at e2; cases e2
      have hk : ∀ y o, y ∉ [b] → H y = some o → upd (upd H p (.dK [])) b (.dK (putK (ks2.zip vs2) (.inl a2) (.int z))) y = some o := fun y o hy e => by
        have h1 : y ≠ b := fun z => hy (by rw [z]; exact List.mem_singleton.mpr rfl)
        have h2 : y ≠ p := fun z => by rw [z, hp] at e; cases e
        rw [upd_ne h1, upd_ne h2]; exact e
      have nq2 := nq
      rw [efq, List.nodup_append] at nq2
      obtain ⟨n1, n2, n3⟩ := nq2
      rw [List.nodup_append] at n2
      obtain ⟨nb, nfb⟩ := List.nodup_cons.mp n2.1
      refine l.rew (f2' := a :: (g1 ++ ((b :: fb) ++ g3))) g ei efp pt (fun y o hy e => hk y o (fun z => hy (List.mem_cons_of_mem _ (by rw [List.mem_singleton.mp z]; exact bq))) e) ?_ (by rw [← efq]; exact nf) (fun y hy => .inl (by rw [efq]; exact hy)) (qn hin)
      have inner : Rep K F (upd (upd H p (.dK [])) b (.dK (putK (ks2.zip vs2) (.inl a2) (.int z)))) (.dK true (ks2 ++ [.inl a2]) (ds2 ++ [.int z])) (.ref b) (b :: fb) := by
        rw [Rep]
        have r2 : RepL K F (upd (upd H p (.dK [])) b (.dK (putK (ks2.zip vs2) (.inl a2) (.int z)))) ds2 vs2 fb := rl2.mono Sub.refl fun y hy o e => hk y o (fun z => nb (List.mem_singleton.mp z ▸ hy)) e
        have r3 : RepL K F (upd (upd H p (.dK [])) b (.dK (putK (ks2.zip vs2) (.inl a2) (.int z)))) [.int z] [.int z] [] := dd_int _ _
        have := r2.app r3
        rw [List.append_nil] at this
        refine ⟨b, vs2 ++ [.int z], fb, rfl, by simp [el2], this, .inl ⟨rfl, ?_, rfl⟩⟩
        rw [upd_same, L2.putK_new _ hw2, List.zip_append hlv2]; rfl
      have outer := pb (d' := .dK true (ks2 ++ [.inl a2]) (ds2 ++ [.int z])) (f2' := b :: fb) (Sub.refl (F := F)) (fun y hy o e => hk y o (fun z => by
        have z := List.mem_singleton.mp z
        subst z
        rcases List.mem_append.mp hy with w | w
        · exact n3 y w y (by simp) rfl
        · exact n2.2.2 y (by simp) y w rfl) e) inner
      rw [set_self hw] at outer
      rw [Rep]
      exact ⟨a, vs, _, rfl, by rw [List.length_set]; exact el, outer, .inl ⟨rfl, by rw [upd_ne ab]; exact ha1, rfl⟩⟩
  · -- a new one
    have hnk : idxK ks (.inl a1) = none := by
      rw [valV_zip hlv] at hw
      cases e : idxK ks (.inl a1) with
      | none => rfl
      | some j =>
        rw [e] at hw
        have h1 : j < ks.length := (List.getElem?_eq_some_iff.mp (idxK_at e)).1
        have hw : vs[j]? = none := hw
        rw [List.getElem?_eq_getElem (by omega)] at hw; cases hw
    rw [hnk] at q
    have hp2 : upd (upd H p (.dK [])) a (.dK (putK (ks.zip vs) (.inl a1) (.ref p))) p = some (.dK []) := by rw [upd_ne pa, upd_same]
    refine ⟨p, rfl, .inl ⟨_, Rd.of hp2⟩, .int a2, t2, [], .inl a2, hp2, rfl, by show 0 < sizeLine; rw [line_eq]; decide, fun w2 hw2 => (by cases hw2), fun _ => ?_⟩
    generalize hG : upd (upd (upd H p (.dK [])) a (.dK (putK (ks.zip vs) (.inl a1) (.ref p)))) p (.dK (putK [] (.inl a2) (.int z))) = G
    have hk : ∀ y o, y ∉ [a] → H y = some o → G y = some o := fun y o hy e => by
      have h1 : y ≠ a := fun z => hy (by rw [z]; exact List.mem_singleton.mpr rfl)
      have h2 : y ≠ p := fun z => by rw [z, hp] at e; cases e
      rw [← hG, upd_ne h2, upd_ne h1, upd_ne h2]; exact e
    have ga : G a = some (.dK (ks.zip vs ++ [(.inl a1, .ref p)])) := by rw [← hG, upd_ne (Ne.symm pa), upd_same, L2.putK_new _ hw]
    have gp : G p = some (.dK [(.inl a2, .int z)]) := by rw [← hG, upd_same]; rfl
    refine l.rew (f2' := a :: (fq ++ ([p] ++ []))) g ei efp pt (fun y o hy e => hk y o (fun z => hy (by rw [List.mem_singleton.mp z]; exact List.mem_cons_self)) e) ?_ ?_ (fun y hy => ?_) q
    · rw [Rep]
      have r1 : RepL K F G ds vs fq := rl.mono Sub.refl fun y hy o e => hk y o (fun z => na (List.mem_singleton.mp z ▸ hy)) e
      have r2 : RepL K F G [.dK true [.inl a2] [.int z]] [.ref p] ([p] ++ []) := by
        rw [RepL]
        refine ⟨.ref p, [], [p], [], rfl, rfl, ?_, by rw [RepL]; exact ⟨rfl, rfl⟩⟩
        rw [Rep]
        exact ⟨p, [.int z], [], rfl, rfl, dd_int _ _, .inl ⟨rfl, gp, rfl⟩⟩
      refine ⟨a, vs ++ [.ref p], _, rfl, by simp [el], r1.app r2, .inl ⟨rfl, ?_, rfl⟩⟩
      rw [ga, List.zip_append hlv]; rfl
    · refine List.nodup_cons.mpr ⟨fun hm => ?_, List.nodup_append.mpr ⟨nq, by simp, fun y hy w hw e => ?_⟩⟩
      · rcases List.mem_append.mp hm with y | y
        · exact na y
        · rw [List.append_nil, List.mem_singleton] at y; exact pa y.symm
      · rw [List.append_nil, List.mem_singleton] at hw
        subst e; subst hw; exact pq hy
    · rcases List.mem_cons.mp hy with rfl | hy
      · exact .inl List.mem_cons_self
      · rcases List.mem_append.mp hy with y | y
        · exact .inl (List.mem_cons_of_mem _ y)
        · rw [List.append_nil, List.mem_singleton] at y; subst y; exact .inr hp
end
theorem x_TSetDD {i j1 j2 : Nat} {z : Int} {V : VD} {S : SV} : TSetDD i j1 j2 z V S = ∃ (ks : List Key) (ds : List D) (a b : Int), S[i]? = some (.dK true ks ds) ∧ S[j1]? = some (.int a) ∧ S[j2]? = some (.int b) ∧ SetDD ks ds (.inl a) (.inl b) z fun c' => K1 V.nx ⟨⟩ (S.set i c') := rfl
end VL

namespace VL
open PySem PySem.Spec PyProof.Rows L2
/-! ### xs.pop() -/
section
variable {K : PySem.W.Frag} {p1 : Bool} {ta : TE} {Tp : VTP}
def TM0 (ty : String) (Tp : VTP) (O : OM Unit) : VT := fun S Q => Tp S fun S1 i ps => isTy ty (atP S1 i ps) ∧ match atP S1 i ps with
  | some c => O c () fun c' r => Q (putP S1 i ps c') true r
  | none => False
theorem Snd.m0 {ty : String} {r : V → List V → Hp → VK → Prop} {O : OM Unit} (l : LfM0 K (fun x => r x []) O) (ow : Own0 O) (ha : SndP K p1 ta Tp) : Snd K false (tBM0 K ty r ta) (TM0 ty Tp O) := fun F H σ S fp Q R g q k => by
  refine ha F H σ S fp _ _ g q fun F1 H1 S1 fp1 i ps u g1 st1 pu1 at1 q1 => ?_
  refine ⟨tyV_at g1 at1 q1.1, ?_⟩
  obtain ⟨_, q2⟩ := q1
  cases ea : atP S1 i ps with
  | none => rw [ea] at q2; exact q2.elim
  | some cc =>
  rw [ea] at q2
  simp only at q2
  obtain ⟨f1, f2, f3, ef, rc, pt⟩ := g1.at at1 ea
  obtain ⟨aa, rfl, haf⟩ := own_at rc (ow _ _ _ q2)
  have nf2 : f2.Nodup := by
    have := g1.nd
    rw [ef] at this
    exact (List.nodup_append.mp (List.nodup_append.mp this).2.1).1
  refine l F1 H1 aa cc f2 _ R g1.sub rc haf nf2 q2 fun H3 c' fc' dd vv fr w q3 => ?_
  obtain ⟨g3, st3, n3, s3⟩ := wr_good g1 ef haf (fa := []) (fun x hx => by cases hx) w pt
  have back : ∀ x ∈ ([] : List Addr) ++ fp1, x ∈ fp ∨ H x = none := fun x hx => by
    rcases List.mem_append.mp hx with y | y
    · cases y
    · exact st1.own x y
  refine k F1 H3 _ _ true dd vv fr ⟨g3, w.rd, ⟨st1.fsub.trans st3.fsub, fun x o e hn => ?_, fun x hh => ?_, fun x hx => ?_⟩, fun _ => ⟨n3, fun x hx => ⟨(s3 x hx).1, (s3 x hx).2.1, back x (List.mem_append.mpr (s3 x hx).2.2)⟩⟩, (fun z => nomatch z)⟩ q3
  · refine st3.keep x o (st1.keep x o e hn) fun y => ?_
    rcases back x y with w | w
    · exact hn w
    · rw [e] at w; cases w
  · rcases st3.fnew x hh with y | y | y
    · exact st1.fnew x y
    · exact .inr (back x y)
    · exact .inr (st1.back (.inr y))
  · rcases st3.own x hx with y | y
    · exact back x y
    · exact st1.back (.inr y)
def oPop : OM Unit := fun c _ Q => match c with
  | .lst true xs => match xs[xs.length - 1]? with
    | some y => y.imm = true ∧ Q (.lst true xs.dropLast) y
    | none => False
  | _ => False
theorem own_oPop : Own0 oPop := fun c kd Q h => by
  cases c <;> first | exact h.elim | skip
  rename_i m xs
  cases m <;> first | exact h.elim | trivial
theorem lf_pop : LfM0 K (fun x => rPop x []) oPop := fun F H a c fc Q R s rc ha nd q k => by
  cases c <;> first | exact q.elim | skip
  rename_i m xs
  cases m with
  | false => exact q.elim
  | true =>
  unfold oPop at q
  simp only at q
  cases e : xs[xs.length - 1]? with
  | none => rw [e] at q; exact q.elim
  | some y =>
  rw [e] at q
  obtain ⟨im, q⟩ := q
  obtain ⟨vs, fi, hH, rl, rfl⟩ := own_list rc
  obtain ⟨na, ni⟩ := List.nodup_cons.mp nd
  have el : xs.length = vs.length := rl.len
  obtain ⟨h1, u, h2, h3⟩ := (rl.other (o := .lst vs.dropLast) na).erase (xs.length - 1) e im
  have lt : xs.length - 1 < xs.length := (List.getElem?_eq_some_iff.mp e).1
  have e1 : xs.eraseIdx (xs.length - 1) = xs.dropLast := by
    rw [List.dropLast_eq_take, List.eraseIdx_eq_take_drop_succ, show xs.length - 1 + 1 = xs.length by omega, List.drop_length, List.append_nil]
  have e2 : vs.eraseIdx (xs.length - 1) = vs.dropLast := by
    rw [List.dropLast_eq_take, List.eraseIdx_eq_take_drop_succ, el, show vs.length - 1 + 1 = vs.length by omega, List.drop_length, List.append_nil]
  rw [e1, e2] at h1
  refine ⟨a, vs, u, rfl, rfl, hH, by rw [← el]; exact h2, ?_⟩
  refine k _ _ _ y u [] (wr_list (fi' := fi) (vs := vs) (xs := xs) rfl h1 h3 ?_ ?_ fun b hb => ?_) q
  · rw [List.append_nil]; exact ni
  · rw [List.append_nil]; exact na
  · rw [List.append_nil] at hb; exact .inl hb
end
section
variable {X : Cx} {K : PySem.W.Frag} {a : Expr} {pos apos : Pos} {p1 : Bool} {ta : TE} {Tp : VTP}
theorem ve_pop (hK : X.K = K) (ha : VP X K p1 a ta Tp) (hbase : attributeBase a "pop" X.env (eval a X.env) = eval a X.env := by rfl) (hline : (apos.endLine == pos.line) = true := by rfl) : VE X K false (.Call (.Attribute a "pop" apos) [] [] pos) (tBM0 K "list" rPop ta) (TM0 "list" Tp oPop) := by
  subst hK
  exact ⟨pe_bm0 PySem.F.plainAttrs_list PySem.F.slot_list_pop PySem.F.type_list_pop mt_pop ha.pe hbase hline, Snd.m0 lf_pop own_oPop ha.snd⟩
end
section
variable {S : SV} {Q : SV → Bool → D → Prop} {QD : D → D → Prop} {xs : List D} {Tp : VTP} {OO : OM Unit} {ty : String}
theorem x_TM0 : TM0 ty Tp OO S Q = Tp S fun S1 i ps => isTy ty (atP S1 i ps) ∧ (match atP S1 i ps with | some c => OO c () fun c' r => K3 Q ⟨⟩ (putP S1 i ps c') true r | none => False) := rfl
theorem y_pop : oPop (.lst true xs) () QD = (match xs[xs.length - 1]? with | some y => y.imm = true ∧ K2 QD ⟨⟩ (.lst true xs.dropLast) y | none => False) := rfl
theorem y_eqLTnil {neg al1 al2 m m' : Bool} {l : List (List Int)} {QB : Bool → D → Prop} : oEqB neg al1 (.lst m (l.map fun x => .tup (x.map D.int))) al2 (.lst m' []) QB = K2 QB ⟨⟩ true (.bl (neg != decide (l = []))) := y_eqLTs (l' := [])
end
end VL

namespace VL
open PySem PySem.Spec PyProof.Rows L2 RT
/-! ### tuple(reversed(t)), t a tuple -/
theorem nolen_rt : typeLookup (.type "reversed") "__len__" = pure none := by rw [typeLookup_type, builtinLookup_eq_fast]; kernel_rfl
theorem slot_rt_hint : Slot "reversed" "__length_hint__" "reversed.__length_hint__" :=
  .of (owner := "reversed") (n := "__length_hint__") (by rw [typeLookup_type, builtinLookup_eq_fast]; kernel_rfl) (by decide +kernel) (by decide +kernel) (by decide +kernel)
    (by first | exact .inl (by decide +kernel) | exact .inr (by decide +kernel)) (by rw [isSubtype_type]; kernel_rfl)
theorem type_rt_hint : typeOf (.builtin "reversed.__length_hint__") = pure (.type "method_descriptor") := by show builtinType _ = _; rw [builtinType_eq_fast]; kernel_rfl
theorem entry_rt_hint : entryFor table "reversed.__length_hint__" = some Builtin.«reversed.__length_hint__» := entryFor_of_tree (by kernel_rfl)
theorem args_rt_hint (a : Value) : argsOk "reversed.__length_hint__" ⟨[a], []⟩ := by
  unfold argsOk; rw [signature?_of (id := "reversed.__length_hint__") (n := ['_', '_', 't', 'n', 'i', 'h', '_', 'h', 't', 'g', 'n', 'e', 'l', '_', '_']) (o := ['d', 'e', 's', 'r', 'e', 'v', 'e', 'r']) (by kernel_rfl) owner_rt]; kernel_rfl
section
variable {prog : Program} {w : World} {A : Around} {E : Value → Shared → Prop} {s : Shared}
theorem call_rt_hint {it t : Addr} {items : Array Value} {Q : Value → Shared → Prop} (hit : IsRt s.heap it t ((items.size : Int) - 1)) (ht : IsTup s.heap t items) (hsz : items.size ≤ sizeLine)
    (h : ∀ t' k, Q (.int items.size t') { s with toks := k }) : wpAny (model prog w) A (call (.builtin "reversed.__length_hint__") [.ref it]) Q E s := by
  obtain ⟨o, ho, hc, hd⟩ := id hit
  rw [sizeLine_eq] at hsz
  refine wpAny_call_entry slot_rt_hint hit.typeIs entry_rt_hint ?_ (args_rt_hint _)
  unfold Builtin.«reversed.__length_hint__»
  refine wpAny_bind (wpAny_of_eq (a := Value.ref it) rfl ?_)
  try dsimp only
  refine wpAny_bind (wpAny_field ho hd (x := .ref t) rfl ?_)
  try dsimp only
  rw [if_neg (show ¬ ((Value.ref t == Value.none) = true) from Bool.false_ne_true)]
  try dsimp only
  refine wpAny_bind (len_tuple ht (by omega) ?_)
  refine wpAny_bind (wpAny_of_eq (a := some ((items.size : Nat) : Int)) rfl ?_)
  try dsimp only
  refine wpAny_bind (wpAny_field (s := { s with toks := s.toks + 1 + 1 }) ho hd (x := rawInt ((items.size : Int) - 1)) rfl ?_)
  try dsimp only
  show wpAny _ _ (if ((items.size : Nat) : Int) < ((items.size : Int) - 1) + 1 then _ else _) _ _ _
  rw [if_neg (by omega)]
  refine wpAny_bind (wpAny_mkInt ?_)
  refine wpAny_pure ⟨_, rfl, ?_⟩
  rw [show ((items.size : Int) - 1) + 1 = items.size by omega]
  exact h _ _
theorem hint_rt {it t : Addr} {items : Array Value} {Q : Bool → Shared → Prop} (hit : IsRt s.heap it t ((items.size : Int) - 1)) (ht : IsTup s.heap t items) (hsz : items.size ≤ sizeLine)
    (h : ∀ k, Q ((items.size : Int) != 0) { s with toks := k }) : wpAny (model prog w) A (Builtin.List.listLengthHint (.ref it)) Q E s := by
  have hT := hit.typeIs
  unfold Builtin.List.listLengthHint
  refine wpAny_bind (wpAny_specialOf hT nolen_rt ?_)
  show wpAny _ A (specialOf (Value.ref it) (Str.ofString "__length_hint__") >>= _) _ _ _
  refine wpAny_bind (wpAny_specialOf hT slot_rt_hint.lookup ?_)
  generalize hid : ("reversed.__length_hint__" : String) = id0
  wp_delta
  rw [show splitId id0 = some ("reversed", "__length_hint__") from by subst hid; decide +kernel]
  subst hid
  refine wpAny_bind (wpAny_isInstance (b := true) hT (by rw [isSubtype_type]; kernel_rfl) ?_)
  refine wpAny_ite_split (fun hab => absurd hab (by decide)) (fun _ => ?_)
  refine wpAny_ite_split (fun hab => absurd hab (by decide +kernel)) (fun _ => ?_)
  refine wpAny_bind (wpAny_rule ?_)
  unfold bindSpecial
  refine wpAny_bind (wpAny_bind (wpAny_of_eq type_rt_hint ?_))
  try dsimp only
  rw [if_pos (by decide)]
  refine wpAny_pure ?_
  try dsimp only
  refine wpAny_bind (wpAny_attempt (call_rt_hint hit ht hsz fun t' k => ?_))
  rw [sizeLine_eq] at hsz
  try dsimp only
  have ea : asInt? (Value.int (items.size : Int) t') = pure (some (items.size : Int)) := rfl
  rw [ea, pure_bind]
  dsimp only
  have f1 : Builtin.List.listFitsIndex ((items.size : Nat) : Int) = true := by unfold Builtin.List.listFitsIndex; rw [Bool.and_eq_true, decide_eq_true_eq, decide_eq_true_eq]; omega
  have f2 : Builtin.List.listTooLong ((items.size : Nat) : Int).toNat = false := by simp [Builtin.List.listTooLong, sizeLine]; omega
  rw [if_neg (by rw [f1]; decide), if_neg (by omega), if_neg (by rw [f2]; decide)]
  exact wpAny_pure (h k)
theorem Walks.tupRev (hh : A.handled = none) (I t : Addr) (hne : t ≠ I) (items : Array Value) (hsz : items.size ≤ sizeLine) :
    Walks prog w A I [I, t] [I] items.size (fun i v => items[items.size - 1 - i]? = some v) (fun i h => i ≤ items.size ∧ IsRt h I t ((items.size : Int) - 1 - (i : Int)) ∧ IsTup h t items) where
  sub := fun b hb => by simp at hb; simp [hb]
  frame := fun _ _ _ x hk => ⟨x.1, x.2.1.at fun o e => hk I (by simp) o e, let ⟨o, ho, r⟩ := x.2.2; ⟨o, hk t (by simp) o ho, r⟩⟩
  item := fun i s Q E hi x hQ => by
    have e : (items.size : Int) - 1 - (i : Int) = ((items.size - 1 - i : Nat) : Int) := by omega
    have hit := x.2.1
    rw [e] at hit
    have hx : items[items.size - 1 - i]? = some (items[items.size - 1 - i]'(by omega)) := Array.getElem?_eq_getElem (by omega)
    refine next_rt_item hit x.2.2 hx hsz fun h' hit' hs' => ?_
    have e2 : ((items.size - 1 - i : Nat) : Int) - 1 = (items.size : Int) - 1 - ((i + 1 : Nat) : Int) := by omega
    rw [e2] at hit'
    exact hQ _ h' (s.toks + 1) hx ⟨hi, hit', let ⟨o, ho, r⟩ := x.2.2; ⟨o, (hs'.2 t hne).trans ho, r⟩⟩ fun b o hb eo => hs'.extBut b o (fun h => hb (by simp [h])) eo
  done := fun s Q E x hQ => by
    have e : (items.size : Int) - 1 - (items.size : Int) = -1 := by omega
    have hit := x.2.1
    rw [e] at hit
    exact next_rt_end hh hit fun h' he' => hQ h' s.toks fun b o hb eo => he' b o (fun h => hb (by simp [h])) eo
  self := fun _ _ _ _ x hQ => iter_rt x.2.1 hQ
theorem extend_rt {it t S : Addr} {items : Array Value} {c₀ : Nat} {res : Value} {R : Result → Shared → Prop} (hh : A.handled = none) (hit : IsRt s.heap it t ((items.size : Int) - 1)) (hl : IsTup s.heap t items) (hne : t ≠ it) (hn : items.size ≤ sizeLine)
    (n1 : S ≠ it) (n2 : S ≠ t) (hS : s.heap.get? S = some { cls := .type "list", data := .seq #[] c₀ })
    (hR : ∀ (h' : Heap) (tk : Nat) (acc : Array Value) (c : Nat), (∀ b o, b ≠ it → b ≠ S → s.heap.get? b = some o → h'.get? b = some o) → h'.get? S = some { cls := .type "list", dict := none, data := .seq acc c, slots := #[] } → ItemsOf (fun i v => items[items.size - 1 - i]? = some v) acc items.size → R (.ok (.ret res)) { s with heap := h', toks := tk }) :
    wpAny (model prog w) A.in1 (Builtin.List.listExtendWith (.ref S) (.ref it) res)
      (fun fin s' => match fin with | .done f => R (.ok f) s' | .again c' => c'.quiet = true ∧ codeAny (model prog w) A c' R s') (fun e s' => R (.error e) s') s := by
  have W := (Walks.tupRev (prog := prog) (w := w) (A := A.in1) hh it t hne items hn).toS
  have nf : S ∉ [it, t] := by simp [n1, n2]
  have hT : s.TypeIs (.ref it) "reversed" := hit.typeIs
  have hsame : Builtin.List.listSameRef (.ref S) (.ref it) = false := by simp [Builtin.List.listSameRef, n1]
  have e0 : ((items.size : Nat) : Int) - 1 - ((0 : Nat) : Int) = (items.size : Int) - 1 := by omega
  have key : ∀ (h : Heap) (c₁ tk : Nat), (∀ b o, b ≠ S → s.heap.get? b = some o → h.get? b = some o) → h.get? S = some { cls := .type "list", data := .seq #[] c₁ } →
      codeAny (model prog w) A (.builtin "list.extend.loop" ⟨[.ref S, .ref it, res], []⟩) R { s with heap := h, toks := tk } := by
    intro h c₁ tk hk hS₁
    refine codeAny_extend_loopS W hn _ nf res items.size 0 _ #[] c₁ rfl (Nat.zero_le _) ⟨Nat.zero_le _, by rw [e0]; exact hit.at fun o e => hk _ o (Ne.symm n1) e, let ⟨o, ho, r⟩ := hl; ⟨o, hk _ o (Ne.symm n2) ho, r⟩⟩ hS₁ (ItemsOf.nil _) fun s' acc c hm hS' ha => ?_
    rw [Moved.eq_with hm]
    refine hR s'.heap s'.toks acc c (fun b o h1 h2 e => hm.heap b o (fun hb => ?_) (hk b o h2 e)) hS' ha
    rcases List.mem_cons.mp hb with z | hb
    · exact h2 z
    · exact h1 (List.mem_singleton.mp hb)
  unfold Builtin.List.listExtendWith
  refine wpAny_bind (wpAny_typeOf hT ?_)
  rw [if_neg (by rw [hsame]; decide)]
  refine wpAny_bind (iter_rt hit ?_)
  refine wpAny_bind (wpAny_holding (hint_rt hit hl hn fun k => ?_))
  refine wpAny_ite_split (fun _ => ?_) (fun _ => wpAny_pure ⟨plainId_quiet F.plain_extend_loop _, key _ c₀ _ (fun b o _ e => e) hS⟩)
  refine wpAny_bind (wpAny_rule ?_)
  refine wpAny_bind ?_
  show wpAny _ _ (updateSeq S (·.push .none) >>= fun _ => updateSeq S (·.pop)) _ _ _
  refine wpAny_bind (wpAny_updateSeq hS rfl ?_)
  have hS₂ := Heap.get?_update_self (Obj.mapSeq (·.push Value.none)) hS rfl
  refine wpAny_updateSeq (hz := by seq_fits) hS₂ rfl ?_
  have hS₃ := Heap.get?_update_self (Obj.mapSeq (·.pop)) hS₂ rfl
  exact wpAny_pure ⟨plainId_quiet F.plain_extend_loop _, key _ _ _ (fun b o hb e => (Heap.get?_update_other _ _ (Ne.symm hb)).trans ((Heap.get?_update_other _ _ (Ne.symm hb)).trans e)) hS₃⟩
theorem iadd_rt {it t S : Addr} {items : Array Value} {c₀ : Nat} {R : Result → Shared → Prop} (hh : A.handled = none) (hit : IsRt s.heap it t ((items.size : Int) - 1)) (hl : IsTup s.heap t items) (hne : t ≠ it) (hn : items.size ≤ sizeLine)
    (n1 : S ≠ it) (n2 : S ≠ t) (hS : s.heap.get? S = some { cls := .type "list", data := .seq #[] c₀ })
    (hR : ∀ (h' : Heap) (tk : Nat) (acc : Array Value) (c : Nat), (∀ b o, b ≠ it → b ≠ S → s.heap.get? b = some o → h'.get? b = some o) → h'.get? S = some { cls := .type "list", dict := none, data := .seq acc c, slots := #[] } → ItemsOf (fun i v => items[items.size - 1 - i]? = some v) acc items.size → R (.ok (.ret (.ref S))) { s with heap := h', toks := tk }) :
    codeAny (model prog w) A (.builtin "list.__iadd__" ⟨[.ref S, .ref it], []⟩) R s := by
  refine codeAny_builtin F.entry_list_iadd ?_
  rw [Around.under_plainId F.plain_list_iadd _]
  exact extend_rt hh hit hl hne hn n1 n2 hS hR
theorem collect_rt {it t : Addr} {items : Array Value} {Q : List Value → Shared → Prop} (hh : A.handled = none) (hit : IsRt s.heap it t ((items.size : Int) - 1)) (hl : IsTup s.heap t items) (hne : t ≠ it) (hn : items.size ≤ sizeLine)
    (hQ : ∀ (h' : Heap) (tk : Nat) (acc : Array Value), (∀ b o, b ≠ it → s.heap.get? b = some o → h'.get? b = some o) → ItemsOf (fun i v => items[items.size - 1 - i]? = some v) acc items.size → Q acc.toList { s with heap := h', toks := tk }) :
    wpAny (model prog w) A (collect (.ref it)) Q E s := by
  obtain ⟨oi, hoi, _⟩ := id hit
  obtain ⟨ol, hol, _⟩ := id hl
  have hSi : s.heap.objs.size ≠ it := Nat.ne_of_gt (Heap.lt_size hoi)
  have hSl : s.heap.objs.size ≠ t := Nat.ne_of_gt (Heap.lt_size hol)
  unfold collect
  refine wpAny_bind (wpAny_runValue (codeAny_builtin F.entry_proto_collect ?_))
  rw [Around.under_plainId F.plain_proto_collect _]
  show wpAny _ A.in1 (newList [] >>= fun l' => again (.builtin "list.__iadd__" ⟨[l', .ref it], []⟩)) _ _ s
  refine wpAny_bind (wpAny_newObj_type ?_)
  have hS₁ : (s.heap.push { cls := .type "list", data := .seq ([] : List Value).toArray }).get? s.heap.objs.size = some { cls := .type "list", data := .seq ([] : List Value).toArray } := Heap.get?_push_size _ rfl
  have hit1 : IsRt (s.heap.push { cls := .type "list", data := .seq ([] : List Value).toArray }) it t ((items.size : Int) - 1) := hit.at fun o e => Heap.get?_push_of_some _ e
  have hl1 : IsTup (s.heap.push { cls := .type "list", data := .seq ([] : List Value).toArray }) t items := hl.push _
  refine wpAny_pure ⟨plainId_quiet F.plain_list_iadd _, iadd_rt (s := { s with heap := s.heap.push { cls := .type "list", data := .seq ([] : List Value).toArray } }) hh hit1 hl1 hne hn hSi hSl hS₁ fun h' tk acc c hk hS' ha => ?_⟩
  show wpAny _ A (load s.heap.objs.size >>= _) _ _ _
  refine wpAny_bind (wpAny_load hS' ?_)
  refine wpAny_pure ?_
  exact hQ h' tk acc (fun b o hb e => hk b o hb (Nat.ne_of_lt (Heap.lt_size e)) (Heap.get?_push_of_some _ e)) ha
theorem code_tuple_new_rt {it l : Addr} {items : Array Value} {Q₁ : Value → Shared → Prop} (hh : A.handled = none) (hit : IsRt s.heap it l ((items.size : Int) - 1)) (hl : IsTup s.heap l items) (hne : l ≠ it) (hn : items.size ≤ sizeLine)
    (h : ∀ (h' : Heap) (tk : Nat) (acc : Array Value), (∀ b o, b ≠ it → s.heap.get? b = some o → h'.get? b = some o) → ItemsOf (fun i v => items[items.size - 1 - i]? = some v) acc items.size →
      Q₁ (.ref h'.objs.size) { s with heap := h'.push { cls := .type "tuple", data := .seq acc }, toks := tk }) :
    codeAny (model prog w) A (.call (.builtin "tuple.__new__") ⟨[.type "tuple", .ref it], []⟩) (wants Q₁ E) s := by
  refine codeAny_of_tree ?_
  show wpAny _ A.in1 (do checkBuiltinCall "tuple.__new__" ⟨[.type "tuple", .ref it], []⟩; again (.builtin "tuple.__new__" ⟨[.type "tuple", .ref it], []⟩)) _ _ s
  refine wpAny_bind (wpAny_of_eq (F.newCall_tuple_1 _) (wpAny_pure ⟨plainId_quiet F.plain_tuple_new _, codeAny_builtin F.entry_tuple_new ?_⟩))
  rw [Around.under_plainId F.plain_tuple_new _]
  have hsub := sub_tuple_self
  have hinit := init_tuple_lookup
  have hmh := madeHere_tuple
  have hTI : s.TypeIs (.ref it) "reversed" := hit.typeIs
  have hh1 : A.in1.handled = none := hh
  wp_walk using wpAny_typeOf hTI, collect_rt (A := A.in1) hh1 hit hl hne hn
  intro h' tk acc hk hacc
  show wpAny _ _ (Builtin.Tuple.tupleExact acc.toList.toArray >>= fun v => ret v) _ _ _
  unfold Builtin.Tuple.tupleExact
  refine wpAny_bind (wpAny_newObj_type ?_ (by show acc.toList.toArray.size ≤ sizeLine; simp only [Array.toArray_toList]; rw [hacc.1]; exact hn))
  refine wpAny_pure ?_
  have e : acc.toList.toArray = acc := by simp
  rw [e]
  exact h h' tk acc hk hacc
theorem call_tuple_rt {it l : Addr} {items : Array Value} {Q : Value → Shared → Prop} (hh : A.handled = none) (hit : IsRt s.heap it l ((items.size : Int) - 1)) (hl : IsTup s.heap l items) (hne : l ≠ it) (hn : items.size ≤ sizeLine)
    (hQ : ∀ (h' : Heap) (tk : Nat) (acc : Array Value), (∀ b o, b ≠ it → s.heap.get? b = some o → h'.get? b = some o) → ItemsOf (fun i v => items[items.size - 1 - i]? = some v) acc items.size →
      Q (.ref h'.objs.size) { s with heap := h'.push { cls := .type "tuple", data := .seq acc }, toks := tk }) :
    wpAny (model prog w) A (call (.type "tuple") [.ref it]) Q E s := by
  refine callType_codes (Q₁ := fun obj s₁ => s₁.TypeIs obj "tuple" ∧ Q obj s₁) F.called_tuple (F.typeCall_tuple_1 _) F.entry_object_init
    (code_tuple_new_rt (A := A.in1) hh hit hl hne hn fun h' tk acc hk hacc => ⟨⟨_, Heap.get?_push_size _ rfl, rfl⟩, hQ h' tk acc hk hacc⟩) fun obj s₁ h₁ => ?_
  exact ⟨h₁.1, F.args_object_init_2 obj _, object_init_meets F.called_tuple.init.lookup F.called_tuple.made (by decide) prog w A.in1 _ s₁ ⟨h₁.1, rfl, h₁.2⟩⟩
end
section
variable {X : Cx} {K : PySem.W.Frag} {a : Expr} {ta : TE} {Ta : VT} {P0 P1 pos pos1 : Pos} {p : Bool}
def rTupRevA (K : PySem.W.Frag) : V → Hp → VK → Prop := fun v H Q => ∃ (l : Addr) (xs : List V), v = .ref l ∧ (SqL K H l xs ∨ SqT K H l xs) ∧ NewT H xs.reverse Q
theorem pe_tupRevA (hc : X.calm = true) (hg : Gl X "tuple") (hm : X.mg "tuple" = none) (hg2 : Gl X "reversed") (hm2 : X.mg "reversed" = none) (ha : PE X a ta)
    (hs : starEach [a] X.env = (false, eval a X.env) :: starEach [] X.env) (hs2 : starEach [.Call (.Name "reversed" P1) [a] [] pos1] X.env = (false, eval (.Call (.Name "reversed" P1) [a] [] pos1) X.env) :: starEach [] X.env) :
    PE X (.Call (.Name "tuple" P0) [.Call (.Name "reversed" P1) [a] [] pos1] [] pos) (tUn (rTupRevA X.K) ta) := by
  refine ⟨fun pins s σ H Q I h => ?_⟩
  refine Call_ (ld_blt I hg hm boot_tuple (PyProof.Rows.callWith_type1 (args_cons (Call_ (ld_blt I hg2 hm2 PyProof.Rows.boot_reversed (PyProof.Rows.callWith_type1 (args_cons (L2.thn (ha.run pins s σ H _ I h) fun u s1 ⟨v, H1, I1, r1, q1⟩ => args_nil ?_) hs) hs rfl))) hs2) hs2 rfl))
  obtain ⟨l, xs, ev, hq, q⟩ := q1
  subst ev
  obtain rfl : u = Value.ref l := r1
  rcases hq with hq | hq
  · obtain ⟨its, rv, pl, hz⟩ := I1.list hq
    refine call_reversed_list pl.isList (args_nil ?_)
    generalize ho : revObj l ((its.toArray.size : Int) - 1) = ob
    have I2 : Inv X pins σ H1 { s1 with heap := s1.heap.push ob } := I1.kept (t' := s1.toks) fun b o e => Heap.get?_push_of_some _ e
    have fo : FpOk X pins H1 s1.heap.objs.size := I1.fpOk (Nat.le_refl _) (I1.hok.fresh (Nat.le_refl _))
    have hl := pl.isList
    have hne : l ≠ s1.heap.objs.size := by obtain ⟨_, e, _⟩ := id hl; exact Nat.ne_of_lt (Heap.lt_size e)
    have hn : its.toArray.size ≤ sizeLine := by rw [List.size_toArray, ← rv.length]; exact hz
    refine call_tuple_rev (s := { s1 with heap := s1.heap.push ob }) (I1.ok.hd hc) ⟨ob, Heap.get?_push_size _ (by rw [← ho]; rfl), by rw [← ho]; rfl, by rw [← ho]; rfl⟩ (hl.push _) hne hn fun h' tk acc hk hi => ?_
    obtain ⟨f0, f1, f2, f3, f4, f5⟩ := fo
    have I3 : Inv X pins σ H1 { s1 with heap := h', toks := tk } := I2.turned (t' := tk) (fun b o hb e => hk b o hb e) f0 f1 f3 f4 f5
    refine newTup (s := { s1 with heap := h', toks := tk }) (t' := tk) (us := acc.toList) I3 (vals_rev rv hi) (by rw [List.length_reverse]; exact hz) (Nat.le_refl _) (fun b o e => Heap.get?_push_of_some _ e) ?_ q
    rw [Array.toArray_toList]
    exact Heap.get?_push_size _ rfl
  · obtain ⟨its, rv, pl, hz⟩ := I1.tuple hq
    have hn : its.toArray.size ≤ sizeLine := by rw [List.size_toArray, ← rv.length]; exact hz
    have h63 := line63
    refine call_reversed_tup pl (fun A E Q k => PyProof.Rows.len_tuple pl (by omega) k) (args_nil ?_)
    generalize ho : rtObj l ((its.toArray.size : Int) - 1) = ob
    have I2 : Inv X pins σ H1 { s1 with heap := s1.heap.push ob, toks := s1.toks + 1 + 1 } := I1.kept (t' := s1.toks + 1 + 1) fun b o e => Heap.get?_push_of_some _ e
    have fo : FpOk X pins H1 s1.heap.objs.size := I1.fpOk (Nat.le_refl _) (I1.hok.fresh (Nat.le_refl _))
    have hne : l ≠ s1.heap.objs.size := Nat.ne_of_lt pl.lt
    refine call_tuple_rt (s := { s1 with heap := s1.heap.push ob, toks := s1.toks + 1 + 1 }) (I1.ok.hd hc) ⟨ob, Heap.get?_push_size _ (by rw [← ho]; rfl), by rw [← ho]; rfl, by rw [← ho]; rfl⟩ (pl.push _) hne hn fun h' tk acc hk hi => ?_
    obtain ⟨f0, f1, f2, f3, f4, f5⟩ := fo
    have I3 : Inv X pins σ H1 { s1 with heap := h', toks := tk } := I2.turned (t' := tk) (fun b o hb e => hk b o hb e) f0 f1 f3 f4 f5
    refine newTup (s := { s1 with heap := h', toks := tk }) (t' := tk) (us := acc.toList) I3 (vals_rev rv hi) (by rw [List.length_reverse]; exact hz) (Nat.le_refl _) (fun b o e => Heap.get?_push_of_some _ e) ?_ q
    rw [Array.toArray_toList]
    exact Heap.get?_push_size _ rfl
def oTupRev : O1 := fun _ d Q => match d with
  | .lst _ xs => immL xs = true ∧ Q true (.tup xs.reverse)
  | .tup xs => immL xs = true ∧ Q true (.tup xs.reverse)
  | _ => False
theorem lf_tupRev : Lf1 K (rTupRevA K) oTupRev := fun F H al1 d1 v1 q1 Q R s o1 q k => by
  cases d1 <;> first | exact q.elim | skip
  · obtain ⟨a, vs, rfl, h1, rl⟩ := tup_partsN o1.rep
    obtain ⟨im, q⟩ := q
    have := rl.ofImm im
    subst this
    exact ⟨a, vs, rfl, .inr (s.seqT h1.sq), fun l o hl hd => k _ _ _ _ _ _ (Ans.newT s hl hd (repL_rev (rl.mono Sub.refl fun _ h => absurd h (by simp)))) q⟩
  · rename_i m xs
    obtain ⟨im, q⟩ := q
    obtain ⟨a, vs, rfl, h1, rl⟩ := seqL_imm s o1.rep im
    exact ⟨a, vs, rfl, .inl h1, fun l o hl hd => k _ _ _ _ _ _ (Ans.newT s hl hd (repL_rev (rl.mono Sub.refl fun _ h => absurd h (by simp)))) q⟩
theorem ve_tupRev (hK : X.K = K) (hc : X.calm = true) (hg : Gl X "tuple") (hm : X.mg "tuple" = none) (hg2 : Gl X "reversed") (hm2 : X.mg "reversed" = none) (ha : VE X K p a ta Ta)
    (hs : starEach [a] X.env = (false, eval a X.env) :: starEach [] X.env := by rfl) (hs2 : starEach [.Call (.Name "reversed" P1) [a] [] pos1] X.env = (false, eval (.Call (.Name "reversed" P1) [a] [] pos1) X.env) :: starEach [] X.env := by rfl) :
    VE X K p (.Call (.Name "tuple" P0) [.Call (.Name "reversed" P1) [a] [] pos1] [] pos) (tUn (rTupRevA K) ta) (TU Ta oTupRev) := by
  subst hK
  exact ⟨pe_tupRevA hc hg hm hg2 hm2 ha.pe hs hs2, Snd.un ha.snd lf_tupRev⟩
theorem y_tupRevL {al m : Bool} {xs : List D} {QB : Bool → D → Prop} : oTupRev al (.lst m xs) QB = (immL xs = true ∧ K2 QB ⟨⟩ true (.tup xs.reverse)) := rfl
theorem y_tupRevT {al : Bool} {xs : List D} {QB : Bool → D → Prop} : oTupRev al (.tup xs) QB = (immL xs = true ∧ K2 QB ⟨⟩ true (.tup xs.reverse)) := rfl
end
end VL

namespace VL
open PySem PySem.Spec PyProof.Rows L2
/-! ### a fresh thing is fixed from now on -/
def TFz (T : VT) : VT := fun S Q => T S fun S1 al d => al = true ∧ Q S1 true (fz d)
section
variable {X : Cx} {K : PySem.W.Frag} {p : Bool} {e : Expr} {t : TE} {T : VT}
theorem ve_fz (h : VE X K p e t T) : VE X K false e t (TFz T) := by
  refine ⟨h.pe, fun F H σ S fp Q R g q k => h.snd F H σ S fp _ R g q fun F1 H1 S1 fp1 al d v fq r q1 => ?_⟩
  obtain ⟨eal, q1⟩ := q1
  subst eal
  obtain ⟨nd, sep⟩ := r.sep rfl
  have rf : Rep K (bor fq F1 H1) H1 (fz d) v [] := Rep.fz (bor_sub1 r.good.sub) r.rep fun a ha o e => by rw [bor_in ha]; exact e
  refine k (bor fq F1 H1) H1 S1 fp1 true (fz d) v [] ⟨⟨bor_sub2 r.good.sub, r.good.rep.mono (bor_sub1 r.good.sub) fun a _ o e => e, r.good.nd, fun a ha => ?_⟩, rf, ⟨r.step.fsub.trans (bor_sub1 r.good.sub), r.step.keep, fun a h => ?_, r.step.own⟩, fun _ => ⟨List.nodup_nil, fun a ha => absurd ha (by simp)⟩, (fun z => nomatch z)⟩ q1
  · rw [bor_out fun hb => (sep a hb).2.1 ha]; exact r.good.dis a ha
  · by_cases hb : a ∈ fq
    · rcases (sep a hb).2.2 with y | y
      · exact .inr (.inl y)
      · exact .inr (.inr y)
    · rw [bor_out hb] at h; exact r.step.fnew a h
end
theorem x_TFz {T : VT} {S : SV} {Q : SV → Bool → D → Prop} : TFz T S Q = T S fun S1 al d => al = true ∧ K3 Q ⟨⟩ S1 true (fz d) := rfl
end VL

namespace VL
open PySem PySem.Spec PyProof.Rows L2
/-! ### extend by a tuple -/
theorem ext_tuple (l : Addr) (items : Array Value) (n : Nat) (b : Addr) (items2 : Array Value) (n2 : Nat) (dd : Option Addr) (sl : Array (Option Value)) (hs0 : ¬(!items.isEmpty && Builtin.List.listTooLong (items.size + items2.size)) = true) (hs1 : items.size ≤ sizeLine) (hs2 : items.size + items2.size ≤ sizeLine + 1) :
    Meets (Builtin.«list.extend» ⟨[.ref l, .ref b], []⟩) (fun _ R s => s.heap.get? l = some { cls := .type "list", dict := none, data := .seq items n, slots := #[] } ∧ s.heap.get? b = some { cls := .type "tuple", dict := dd, data := .seq items2 n2, slots := sl } ∧ R (.ok (.ret Value.none)) { s with heap := s.heap.update l (Obj.mapSeq fun x => x ++ items2), toks := s.toks }) :=
  .of_wp fun prog w A R s h => by
    obtain ⟨hp, g, d, tk, os⟩ := s; obtain ⟨hl, hb, h⟩ := h; have f1 := AutoSeq1.idx_int; have f2 := AutoSeq1.sub_tuple_tuple; have f3 := AutoSeq1.sub_list_list; have f4 := AutoSeq1.sub_tuple_list; have f5 := AutoSeq1.sub_list_tuple;
    have hz' : (items ++ items2).size ≤ sizeLine + 1 := by rw [Array.size_append]; exact hs2
    wp_walk using (wpAny_updateSeq hl rfl (hz := hs1) (_hz' := hz')), AutoSeq1.wpAny_loadPart' hl, AutoSeq1.wpAny_loadPart' hb; exact ⟨_, rfl, h⟩
def rExtT (K : PySem.W.Frag) : V → List V → Hp → VK → Prop := fun x vs H Q => ∃ l b xs zs, x = .ref l ∧ vs = [.ref b] ∧ H l = some (.lst xs) ∧ SqT K H b zs ∧ xs.length + zs.length ≤ sizeLine ∧ Q .non (upd H l (.lst (xs ++ zs)))
theorem mt_extT {X : Cx} : MtM X "list.extend" (rExtT X.K) := by
  intro pins s σ H x vs v us Q I rx rv h
  obtain ⟨l, b, xs, zs, rfl, rfl, hH, hB, hz, q⟩ := h
  cases rx
  obtain ⟨u, rfl, ru⟩ := rv.one
  cases ru
  obtain ⟨z, its, n, r, hl, e⟩ := I.lstM hH
  obtain ⟨its2, r2, ⟨o, ho, hc, n2, hd⟩, hz2⟩ := I.tuple hB
  obtain ⟨oc, od, odt, osl⟩ := o
  simp only at hc hd
  subst hc; subst hd
  have el2 := r2.length
  have hsz : its.toArray.size + its2.toArray.size ≤ sizeLine := by rw [List.size_toArray, List.size_toArray]; omega
  have hlong : ¬ (!its.toArray.isEmpty && Builtin.List.listTooLong (its.toArray.size + its2.toArray.size)) = true := by
    rw [notLongL hsz, Bool.and_false]
    exact Bool.false_ne_true
  refine call_meets F.slot_list_extend ⟨_, e, rfl⟩ F.entry_list_extend (F.args_list_extend_2 _ _)
    (ext_tuple l its.toArray n b its2.toArray n2 od osl hlong (by rw [List.size_toArray]; omega) (by omega)) ⟨e, ho, ?_⟩
  refine ⟨.non, _, I.lset (its' := its ++ its2) hH e (by simp) (r.append r2) ?_, rfl, q⟩
  rw [List.length_append]
  omega
def oExtT : OM D := fun c d Q => match c, d with
  | .lst true xs, .tup ys => immL ys = true ∧ xs.length + ys.length ≤ sizeLine ∧ Q (.lst true (xs ++ ys)) .non
  | _, _ => False
theorem own_oExtT : Own1 oExtT := fun c kd Q h => by
  cases c <;> first | exact h.elim | skip
  rename_i m xs
  cases m <;> first | exact h.elim | trivial
section
variable {K : PySem.W.Frag}
theorem lf_extT : LfM1 K (fun x y => rExtT K x [y]) oExtT := fun F H a c d1 v1 fc fa Q R s rc ha nd r1 n1 dj q k => by
  cases c <;> first | exact q.elim | skip
  rename_i m xs
  cases m with
  | false => exact q.elim
  | true =>
  cases d1 <;> first | exact q.elim | skip
  rename_i ys
  obtain ⟨hi, hz, q⟩ := q
  obtain ⟨vs, fi, hH, rl, rfl⟩ := own_list rc
  obtain ⟨b, ws, rfl, h1, rl2⟩ := seqT_imm r1 hi
  obtain ⟨na, ni⟩ := List.nodup_cons.mp nd
  refine ⟨a, b, vs, ws, rfl, rfl, hH, s.seqT h1, by rw [← rl.len, ← rl2.len]; exact hz, ?_⟩
  refine k _ _ _ .non .non [] (wr_list (fi' := fi) (vs := vs) (xs := xs) rfl ?_ rep_non ?_ ?_ fun x hx => ?_) q
  · have := (rl.other (o := .lst (vs ++ ws)) na).app (rl2.other (o := .lst (vs ++ ws)) (a := a) (by simp))
    simpa using this
  · simpa using ni
  · simpa using na
  · rw [List.append_nil] at hx
    exact .inl hx
end
section
variable {X : Cx} {K : PySem.W.Frag} {a b : Expr} {pos apos : Pos} {p1 p2 : Bool} {Tb : VT} {ta tb : TE} {Tp : VTP} {xs ys : List D} {QD : D → D → Prop}
theorem ve_extT (hK : X.K = K) (ha : VP X K p1 a ta Tp) (hb : VE X K p2 b tb Tb) (hbase : attributeBase a "extend" X.env (eval a X.env) = eval a X.env := by rfl)
    (hfew : ((backTo pos (starEach [b] X.env)).all (fun x => !x.1) && (backToKw pos (keywordEach [] X.env)).all (fun x => x.1.isSome) && decide ([b].length + ([] : List Keyword).length + (if ([] : List Keyword).isEmpty then 0 else 1) < 30)) = true := by rfl)
    (hline : (apos.endLine == pos.line) = true := by rfl) (hs : starEach [b] X.env = [(false, eval b X.env)] := by rfl) : VE X K false (.Call (.Attribute a "extend" apos) [b] [] pos) (tBM K "list" (rExtT K) ta (tCons tb tNil)) (TM1 "list" p2 Tp Tb oExtT) := by
  subst hK
  exact ⟨pe_bm PySem.F.plainAttrs_list PySem.F.slot_list_extend PySem.F.type_list_extend mt_extT ha.pe (pa_cons hb.pe pa_nil hs) hbase hfew hline hs rfl, Snd.m1 lf_extT own_oExtT ha.snd hb.snd⟩
theorem y_extT : oExtT (.lst true xs) (.tup ys) QD = (immL ys = true ∧ xs.length + ys.length ≤ sizeLine ∧ K2 QD ⟨⟩ (.lst true (xs ++ ys)) .non) := rfl
end
/-! ### insert of what can't change -/
def TM2i (ty : String) (Tp : VTP) (Tb Tc : VT) (O : OM (D × D)) : VT := fun S Q => Tp S fun S1 i ps => isTy ty (atP S1 i ps) ∧ ps.isEmpty = true ∧ Tb S1 fun S2 _ d1 => d1.scal = true ∧ Tc S2 fun S3 _ d2 => d2.imm = true ∧ match atP S3 i ps with
  | some c => O c (d1, d2) fun c' r => Q (putP S3 i ps c') true r
  | none => False
section
variable {K : PySem.W.Frag} {p1 p2 : Bool} {tb : TE} {Tb : VT}
theorem Snd.m2i {ty : String} {tc : TE} {Tc : VT} {p3 : Bool} {tp : TE} {Tp : VTP} {r : V → List V → Hp → VK → Prop} {O : OM (D × D)} (l : LfM2 K (fun o x y H Q => r o [x, y] H Q) O) (ow : Own2 O) (ha : SndP K p1 tp Tp) (hb : Snd K p2 tb Tb) (hc : Snd K p3 tc Tc) : Snd K false (tBM K ty r tp (tCons tb (tCons tc tNil))) (TM2i ty Tp Tb Tc O) := fun F H σ S fp Q R g q k => by
  refine ha F H σ S fp _ _ g q fun F1 H1 S1 fp1 i ps u g1 st1 pu1 at1 q1 => ?_
  obtain ⟨ty1, em, q1⟩ := q1
  refine ⟨tyV_at g1 at1 ty1, ?_⟩
  refine hb F1 H1 σ S1 fp1 _ _ g1 q1 fun F2 H2 S2 fp2 al1 d1 v1 k1 r1 q2 => ?_
  obtain ⟨sc1, q2⟩ := q2
  refine hc F2 H2 σ S2 fp2 _ _ r1.good q2 fun F3 H3 S3 fp3 al2 d2 v2 k2 r2 q3 => ?_
  obtain ⟨sc2, q3⟩ := q3
  have at2 := at1.carry (p2 := false) (S2 := S2) (fp2 := fp2) (F2 := F2) (H2 := H2) (by rw [em]; rfl) fun z => nomatch z
  have at3 := at2.carry (p2 := false) (S2 := S3) (fp2 := fp3) (F2 := F3) (H2 := H3) (by rw [em]; rfl) fun z => nomatch z
  have st2 := (st1.trans r1.step).trans r2.step
  cases ea : atP S3 i ps with
  | none => rw [ea] at q3; exact q3.elim
  | some cc =>
  rw [ea] at q3
  simp only at q3
  obtain ⟨f1, f2, f3, ef, rc, pt⟩ := r2.good.at at3 ea
  obtain ⟨aa, rfl, haf⟩ := own_at rc (ow _ _ _ q3)
  have nf2 : f2.Nodup := by
    have := r2.good.nd
    rw [ef] at this
    exact (List.nodup_append.mp (List.nodup_append.mp this).2.1).1
  refine l F3 H3 aa cc d1 d2 v1 v2 f2 [] [] _ R r2.good.sub rc haf nf2 ((r1.rep.scal0 sc1).2 F3 H3) (by have e := Rep.ofImm r2.rep sc2; have h := r2.rep; rwa [e] at h) List.nodup_nil (fun x hx => absurd hx (by simp)) q3 fun H4 c' fc' dd vv fr w q4 => ?_
  obtain ⟨g3, st3, n3, s3⟩ := wr_good (fa := []) r2.good ef haf (fun x hx => absurd hx (by simp)) w pt
  have back : ∀ x ∈ fp3, x ∈ fp ∨ H x = none := fun x hx => st2.own x hx
  refine k F3 H4 _ _ true dd vv fr ⟨g3, w.rd, ⟨st2.fsub.trans st3.fsub, fun x o e hn => ?_, fun x hh => ?_, fun x hx => ?_⟩, fun _ => ⟨n3, fun x hx => ⟨(s3 x hx).1, (s3 x hx).2.1, back x (by simpa using (s3 x hx).2.2)⟩⟩, (fun z => nomatch z)⟩ q4
  · refine st3.keep x o (st2.keep x o e hn) fun y => ?_
    rcases back x (by simpa using y) with w | w
    · exact hn w
    · rw [e] at w; cases w
  · rcases st3.fnew x hh with y | y | y
    · exact st2.fnew x y
    · exact .inr (back x (by simpa using y))
    · exact .inr (st2.back (.inr y))
  · rcases st3.own x hx with y | y
    · exact back x (by simpa using y)
    · exact st2.back (.inr y)
end
section
variable {X : Cx} {K : PySem.W.Frag} {a b c : Expr} {pos apos : Pos} {p1 p2 p3 : Bool} {Tb Tc : VT} {ta tb tc : TE} {Tp : VTP} {QB : SV → Bool → D → Prop} {S : SV} {ty : String} {O : OM (D × D)}
theorem ve_insI (hK : X.K = K) (ha : VP X K p1 a ta Tp) (hb : VE X K p2 b tb Tb) (hc : VE X K p3 c tc Tc) (hbase : attributeBase a "insert" X.env (eval a X.env) = eval a X.env := by rfl)
    (hfew : ((backTo pos (starEach [b, c] X.env)).all (fun x => !x.1) && (backToKw pos (keywordEach [] X.env)).all (fun x => x.1.isSome) && decide ([b, c].length + ([] : List Keyword).length + (if ([] : List Keyword).isEmpty then 0 else 1) < 30)) = true := by rfl)
    (hline : (apos.endLine == pos.line) = true := by rfl) (hs : starEach [b, c] X.env = (false, eval b X.env) :: starEach [c] X.env := by rfl) (hs2 : starEach [c] X.env = [(false, eval c X.env)] := by rfl) (hpl : (backTo pos (starEach [c] X.env)).any (·.1) = false := by rfl) : VE X K false (.Call (.Attribute a "insert" apos) [b, c] [] pos) (tBM K "list" rInsert ta (tCons tb (tCons tc tNil))) (TM2i "list" Tp Tb Tc oInsert) := by
  subst hK
  exact ⟨pe_bm PySem.F.plainAttrs_list PySem.F.slot_list_insert PySem.F.type_list_insert mt_insert ha.pe (pa_cons hb.pe (pa_cons hc.pe pa_nil hs2) hs) hbase hfew hline hs hpl, Snd.m2i lf_insert own_oInsert ha.snd hb.snd hc.snd⟩
theorem x_TM2i : TM2i ty Tp Tb Tc O S QB = Tp S fun S1 i ps => isTy ty (atP S1 i ps) ∧ ps.isEmpty = true ∧ Tb S1 fun S2 _ d1 => d1.scal = true ∧ Tc S2 fun S3 _ d2 => d2.imm = true ∧ (match atP S3 i ps with | some c => O c (d1, d2) fun c' r => K3 QB ⟨⟩ (putP S3 i ps c') true r | none => False) := rfl
end
end VL

namespace VL
open PySem PySem.Spec PyProof.Rows L2
/-! ### sum of a tuple of ints -/
def rSumT (K : PySem.W.Frag) : List V → Hp → VK → Prop := fun vs H Q => ∃ (a : Addr) (ns : List Int), vs = [V.ref a] ∧ SqT K H a (ns.map V.int) ∧ Q (.int ns.sum) H
theorem cr_sumT {X : Cx} (hc : X.calm = true) : CallR X (.builtin "sum") (rSumT X.K) := by
  intro pins s σ H vs us Q I r h
  obtain ⟨a, ns, rfl, hs, q⟩ := h
  obtain ⟨its, rv, pl, _⟩ := I.tuple hs
  rw [Vals.ref1 r]
  have hi := rv.ints
  obtain ⟨xs, hx⟩ := hi.allInts.items
  have hn : numsOf its.toArray.toList = ns := by rw [show its.toArray.toList = its from rfl, hi.numsOf]
  rw [hx] at pl hn
  rw [nums_intItems] at hn
  refine PySem.W.ktm_sumG (I.ok.hd hc) pl fun h' tk t' hk => ?_
  rw [preSum_eq, List.take_of_length_le (by simp), hn]
  exact ⟨.int _, H, I.kept hk, ⟨_, rfl⟩, q⟩
def oSumT : O1 := fun _ d Q => ∃ ns : List Int, d = .tup (ns.map D.int) ∧ Q true (.int ns.sum)
section
variable {K : PySem.W.Frag}
theorem lf_sumT : Lf1 K (fun v => rSumT K [v]) oSumT := fun F H al1 d1 v1 q1 Q R s o1 q k => by
  obtain ⟨ns, rfl, q⟩ := q
  obtain ⟨a, vs, rfl, h1, rl⟩ := seqT_imm o1.rep immL_ints
  obtain ⟨rfl, _⟩ := rl.ints
  exact ⟨a, ns, rfl, s.seqT h1, k F H true _ _ [] (Ans.int s) q⟩
end
section
variable {X : Cx} {K : PySem.W.Frag} {a : Expr} {pos P0 : Pos} {p al : Bool} {Ta : VT} {ta : TE} {d : D} {QB : Bool → D → Prop} {ns : List Int} {a1 a2 a3 : Int}
theorem ve_sumT (hK : X.K = K) (hc : X.calm = true) (hg : Gl X "sum") (hm : X.mg "sum" = none) (ha : VE X K p a ta Ta) (he : starEach [a] X.env = [(false, eval a X.env)] := by rfl) : VE X K p (.Call (.Name "sum" P0) [a] [] pos) (tUn (fun v => rSumT K [v]) ta) (TU Ta oSumT) := by
  subst hK; exact ve_b1 (cr_sumT hc) lf_sumT hg hm (by decide +kernel) ha (by decide) (by decide) he
theorem y_sumT3 : oSumT al (.tup [.int a1, .int a2, .int a3]) QB = K2 QB ⟨⟩ true (.int (a1 + a2 + a3)) := propext ⟨fun ⟨ns, e, q⟩ => by
  have e : [a1, a2, a3].map D.int = ns.map D.int := by injection e
  have : [a1, a2, a3] = ns := intsL_inj e
  subst this
  have e2 : [a1, a2, a3].sum = a1 + a2 + a3 := by simp; omega
  rwa [e2] at q, fun q => ⟨[a1, a2, a3], rfl, by
  have e2 : [a1, a2, a3].sum = a1 + a2 + a3 := by simp; omega
  rw [e2]; exact q⟩⟩
end
end VL

namespace VL
open PySem PySem.Spec PyProof.Rows L2
/-! ### a row of one's own is lent while an expression is reckoned -/
def borOk (S : SV) : Bool := S.all fun d => d.imm || d.nofz
theorem RepO.back {K : PySem.W.Frag} {F H F2 H2 G : Hp} {B : List Addr} (hB : ∀ a ∈ B, ∃ o, H2 a = some o ∧ Mu o) (sub : Sub F2 H2) (hG : ∀ a, a ∉ B → G a = F2 a) (hF : Sub F G) {d : D} {ov : Option V} {f fN : List Addr} (h0 : RepO K F H d ov f) (h : RepO K F2 H2 d ov fN) (c : (d.imm || d.nofz) = true) : RepO K G H2 d ov fN := by
  cases ov with
  | none => exact h
  | some v =>
    by_cases ci : d.imm = true
    · have h0' : Rep K F H d v f := h0
      have h' : Rep K F2 H2 d v fN := h
      have e0 := Rep.ofImm h0' ci
      have e1 := Rep.ofImm h' ci
      subst e0; subst e1
      exact Rep.mono hF h0' fun a ha => absurd ha (by simp)
    · rw [Bool.or_eq_true] at c
      exact Rep.lent hB sub hG h (c.resolve_left ci)
theorem RepS.back {K : PySem.W.Frag} {F H F2 H2 G : Hp} {B : List Addr} (hB : ∀ a ∈ B, ∃ o, H2 a = some o ∧ Mu o) (sub : Sub F2 H2) (hG : ∀ a, a ∉ B → G a = F2 a) (hF : Sub F G) : ∀ {S : List D} {σ : L2.St} {f fN : List Addr}, RepS K F H S σ f → RepS K F2 H2 S σ fN → borOk S = true → RepS K G H2 S σ fN
  | [], _, _, _, _, h, _ => h
  | d :: S, _, _, _, h0, h, c => by
    obtain ⟨ov, σ', f1, f2, rfl, rfl, a1, a2⟩ := h0
    obtain ⟨ov', σ'', g1, g2, e, rfl, b1, b2⟩ := h
    injection e with e1 e2
    subst e1; subst e2
    unfold borOk at c
    rw [List.all_cons, Bool.and_eq_true] at c
    exact ⟨ov, σ', g1, g2, rfl, rfl, a1.back hB sub hG hF b1 c.1, RepS.back hB sub hG hF a2 b2 c.2⟩
/-- slot i is lent while T is reckoned; what comes of it is a number, a truth, a text or none -/
def TBor (i : Nat) (T : VT) : VT := fun S Q => okS S i ∧ T (S.set i (fz (S.getD i .unk))) fun S1 al d => d.scal = true ∧ S1 = S.set i (fz (S.getD i .unk)) ∧ borOk (S.set i .unk) = true ∧ Q S true d
section
variable {X : Cx} {K : PySem.W.Frag} {e : Expr} {te : TE} {T : VT} {p : Bool}
theorem Snd.lend {i : Nat} (h : Snd K p te T) : Snd K false te (TBor i T) := fun F H σ S fp Q R g q kk => by
  obtain ⟨q0, q⟩ := q
  obtain ⟨v, ev⟩ := good_slot g q0
  have hi : i < S.length := by rw [g.rep.len]; exact (List.getElem?_eq_some_iff.mp ev).1
  obtain ⟨ov, f1, f2, f3, e1, efp, ro, pt⟩ := g.rep.lens (List.getElem?_eq_getElem hi)
  rw [ev] at e1
  cases e1
  have eD : S.getD i .unk = S[i] := by rw [List.getD_eq_getElem?_getD, List.getElem?_eq_getElem hi]; rfl
  rw [eD] at q
  have ro' : Rep K F H S[i] v f2 := ro
  have nd := g.nd
  rw [efp, List.nodup_append] at nd
  obtain ⟨n1, n2, n3⟩ := nd
  rw [List.nodup_append] at n2
  have rf : Rep K (bor f2 F H) H (fz S[i]) v [] := Rep.fz (bor_sub1 g.sub) ro' fun a ha o e => by rw [bor_in ha]; exact e
  have ru : RepS K (bor f2 F H) H (S.set i (fz S[i])) (σ.set i (some v)) (f1 ++ ([] ++ f3)) := pt (bor_sub1 g.sub) (fun a _ o e => e) rf
  have ru0 : RepS K F H (S.set i .unk) (σ.set i (some v)) (f1 ++ ([] ++ f3)) := pt Sub.refl (fun a _ o e => e) (show Rep K F H .unk v [] by rw [Rep])
  rw [set_self ev, List.nil_append] at ru ru0
  have sub : ∀ a ∈ f1 ++ f3, a ∈ fp ∧ a ∉ f2 := fun a ha => by
    refine ⟨by rw [efp]; rcases List.mem_append.mp ha with y | y <;> simp [y], fun hb => ?_⟩
    rcases List.mem_append.mp ha with y | y
    · exact n3 a y a (List.mem_append_left _ hb) rfl
    · exact n2.2.2 a hb a y rfl
  have f2p : ∀ a ∈ f2, a ∈ fp := fun a ha => by rw [efp]; simp [ha]
  have g' : Good K (bor f2 F H) H σ (S.set i (fz S[i])) (f1 ++ f3) := ⟨bor_sub2 g.sub, ru, List.nodup_append.mpr ⟨n1, n2.2.1, fun a ha b hb => n3 a ha b (List.mem_append_right _ hb)⟩, fun a ha => by rw [bor_out (sub a ha).2]; exact g.dis a (sub a ha).1⟩
  refine h (bor f2 F H) H σ _ (f1 ++ f3) _ _ g' q fun F2 H2 S2 fp2 al d v2 fq res q2 => ?_
  obtain ⟨sc, eS, ok, q3⟩ := q2
  subst eS
  have hBd : ∀ a ∈ f2, F a = none ∧ a ∉ f1 ++ f3 := fun a ha => ⟨g.dis a (f2p a ha), fun z => (sub a z).2 ha⟩
  obtain ⟨st, sb⟩ := unbor_step g.sub res.good.sub hBd res.step
  have hmu : ∀ a ∈ f2, ∃ o, H a = some o ∧ Mu o := ro'.mu
  have hB2 : ∀ a ∈ f2, ∃ o, H2 a = some o ∧ Mu o := fun a ha => let ⟨o, e, m⟩ := hmu a ha; ⟨o, res.step.keep a o e (hBd a ha).2, m⟩
  -- the other slots
  have hi2 : (S.set i (fz S[i]))[i]? = some (fz S[i]) := by rw [List.getElem?_set_self hi]
  obtain ⟨ov2, g1, g2, g3, e2, efp2, ro2, pt2⟩ := res.good.rep.lens hi2
  rw [ev] at e2
  cases e2
  have rn : RepS K F2 H2 ((S.set i (fz S[i])).set i .unk) (σ.set i (some v)) (g1 ++ ([] ++ g3)) := pt2 Sub.refl (fun a _ o e => e) (show Rep K F2 H2 .unk v [] by rw [Rep])
  rw [set_self ev, List.nil_append, List.set_set] at rn
  have rb : RepS K (unbor f2 F F2) H2 (S.set i .unk) σ (g1 ++ g3) := RepS.back hB2 res.good.sub (fun a ha => unbor_out ha) st.fsub ru0 rn ok
  have hi3 : (S.set i (.unk : D))[i]? = some .unk := by rw [List.getElem?_set_self hi]
  obtain ⟨ov3, k1, k2, k3, e3, efp3, ro3, pt3⟩ := rb.lens hi3
  rw [ev] at e3
  cases e3
  have k2e : k2 = [] := by
    have : Rep K (unbor f2 F F2) H2 .unk v k2 := ro3
    rw [Rep] at this
    exact this
  subst k2e
  rw [List.nil_append] at efp3
  have rk : Rep K (unbor f2 F F2) H2 S[i] v f2 := Rep.mono st.fsub ro' fun a ha o e => res.step.keep a o e (hBd a ha).2
  have rS : RepS K (unbor f2 F F2) H2 ((S.set i .unk).set i S[i]) (σ.set i (some v)) (k1 ++ (f2 ++ k3)) := pt3 Sub.refl (fun a _ o e => e) rk
  rw [set_self ev, List.set_set, set_self (List.getElem?_eq_getElem hi)] at rS
  have kp : ∀ a, a ∈ k1 ++ k3 → a ∈ fp2 := fun a ha => by
    rw [← efp3] at ha
    rw [efp2]
    rcases List.mem_append.mp ha with y | y <;> simp [y]
  have own2 : ∀ a ∈ k1 ++ k3, a ∉ f2 ∧ (a ∈ fp ∨ H a = none) := fun a ha => by
    rcases res.step.own a (kp a ha) with y | y
    · exact ⟨(sub a y).2, .inl (sub a y).1⟩
    · refine ⟨fun z => ?_, .inr y⟩
      obtain ⟨o, e, _⟩ := hmu a z
      rw [y] at e; cases e
  have nk : (k1 ++ k3).Nodup := by
    have n := res.good.nd
    rw [efp2, List.nodup_append] at n
    obtain ⟨m1, m2, m3⟩ := n
    rw [List.nodup_append] at m2
    rw [← efp3]
    exact List.nodup_append.mpr ⟨m1, m2.2.1, fun a ha b hb => m3 a ha b (List.mem_append_right _ hb)⟩
  rw [List.nodup_append] at nk
  have rR : Rep K (unbor f2 F F2) H2 d v2 [] := by
    obtain ⟨h1, h2⟩ := Rep.scal_any (F' := unbor f2 F F2) (H' := H2) res.rep sc
    subst h2; exact h1
  refine kk (unbor f2 F F2) H2 S (k1 ++ (f2 ++ k3)) true d v2 [] ⟨⟨sb, rS, ?_, fun a ha => ?_⟩, rR, ⟨st.fsub, fun a o e hn => st.keep a o e fun z => hn (sub a z).1, fun a hh => ?_, fun a ha => ?_⟩, fun _ => ⟨List.nodup_nil, fun a ha => absurd ha (by simp)⟩, (fun z => nomatch z)⟩ q3
  · refine List.nodup_append.mpr ⟨nk.1, List.nodup_append.mpr ⟨n2.1, nk.2.1, fun a ha b hb e => ?_⟩, fun a ha b hb e => ?_⟩
    · subst e; exact (own2 a (List.mem_append_right _ hb)).1 ha
    · subst e
      rcases List.mem_append.mp hb with y | y
      · exact (own2 a (List.mem_append_left _ ha)).1 y
      · exact nk.2.2 a ha a y rfl
  · by_cases c : a ∈ f2
    · rw [unbor_in c]; exact g.dis a (f2p a c)
    · rw [unbor_out c]
      refine res.good.dis a (kp a ?_)
      rcases List.mem_append.mp ha with y | y
      · exact List.mem_append_left _ y
      · exact List.mem_append_right _ ((List.mem_append.mp y).resolve_left c)
  · rcases st.fnew a hh with y | y | y
    · exact .inl y
    · exact .inr (.inl (sub a y).1)
    · exact .inr (.inr y)
  · by_cases c : a ∈ f2
    · exact .inl (f2p a c)
    · refine (own2 a ?_).2
      rcases List.mem_append.mp ha with y | y
      · exact List.mem_append_left _ y
      · exact List.mem_append_right _ ((List.mem_append.mp y).resolve_left c)
theorem ve_bor (i : Nat) (h : VE X K p e te T) : VE X K false e te (TBor i T) := ⟨h.pe, Snd.lend h.snd⟩
theorem x_TBor {i : Nat} {S : SV} {Q : SV → Bool → D → Prop} : TBor i T S Q = (okS S i ∧ T (S.set i (fz (S.getD i .unk))) fun S1 al d => d.scal = true ∧ S1 = S.set i (fz (S.getD i .unk)) ∧ borOk (S.set i .unk) = true ∧ K3 Q ⟨⟩ S true d) := rfl
theorem borOk_cons {d : D} {S : SV} : borOk (d :: S) = ((d.imm || d.nofz) && borOk S) := rfl
theorem borOk_nil : borOk [] = true := rfl
end
end VL

namespace VL
open PySem PySem.Spec PyProof.Rows L2
/-! ### sorted(xs, key=len), xs a list of tuples -/
def lenD : D → Nat
  | .tup xs => xs.length
  | _ => 0
def srtN (ds : List D) : List D := ds.mergeSort fun a b => decide ((lenD a : Int) ≤ lenD b)
def rSrtLen (K : PySem.W.Frag) : V → Hp → VK → Prop := fun v H Q => ∃ (F : Hp) (a : Addr) (xs : List V) (ds : List D), v = .ref a ∧ Sub F H ∧ SqL K H a xs ∧ RepL K F H ds xs [] ∧ (∀ d ∈ ds, isTup d) ∧
  ∀ ys p, RepL K F H (srtN ds) ys [] → H p = none → Q (.ref p) (upd H p (.lst ys))
section
variable {K : PySem.W.Frag} {F H : Hp}
theorem each3 : ∀ {ds : List D} {xs : List V} {us : List Value}, RepL K F H ds xs [] → Vals xs us → PySem.W.EachIs (fun (v : Value) (x : D × V × Value) => v = x.2.2 ∧ Rep K F H x.1 x.2.1 [] ∧ RelV x.2.1 x.2.2) us (ds.zip (xs.zip us))
  | [], xs, us, r, rv => by
    rw [RepL] at r
    obtain ⟨rfl, _⟩ := r
    cases rv
    exact .nil
  | d :: ds, xs, us, r, rv => by
    rw [RepL] at r
    obtain ⟨v, vs', f1, f2, rfl, e0, r1, r2⟩ := r
    have : f1 = [] ∧ f2 = [] := List.append_eq_nil_iff.mp e0.symm
    obtain ⟨rfl, rfl⟩ := this
    cases rv with
    | cons q1 q2 => exact .cons ⟨rfl, r1, q1⟩ (each3 r2 q2)
theorem zip3_fst : ∀ {ds : List D} {xs : List V} {us : List Value}, RepL K F H ds xs [] → Vals xs us → (ds.zip (xs.zip us)).map (·.1) = ds
  | [], xs, us, _, _ => rfl
  | d :: ds, xs, us, r, rv => by
    rw [RepL] at r
    obtain ⟨v, vs', f1, f2, rfl, e0, r1, r2⟩ := r
    have : f1 = [] ∧ f2 = [] := List.append_eq_nil_iff.mp e0.symm
    obtain ⟨rfl, rfl⟩ := this
    cases rv with
    | cons q1 q2 => rw [List.zip_cons_cons, List.zip_cons_cons, List.map_cons, zip3_fst r2 q2]
theorem gather3 : ∀ {bs : List (D × V × Value)} {us : List Value}, PySem.W.EachIs (fun (v : Value) (x : D × V × Value) => v = x.2.2 ∧ Rep K F H x.1 x.2.1 [] ∧ RelV x.2.1 x.2.2) us bs → RepL K F H (bs.map (·.1)) (bs.map (·.2.1)) [] ∧ Vals (bs.map (·.2.1)) us
  | [], _, h => by cases h; exact ⟨by rw [List.map_nil, List.map_nil, RepL]; exact ⟨rfl, rfl⟩, .nil⟩
  | b :: bs, _, h => by
    cases h with
    | cons h1 h2 =>
      obtain ⟨e, r, q⟩ := h1
      obtain ⟨r2, q2⟩ := gather3 h2
      subst e
      refine ⟨?_, .cons q q2⟩
      rw [List.map_cons, List.map_cons, RepL]
      exact ⟨_, _, [], [], rfl, rfl, r, r2⟩
end
theorem cr_srtLen {X : Cx} (hu : X.A.units + 64 < cLine) (pins : List (Addr × Obj)) (s : Shared) (σ : L2.St) (H : Hp) (v : V) (u : Value) (Q : VK) (I : Inv X pins σ H s) (rv : RelV v u) (h : rSrtLen X.K v H Q) :
    wpAny (model X.prog X.w) X.A (call (.builtin "sorted") [u] [(Str.ofString "key", .builtin "len")]) (EP X pins σ Q) X.xe s := by
  obtain ⟨F, a, xs, ds, rfl, sub, hs, rl, ht, q⟩ := h
  obtain rfl : u = Value.ref a := rv
  obtain ⟨its, rvs, ⟨o, n, ho, hc, hsl, hd⟩, hz⟩ := I.list hs
  have hl : s.heap.IsList a its.toArray := ⟨o, ho, hc, n, hd⟩
  have eb := each3 (K := X.K) (F := F) (H := H) rl rvs
  have bl : (ds.zip (xs.zip its)).length = xs.length := by
    have := congrArg List.length (zip3_fst rl rvs)
    rw [List.length_map] at this
    rw [this, rl.len]
  refine PySem.W.sorted_key_data (b := false) (fun x : D × V × Value => .int ((lenD x.1 : Nat) : Int)) hl eb (fun d hd d' hd' => ?_) (.inr fun d hd => ?_) (by rw [bl]; exact hz) (fun x _ => ?_) (ksk_s1 _ _) (fun _ => ksk_l1 _ _) (fun x => ksk_t4 "len" x) (fun w x hR hx g tk kp => ?_) fun out c h' tk kp fr hD hlen eo => ?_
  · obtain ⟨x, _, rfl⟩ := List.mem_map.mp hd
    obtain ⟨y, _, rfl⟩ := List.mem_map.mp hd'
    rfl
  · obtain ⟨x, _, rfl⟩ := List.mem_map.mp hd
    exact ⟨fun z => (nomatch z), fun _ z => (nomatch z)⟩
  · show X.A.units + 2 + 0 < cLine
    omega
  · obtain ⟨ew, r, rr⟩ := hR
    have mx : x.1 ∈ ds := by rw [← zip3_fst rl rvs]; exact List.mem_map.mpr ⟨x, hx, rfl⟩
    have it := ht _ mx
    obtain ⟨d, v2, u2⟩ := x
    simp only at *
    subst ew
    cases d <;> first | exact it.elim | skip
    rename_i es
    obtain ⟨ta, tv, rfl, hT, rL⟩ := tup_partsN r
    obtain rfl : w = Value.ref ta := rr
    obtain ⟨its2, rv2, ⟨o2, ho2, hc2, n2, hd2⟩, hz2⟩ := I.tuple (sub.seqT hT.sq)
    have ei : its2.length = es.length := by rw [← rv2.length, ← rL.len]
    refine len_tuple (s := { s with heap := g, toks := tk }) (items := its2.toArray) ⟨o2, kp _ _ ho2, hc2, n2, hd2⟩ ?_ ?_
    · rw [List.size_toArray, ← rv2.length]
      rw [sizeLine_eq] at hz2
      omega
    · refine ⟨g, _, rfl, fun _ _ e => e, ?_⟩
      rw [List.size_toArray, ei]
      exact .int _ _
  · rw [PySem.W.dataLe_int] at eo
    obtain ⟨g1, g2⟩ := gather3 (K := X.K) (F := F) (H := H) eo
    have es : ((ds.zip (xs.zip its)).mergeSort fun x y => decide (((lenD x.1 : Nat) : Int) ≤ (lenD y.1 : Nat))).map (·.1) = srtN ds := by
      rw [List.map_mergeSort (s := fun a b => decide ((lenD a : Int) ≤ lenD b)) (fun a _ b _ => rfl), zip3_fst rl rvs]; rfl
    rw [es] at g1
    refine ⟨.ref _, upd H (s.heap.objs.size + 1) (.lst _), I.laid (t' := tk) kp (Nat.le_succ _) ⟨?_, out, c, g2, hD⟩, rfl, q _ _ g1 (I.hok.fresh (Nat.le_succ _))⟩
    rw [g2.length, hlen, bl]
    exact hz
section
variable {X : Cx} {K : PySem.W.Frag} {e : Expr} {te : TE} {Te : VT} {P0 P1 kpos pos : Pos} {p : Bool}
theorem pe_srtLen (hu : X.A.units + 64 < cLine) (hg : Gl X "sorted") (hm : X.mg "sorted" = none) (hg2 : Gl X "len") (hm2 : X.mg "len" = none) (ha : PE X e te) (hs : starEach [e] X.env = (false, eval e X.env) :: starEach [] X.env := by rfl)
    (he : backTo pos (starEach [e] X.env) = (false, eval e X.env) :: backTo pos (starEach [] X.env) := by rfl) (hpl : (backTo pos (starEach [e] X.env)).any (·.1) = false := by rfl) :
    PE X (.Call (.Name "sorted" P0) [e] [⟨some "key", .Name "len" P1, kpos⟩] pos) (tUn (rSrtLen X.K) te) := by
  refine ⟨fun pins s σ H Q I h => ?_⟩
  refine wpAny_Call_Name_kw (ld_blt (u := .builtin "sorted") I hg hm (by decide +kernel) ?_ (by decide) (by decide))
  have ha2 : PA X [e] (tCons te tNil) := pa_cons ha pa_nil hs
  refine PyProof.Rows.callWith_kw (L2.thn (ha2.run pos pins s σ H (fun vs H1 => match vs with | [v] => rSrtLen X.K v H1 Q | _ => False) I h) fun us s1 ⟨vs, H1, I1, r1, q1⟩ => ?_) he hpl (by rfl) (by rfl)
  cases r1 with
  | nil => exact q1.elim
  | cons r2 r3 =>
    cases r3 with
    | cons _ _ => exact q1.elim
    | nil =>
      show wpAny _ _ (evalAll ((do let v ← eval (.Name "len" P1) X.env; standAt pos; pure v) :: [])) _ _ s1
      refine wpAny_evalAll_cons (wpAny_bind (ld_blt (u := .builtin "len") I1 hg2 hm2 (by decide +kernel) (wpAny_bind (wpAny_standAt (wpAny_pure (wpAny_evalAll_nil ?_)))) (by decide) (by decide)))
      exact cr_srtLen hu pins s1 σ H1 _ _ Q I1 r2 q1
end
def oSrtN : O1 := fun _ d Q => ∃ ds, (∃ m, d = .lst m ds) ∧ immL ds = true ∧ (∀ d ∈ ds, isTup d) ∧ Q true (.lst true (srtN ds))
section
variable {X : Cx} {K : PySem.W.Frag} {e : Expr} {te : TE} {Te : VT} {P0 P1 kpos pos : Pos} {p : Bool}
theorem lf_srtN : Lf1 K (rSrtLen K) oSrtN := fun F H al1 d1 v1 q1 Q R s o1 q k => by
  obtain ⟨ds, ⟨m, rfl⟩, hi, ht, q⟩ := q
  obtain ⟨a, vs, rfl, h1, rl⟩ := seqL_imm s o1.rep hi
  exact ⟨F, a, vs, ds, rfl, s, h1, rl.mono Sub.refl fun _ h => absurd h (by simp), ht, fun ys p r hq => k _ _ _ _ _ _ (Ans.newL s hq r) q⟩
theorem ve_srtLen (hK : X.K = K) (hu : X.A.units + 64 < cLine) (hg : Gl X "sorted") (hm : X.mg "sorted" = none) (hg2 : Gl X "len") (hm2 : X.mg "len" = none) (ha : VE X K p e te Te) (hs : starEach [e] X.env = (false, eval e X.env) :: starEach [] X.env := by rfl)
    (he : backTo pos (starEach [e] X.env) = (false, eval e X.env) :: backTo pos (starEach [] X.env) := by rfl) (hpl : (backTo pos (starEach [e] X.env)).any (·.1) = false := by rfl) :
    VE X K p (.Call (.Name "sorted" P0) [e] [⟨some "key", .Name "len" P1, kpos⟩] pos) (tUn (rSrtLen K) te) (TU Te oSrtN) := by
  subst hK
  exact ⟨pe_srtLen hu hg hm hg2 hm2 ha.pe hs he hpl, Snd.un ha.snd lf_srtN⟩
/-- the rows of ints by their lengths -/
def srtLI (ls : List (List Int)) : List (List Int) := ls.mergeSort fun a b => decide ((a.length : Int) ≤ b.length)
theorem srtN_rows {ls : List (List Int)} : srtN (ls.map iT) = (srtLI ls).map iT := by
  unfold srtN srtLI
  rw [List.map_mergeSort (s := fun a b => decide ((lenD a : Int) ≤ lenD b)) (fun a _ b _ => by simp [lenD])]
theorem y_srtN {al m : Bool} {ls : List (List Int)} {QB : Bool → D → Prop} : oSrtN al (.lst m (ls.map iT)) QB = K2 QB ⟨⟩ true (.lst true ((srtLI ls).map iT)) := propext ⟨fun ⟨ds, ⟨_, e⟩, _, _, q⟩ => by
  injection e with _ e
  subst e
  rwa [srtN_rows] at q, fun q => ⟨_, ⟨_, rfl⟩, immL_map fun a _ => by rw [imm_tup]; exact immL_ints, fun d hd => by obtain ⟨l, _, rfl⟩ := List.mem_map.mp hd; exact trivial, by rw [srtN_rows]; exact q⟩⟩
end
end VL

namespace VL
open PySem PySem.Spec PyProof.Rows L2
/-! ### x.bit_length() -/
section
variable {X : Cx} {K : PySem.W.Frag} {a : Expr} {ta : TE} {Ta : VT} {p : Bool} {pos apos P0 : Pos}
def rBits : V → Hp → VK → Prop := fun x H Q => ∃ i, x = .int i ∧ Q (.int (Builtin.Int.intBits i : Nat)) H
def oBits : O1 := fun _ d Q => match d with
  | .int i => Q true (.int (Builtin.Int.intBits i : Nat))
  | _ => False
theorem lf_bits : Lf1 K rBits oBits := fun F H al1 d1 v1 q1 Q R s o1 q k => by
  cases d1 <;> first | exact q.elim | skip
  exact ⟨_, o1.int, k F H true _ _ [] (Ans.int s) q⟩
theorem ve_bits (ha : VE X K p a ta Ta) (hbase : attributeBase a "bit_length" X.env (eval a X.env) = eval a X.env := by rfl) (hline : (apos.endLine == pos.line) = true := by rfl) : VE X K p (.Call (.Attribute a "bit_length" apos) [] [] pos) (tUn rBits ta) (TU Ta oBits) :=
  ⟨pe_bits ha.pe hbase hline, Snd.un ha.snd lf_bits⟩
theorem y_bits {al : Bool} {i : Int} {QB : Bool → D → Prop} : oBits al (.int i) QB = K2 QB ⟨⟩ true (.int (Builtin.Int.intBits i : Nat)) := rfl
/-! ### xs[::-1] of a list -/
def rRevL (K : PySem.W.Frag) : V → Hp → VK → Prop := fun x H Q => ∃ a xs, x = .ref a ∧ SqL K H a xs ∧ ∀ p, H p = none → Q (.ref p) (upd H p (.lst xs.reverse))
def oRevL : O1 := fun _ d Q => match d with
  | .lst _ xs => immL xs = true ∧ Q true (.lst true xs.reverse)
  | _ => False
theorem lf_revL : Lf1 K (rRevL K) oRevL := fun F H al1 d1 v1 q1 Q R s o1 q k => by
  cases d1 <;> first | exact q.elim | skip
  rename_i m xs
  obtain ⟨im, q⟩ := q
  obtain ⟨a, vs, rfl, h1, rl⟩ := seqL_imm s o1.rep im
  exact ⟨a, vs, rfl, h1, fun p hp => k _ _ _ _ _ _ (Ans.newL s hp (repL_rev rl)) q⟩
theorem ve_revL {j1 : Nat} {p1 p2 p3 : Pos} (hK : X.K = K) (ha : VE X K p a ta Ta) : VE X K p (.Subscript a (.Slice none none (some (.UnaryOp .USub (.Constant (.int 1) j1 p1) p2)) p3) pos) (tUn (rRevL K) ta) (TU Ta oRevL) := by
  subst hK
  exact ⟨pe_revL ha.pe, Snd.un ha.snd lf_revL⟩
theorem y_revL {al m : Bool} {xs : List D} {QB : Bool → D → Prop} : oRevL al (.lst m xs) QB = (immL xs = true ∧ K2 QB ⟨⟩ true (.lst true xs.reverse)) := rfl
end
/-! ### sorted(d.keys()), the keys ints -/
/-- the view d.keys() at p -/
def keysO (p d : Addr) : HO := .ext fun h => PySem.W.KdlKeysView h p d
theorem keysO_ok {P : Program} {w : World} {H : Hp} {h : Heap} {p d : Addr} (e : h.get? p = some { cls := .type "dict_keys", data := .fields #[.ref d] }) : ObjOk P w H h p (keysO p d) :=
  ⟨⟨_, e, rfl, rfl⟩, ⟨_, e⟩, fun h1 h2 x k => let ⟨o, ho, r⟩ := x; ⟨o, k o ho, r⟩⟩
section
variable {X : Cx} {K : PySem.W.Frag} {a : Expr} {ta : TE} {Ta : VT} {p : Bool} {pos apos cpos P0 : Pos}
def rKeys : V → Hp → VK → Prop := fun x H Q => ∃ (a : Addr) (kvs : List (Key × V)), x = .ref a ∧ Rd H a (.dK kvs) ∧ ∀ p, H p = none → Q (.ref p) (upd H p (keysO p a))
theorem pe_keys (he : PE X a ta) (hbase : attributeBase a "keys" X.env (eval a X.env) = eval a X.env := by rfl) (hline : (apos.endLine == cpos.line) = true := by rfl) : PE X (.Call (.Attribute a "keys" apos) [] [] cpos) (tUn rKeys ta) := by
  refine ⟨fun pins s σ H Q I h => ?_⟩
  refine PySem.wpAny_Call_method (T := "dict") (id := "dict.keys") hbase rfl hline PySem.F.plainAttrs_dict PySem.F.slot_dict_keys PySem.F.type_dict_keys (L2.thn (he.run pins s σ H _ I h) fun u s1 ⟨x, H1, I1, rx, d, kvs, ex, hd, q⟩ => ?_)
  subst ex
  obtain rfl : u = Value.ref d := rx
  obtain ⟨z, hs, vs, rel, hm⟩ := dk_rd I1.hok hd
  refine ⟨hm.typeIs, hm.mapOf.noDict, ?_⟩
  have hf : H1 s1.heap.objs.size = none := I1.hok.fresh (Nat.le_refl _)
  have fin : EP X pins σ Q (.ref s1.heap.objs.size) { s1 with heap := s1.heap.push { cls := .type "dict_keys", data := .fields #[.ref d] } } :=
    ⟨.ref s1.heap.objs.size, upd H1 s1.heap.objs.size (keysO s1.heap.objs.size d), I1.laid (t' := s1.toks) (fun b u e => Heap.get?_push_of_some _ e) (Nat.le_refl _) (keysO_ok (Heap.get?_push_size _ rfl)), rfl, q _ hf⟩
  show wpAny _ _ (callWith cpos (.builtin "dict.keys") [.ref d] [] []) _ X.xe s1
  exact method_meetsIn PySem.F.slot_dict_keys PySem.F.entry_dict_keys rfl (PySem.evalArgs_none ⟨rfl, hm.typeIs, PySem.F.args_dict_keys_1 _, _, PySem.W.kdl_meets_keys (mixKind X.prog X.w) d hs, ⟨vs, hm⟩, fin⟩)
/-- sorted(v), v the keys of a dict, fewer than 64, all ints -/
def rSrtKeys : List V → Hp → VK → Prop := fun xs H Q => ∃ (v a : Addr) (kvs : List (Key × V)) (ks : List Int), xs = [.ref v] ∧ H v = some (keysO v a) ∧ Rd H a (.dK kvs) ∧ kvs.map (·.1) = ks.map Sum.inl ∧ ks.length < 64 ∧
    ∀ (ys : List Int) (p : Addr), ys.Perm ks → ys.Pairwise (· ≤ ·) → H p = none → Q (.ref p) (upd H p (.lst (ys.map V.int)))
theorem cr_srtKeys (hcalm : X.calm = true) : CallR X (.builtin "sorted") rSrtKeys := by
  intro pins s σ H xs us Q I r q
  obtain ⟨v, a, kvs, ks, rfl, hv, hd, hks, h64, q⟩ := q
  obtain ⟨u, rfl, rx⟩ := vals1 r
  cases rx
  have view : PySem.W.KdlKeysView s.heap v a := (show ObjOk X.prog X.w H s.heap v (keysO v a) from I.hok v _ hv).1
  obtain ⟨z, lo, vs, rel, dd⟩ := dk_rd I.hok hd
  obtain ⟨ep, hat⟩ := dd.dictAt
  have hkeys : vs.map (·.1) = ks.map Sum.inl := rel.keys.symm.trans hks
  have hl : vs.length = ks.length := by simpa using congrArg List.length hkeys
  refine Calls.call_function_entry PyProof.Rows.kind_sorted PyProof.Rows.plain_sorted PyProof.Rows.entry_sorted (PyProof.Rows.args_sorted1 _) ?_
  unfold Builtin.«sorted»
  refine wpAny_bind (m := checkCount "sorted" 1 1 _) (wpAny_pure ?_)
  refine wpAny_bind (PySem.W.kdu_collect (A := X.A.in1) (PySem.W.kdl_keys (knd := mixKind X.prog X.w) (kvs := vs) (ep := ep)) (I.ok.hd hcalm) ⟨view, hat⟩ (by rw [hl, sizeLine_eq]; omega) fun h' tk acc hk hacc => ?_)
  have hal : acc.toList.length = ks.length := by rw [Array.length_toList, hacc.1, hl]
  have hS : IntsAre acc.toList ks := ints_each hal fun j x e => by
    obtain ⟨t, e2⟩ := key_int hkeys j x (hacc.2 j x (by rw [← Array.getElem?_toList]; exact e))
    have hj : j < ks.length := by rw [← hal]; exact (List.getElem?_eq_some_iff.mp e).1
    exact ⟨ks[j], t, List.getElem?_eq_getElem hj, by rw [e2, List.getD_eq_getElem?_getD, List.getElem?_eq_getElem hj]; rfl⟩
  have I1 : Inv X pins σ H { s with heap := h', toks := tk } := I.kept hk
  refine wpAny_bind (wpAny_newList ?_ (by rw [hal, sizeLine_eq]; omega))
  have hoL : (h'.push (seqObj "list" acc.toList.toArray 0)).get? h'.objs.size = some (seqObj "list" acc.toList.toArray 0) := Heap.get?_push_size _ rfl
  show wpAny _ _ _ _ _ { s with heap := h'.push (seqObj "list" acc.toList.toArray 0), toks := tk }
  refine wpAny_bind (wpAny_holding (wpAny_call_entry PyProof.Rows.slot_list_sort ⟨_, hoL, rfl⟩ PyProof.Rows.entry_list_sort
    (PyProof.Rows.list_sort_tree (s := { s with heap := h'.push (seqObj "list" acc.toList.toArray 0), toks := tk }) hoL hS (by rw [hal]; exact h64) fun out ys g1 g2 g3 => ⟨_, rfl, ?_⟩) (PyProof.Rows.args_list_sort _)))
  obtain ⟨e', he'⟩ := PyProof.Rows.sortedHeap_at (vs := acc.toList) (out := out) hoL
  have hlen : (ys.map V.int).length ≤ sizeLine := by
    rw [List.length_map, g2.length_eq, sizeLine_eq]; omega
  refine wpAny_pure ⟨_, rfl, .ref h'.objs.size, upd H h'.objs.size (.lst (ys.map V.int)), I1.laid (t' := tk) (fun b u e => ?_) (Nat.le_refl _)
    (show ObjOk X.prog X.w _ _ _ (.lst (ys.map V.int)) from ⟨hlen, out.toList, e', vals_of_ints g1, by rw [Array.toArray_toList]; exact he'⟩), rfl, q ys _ g2 g3 (I1.hok.fresh (Nat.le_refl _))⟩
  have hb : b < h'.objs.size := Heap.lt_size e
  rw [PyProof.Rows.sortedHeap_old (Nat.ne_of_lt hb) (by rw [size_push']; exact Nat.lt_succ_of_lt hb)]
  exact Heap.get?_push_of_some _ e
def rSrtK : V → Hp → VK → Prop := fun v H Q => rKeys v H fun v' H' => rSrtKeys [v'] H' Q
def oSrtK : O1 := fun _ d Q => ∃ (m : Bool) (ns : List Int) (ds : List D), d = .dK m (ns.map Sum.inl) ds ∧ ns.length < 64 ∧ Q true (.lst true ((srtI ns).map D.int))
theorem lf_srtK : Lf1 K rSrtK oSrtK := fun F H al1 d1 v1 q1 Q R s o1 q k => by
  obtain ⟨m, ns, ds, rfl, h64, q⟩ := q
  obtain ⟨a, vs, fi, rfl, h1, hl, rl, _, _⟩ := dict_rd s o1.rep
  refine ⟨a, _, rfl, h1, fun p hp => ?_⟩
  have g1 : Grow F H F (upd H p (keysO p a)) := Grow.owned s hp
  have s1 := g1.sub
  have ea : ∀ u, Rd H a u → Rd (upd H p (keysO p a)) a u := fun u hr => by
    have ne : a ≠ p := by
      rintro rfl
      rcases hr with e | ⟨o, e⟩
      · rw [hp] at e; cases e
      · rw [hp] at e; cases e
    rcases hr with e | ⟨o, e⟩
    · exact .inl (by rw [upd_ne ne]; exact e)
    · exact .inr ⟨o, by rw [upd_ne ne]; exact e⟩
  refine ⟨p, a, _, ns, rfl, upd_same, ea _ h1, by rw [List.map_fst_zip (by rw [hl]; exact Nat.le_of_eq rl.len)], h64, fun ys p2 r1 r2 hp2 => ?_⟩
  have e0 : ys = srtI ns := srtI_uniq r1 r2
  rw [e0]
  have an := Ans.newL (K := K) (al1 := al1) (q1 := q1) s1 hp2 (RepL.ofInts (ns := srtI ns))
  refine k F _ true _ _ [p2] ⟨an.rep, g1.trans an.grow, fun z => ⟨(an.sep z).1, fun b hb => ?_⟩⟩ q
  have e : b = p2 := by simpa using hb
  subst e
  refine ⟨((an.sep z).2 b hb).1, .inl ?_⟩
  cases e : H b with
  | none => rfl
  | some o => have := g1.hsub b o e; rw [hp2] at this; cases this
theorem ve_srtK (hK : X.K = K) (hc : X.calm = true) (hg : Gl X "sorted") (hm : X.mg "sorted" = none) (ha : VE X K p a ta Ta)
    (hbase : attributeBase a "keys" X.env (eval a X.env) = eval a X.env := by rfl) (hline : (apos.endLine == cpos.line) = true := by rfl)
    (he : starEach [.Call (.Attribute a "keys" apos) [] [] cpos] X.env = [(false, eval (.Call (.Attribute a "keys" apos) [] [] cpos) X.env)] := by rfl) :
    VE X K p (.Call (.Name "sorted" P0) [.Call (.Attribute a "keys" apos) [] [] cpos] [] pos) (tUn rSrtK ta) (TU Ta oSrtK) := by
  subst hK
  exact ⟨pe_callB (cr_srtKeys hc) hg hm (by decide) (pa_cons (pe_keys ha.pe hbase hline) pa_nil he) (by decide) (by decide) he rfl, Snd.un ha.snd lf_srtK⟩
theorem y_srtK {al m : Bool} {ns : List Int} {ds : List D} {QB : Bool → D → Prop} : oSrtK al (.dK m (ns.map Sum.inl) ds) QB = (ns.length < 64 ∧ K2 QB ⟨⟩ true (.lst true ((srtI ns).map D.int))) := propext (Iff.intro (fun h => by
  obtain ⟨m', ns', ds', e, h1, h2⟩ := h
  injection e with e1 e2 e3
  have : ns = ns' := by
    have := congrArg (List.map fun k : Key => match k with | .inl i => i | .inr _ => (0 : Int)) e2
    simpa [List.map_map, Function.comp_def] using this
  subst this
  exact ⟨h1, h2⟩) fun h => ⟨m, ns, ds, rfl, h.1, h.2⟩)
end
end VL

namespace VL
open PySem PySem.Spec PyProof.Rows L2
/-! ### a row of one's own is lent while an expression is reckoned that may write other slots -/
def borOk2 : SV → SV → Prop
  | [], _ => True
  | _ :: _, [] => False
  | d :: S, e :: S' => (e.nofz = true ∨ (d.imm = true ∧ e = d)) ∧ borOk2 S S'
theorem RepO.back2 {K : PySem.W.Frag} {F H F2 H2 G : Hp} {B : List Addr} (hB : ∀ a ∈ B, ∃ o, H2 a = some o ∧ Mu o) (sub : Sub F2 H2) (hG : ∀ a, a ∉ B → G a = F2 a) (hF : Sub F G) {d d' : D} {ov : Option V} {f fN : List Addr} (h0 : RepO K F H d ov f) (h : RepO K F2 H2 d' ov fN) (c : d'.nofz = true ∨ (d.imm = true ∧ d' = d)) : RepO K G H2 d' ov fN := by
  cases ov with
  | none => exact h
  | some v =>
    have h' : Rep K F2 H2 d' v fN := h
    rcases c with c | ⟨ci, rfl⟩
    · exact Rep.lent hB sub hG h' c
    · have h0' : Rep K F H d' v f := h0
      have e0 := Rep.ofImm h0' ci
      have e1 := Rep.ofImm h' ci
      subst e0; subst e1
      exact Rep.mono hF h0' fun a ha => absurd ha (by simp)
theorem RepS.back2 {K : PySem.W.Frag} {F H F2 H2 G : Hp} {B : List Addr} (hB : ∀ a ∈ B, ∃ o, H2 a = some o ∧ Mu o) (sub : Sub F2 H2) (hG : ∀ a, a ∉ B → G a = F2 a) (hF : Sub F G) : ∀ {S S' : List D} {σ : L2.St} {f fN : List Addr}, RepS K F H S σ f → RepS K F2 H2 S' σ fN → borOk2 S S' → RepS K G H2 S' σ fN
  | [], [], _, _, _, _, h, _ => h
  | [], d' :: S', _, _, _, h0, h, _ => by
    obtain ⟨ov', σ'', g1, g2, e, rfl, b1, b2⟩ := h
    subst e
    exact absurd h0.1 (by simp)
  | d :: S, [], _, _, _, _, _, c => c.elim
  | d :: S, d' :: S', _, _, _, h0, h, c => by
    obtain ⟨ov, σ', f1, f2, rfl, rfl, a1, a2⟩ := h0
    obtain ⟨ov', σ'', g1, g2, e, rfl, b1, b2⟩ := h
    injection e with e1 e2
    subst e1; subst e2
    exact ⟨ov, σ', g1, g2, rfl, rfl, a1.back2 hB sub hG hF b1 c.1, RepS.back2 hB sub hG hF a2 b2 c.2⟩
/-- slot i is lent while T is reckoned; T may write other slots -/
def TBorM (i : Nat) (T : VT) : VT := fun S Q => okS S i ∧ T (S.set i (fz (S.getD i .unk))) fun S1 al d => d.imm = true ∧ d.nofz = true ∧ borOk2 (S.set i .unk) (S1.set i .unk) ∧ Q (S1.set i (S.getD i .unk)) true d
section
variable {X : Cx} {K : PySem.W.Frag} {e : Expr} {te : TE} {T : VT} {p : Bool}
theorem Snd.lendM {i : Nat} (h : Snd K p te T) : Snd K false te (TBorM i T) := fun F H σ S fp Q R g q kk => by
  obtain ⟨q0, q⟩ := q
  obtain ⟨v, ev⟩ := good_slot g q0
  have hi : i < S.length := by rw [g.rep.len]; exact (List.getElem?_eq_some_iff.mp ev).1
  obtain ⟨ov, f1, f2, f3, e1, efp, ro, pt⟩ := g.rep.lens (List.getElem?_eq_getElem hi)
  rw [ev] at e1
  cases e1
  have eD : S.getD i .unk = S[i] := by rw [List.getD_eq_getElem?_getD, List.getElem?_eq_getElem hi]; rfl
  rw [eD] at q
  have ro' : Rep K F H S[i] v f2 := ro
  have nd := g.nd
  rw [efp, List.nodup_append] at nd
  obtain ⟨n1, n2, n3⟩ := nd
  rw [List.nodup_append] at n2
  have rf : Rep K (bor f2 F H) H (fz S[i]) v [] := Rep.fz (bor_sub1 g.sub) ro' fun a ha o e => by rw [bor_in ha]; exact e
  have ru : RepS K (bor f2 F H) H (S.set i (fz S[i])) (σ.set i (some v)) (f1 ++ ([] ++ f3)) := pt (bor_sub1 g.sub) (fun a _ o e => e) rf
  have ru0 : RepS K F H (S.set i .unk) (σ.set i (some v)) (f1 ++ ([] ++ f3)) := pt Sub.refl (fun a _ o e => e) (show Rep K F H .unk v [] by rw [Rep])
  rw [set_self ev, List.nil_append] at ru ru0
  have sub : ∀ a ∈ f1 ++ f3, a ∈ fp ∧ a ∉ f2 := fun a ha => by
    refine ⟨by rw [efp]; rcases List.mem_append.mp ha with y | y <;> simp [y], fun hb => ?_⟩
    rcases List.mem_append.mp ha with y | y
    · exact n3 a y a (List.mem_append_left _ hb) rfl
    · exact n2.2.2 a hb a y rfl
  have f2p : ∀ a ∈ f2, a ∈ fp := fun a ha => by rw [efp]; simp [ha]
  have g' : Good K (bor f2 F H) H σ (S.set i (fz S[i])) (f1 ++ f3) := ⟨bor_sub2 g.sub, ru, List.nodup_append.mpr ⟨n1, n2.2.1, fun a ha b hb => n3 a ha b (List.mem_append_right _ hb)⟩, fun a ha => by rw [bor_out (sub a ha).2]; exact g.dis a (sub a ha).1⟩
  refine h (bor f2 F H) H σ _ (f1 ++ f3) _ _ g' q fun F2 H2 S2 fp2 al d v2 fq res q2 => ?_
  obtain ⟨im, nz, ok, q3⟩ := q2
  have hBd : ∀ a ∈ f2, F a = none ∧ a ∉ f1 ++ f3 := fun a ha => ⟨g.dis a (f2p a ha), fun z => (sub a z).2 ha⟩
  obtain ⟨st, sb⟩ := unbor_step g.sub res.good.sub hBd res.step
  have hmu : ∀ a ∈ f2, ∃ o, H a = some o ∧ Mu o := ro'.mu
  have hB2 : ∀ a ∈ f2, ∃ o, H2 a = some o ∧ Mu o := fun a ha => let ⟨o, e, m⟩ := hmu a ha; ⟨o, res.step.keep a o e (hBd a ha).2, m⟩
  -- the other slots
  have hl2 : i < S2.length := by rw [res.good.rep.len]; exact (List.getElem?_eq_some_iff.mp ev).1
  have hi2 : S2[i]? = some S2[i] := List.getElem?_eq_getElem hl2
  obtain ⟨ov2, g1, g2, g3, e2, efp2, ro2, pt2⟩ := res.good.rep.lens hi2
  rw [ev] at e2
  cases e2
  have rn : RepS K F2 H2 (S2.set i .unk) (σ.set i (some v)) (g1 ++ ([] ++ g3)) := pt2 Sub.refl (fun a _ o e => e) (show Rep K F2 H2 .unk v [] by rw [Rep])
  rw [set_self ev, List.nil_append] at rn
  have rb : RepS K (unbor f2 F F2) H2 (S2.set i .unk) σ (g1 ++ g3) := RepS.back2 hB2 res.good.sub (fun a ha => unbor_out ha) st.fsub ru0 rn ok
  have hi3 : (S2.set i (.unk : D))[i]? = some .unk := by rw [List.getElem?_set_self hl2]
  obtain ⟨ov3, k1, k2, k3, e3, efp3, ro3, pt3⟩ := rb.lens hi3
  rw [ev] at e3
  cases e3
  have k2e : k2 = [] := by
    have : Rep K (unbor f2 F F2) H2 .unk v k2 := ro3
    rw [Rep] at this
    exact this
  subst k2e
  rw [List.nil_append] at efp3
  have rk : Rep K (unbor f2 F F2) H2 S[i] v f2 := Rep.mono st.fsub ro' fun a ha o e => res.step.keep a o e (hBd a ha).2
  have rS : RepS K (unbor f2 F F2) H2 ((S2.set i .unk).set i S[i]) (σ.set i (some v)) (k1 ++ (f2 ++ k3)) := pt3 Sub.refl (fun a _ o e => e) rk
  rw [set_self ev, List.set_set] at rS
  have kp : ∀ a, a ∈ k1 ++ k3 → a ∈ fp2 := fun a ha => by
    rw [← efp3] at ha
    rw [efp2]
    rcases List.mem_append.mp ha with y | y <;> simp [y]
  have own2 : ∀ a ∈ k1 ++ k3, a ∉ f2 ∧ (a ∈ fp ∨ H a = none) := fun a ha => by
    rcases res.step.own a (kp a ha) with y | y
    · exact ⟨(sub a y).2, .inl (sub a y).1⟩
    · refine ⟨fun z => ?_, .inr y⟩
      obtain ⟨o, e, _⟩ := hmu a z
      rw [y] at e; cases e
  have nk : (k1 ++ k3).Nodup := by
    have n := res.good.nd
    rw [efp2, List.nodup_append] at n
    obtain ⟨m1, m2, m3⟩ := n
    rw [List.nodup_append] at m2
    rw [← efp3]
    exact List.nodup_append.mpr ⟨m1, m2.2.1, fun a ha b hb => m3 a ha b (List.mem_append_right _ hb)⟩
  rw [List.nodup_append] at nk
  have fe := Rep.ofImm res.rep im
  subst fe
  have rR : Rep K (unbor f2 F F2) H2 d v2 [] := Rep.lent hB2 res.good.sub (fun a ha => unbor_out ha) res.rep nz
  refine kk (unbor f2 F F2) H2 (S2.set i S[i]) (k1 ++ (f2 ++ k3)) true d v2 [] ⟨⟨sb, rS, ?_, fun a ha => ?_⟩, rR, ⟨st.fsub, fun a o e hn => st.keep a o e fun z => hn (sub a z).1, fun a hh => ?_, fun a ha => ?_⟩, fun _ => ⟨List.nodup_nil, fun a ha => absurd ha (by simp)⟩, (fun z => nomatch z)⟩ q3
  · refine List.nodup_append.mpr ⟨nk.1, List.nodup_append.mpr ⟨n2.1, nk.2.1, fun a ha b hb e => ?_⟩, fun a ha b hb e => ?_⟩
    · subst e; exact (own2 a (List.mem_append_right _ hb)).1 ha
    · subst e
      rcases List.mem_append.mp hb with y | y
      · exact (own2 a (List.mem_append_left _ ha)).1 y
      · exact nk.2.2 a ha a y rfl
  · by_cases c : a ∈ f2
    · rw [unbor_in c]; exact g.dis a (f2p a c)
    · rw [unbor_out c]
      refine res.good.dis a (kp a ?_)
      rcases List.mem_append.mp ha with y | y
      · exact List.mem_append_left _ y
      · exact List.mem_append_right _ ((List.mem_append.mp y).resolve_left c)
  · rcases st.fnew a hh with y | y | y
    · exact .inl y
    · exact .inr (.inl (sub a y).1)
    · exact .inr (.inr y)
  · by_cases c : a ∈ f2
    · exact .inl (f2p a c)
    · refine (own2 a ?_).2
      rcases List.mem_append.mp ha with y | y
      · exact List.mem_append_left _ y
      · exact List.mem_append_right _ ((List.mem_append.mp y).resolve_left c)
theorem ve_borM (i : Nat) (h : VE X K p e te T) : VE X K false e te (TBorM i T) := ⟨h.pe, Snd.lendM h.snd⟩
theorem x_TBorM {i : Nat} {S : SV} {Q : SV → Bool → D → Prop} : TBorM i T S Q = (okS S i ∧ T (S.set i (fz (S.getD i .unk))) fun S1 al d => d.imm = true ∧ d.nofz = true ∧ borOk2 (S.set i .unk) (S1.set i .unk) ∧ K3 Q ⟨⟩ (S1.set i (S.getD i .unk)) true d) := rfl
theorem borOk2_cons {d e : D} {S S' : SV} : borOk2 (d :: S) (e :: S') = ((e.nofz = true ∨ (d.imm = true ∧ e = d)) ∧ borOk2 S S') := rfl
theorem borOk2_nil {S : SV} : borOk2 [] S = True := rfl
end
end VL

namespace My
open PySem PySem.Spec PyProof.Rows L2 VL
def topS (i : Nat) : Stmt := PySem.Challenge.pw_ringfell_k52_sets_crossed.main.body.getD i (.Pass ⟨0, 0, 0, 0⟩)
local macro_rules | `(tactic| walk_at "vl") => `(tactic| simp -dsimp only [↓x_TSetDD, ↓y_bits, ↓y_revL, ↓y_srtK, ↓z_tindexP, ↓c_tindexP, ↓x_TCallX0, ↓x_TCallXB, ↓x_TDropX, ↓x_TRetX, ↓x_TAsgX, ↓x_TTry, ↓x_noX, ↓x_TRaise, xq_exc, xq_lst, xq_tup, xq_int, xq_bl, xq_str, xq_non, nxa_lst, nxa_tup, nxa_int, nxa_bl, nxa_str, nxa_non, ↓y_isX0, ↓y_isXe, ↓y_isB, ↓y_eqLI1, x_and1, cutD_map, rep_map, nofzL_kn, immL_kn, fzL_kn, lnz, ln0, ln1, ln2, ln3, ln4, ln5, ln6, ln7, ln8, ln9, ln10, ln11, ln12, inK_ints, ↓y_eqPr, ↓y_eqWeb, ↓y_eqLTs, ↓y_eqTTs, ↓c_inTLs, ↓c_inTTs, ↓c_inT1Ls, ↓c_inT1Ts, ↓c_inT0Ls, immL_iTs, nofzL_iTs, nofzL_prs, fzL_iTs, ↓y_eqTI, ↓y_eqLI, ↓y_eqTP, ↓y_eqLP, ↓y_eqLTnil, ↓y_eqLInil, ↓y_eqLPnil, ↓y_eqTInil, ↓c_inIL, ↓c_inIT, ↓c_inPL, ↓c_inPT, ↓c_inI2, ↓c_inI3, ↓c_inP2, ↓p2D_eq, ↓y_repT, ↓z_srt, ↓z_sortset, ↓z_lenset, ↓c_iL, ↓c_iT, ↓c_pL, ↓c_pT, ↓c_ssL, ↓c_ssT, ↓c_lsL, ↓c_lsT, ↓z_minT, ↓z_maxT, ↓z_count, ↓x_TAugI, ↓w_TDG2, ↓atG_ints, iteD_int, ↓x_TIKeys, ↓x_TIVals, ↓x_TIItems, ↓x_TPDIx, getP_m, upF_dm, upF_int, keys_ints, items_ints, ↓y_listK, ↓y_listRev, ↓y_tupRevL, ↓y_tupRevT, ↓y_eqE, ↓y_slRev, ↓z_min2D, ↓c_min2T, ↓z_minK, ↓z_dpop, fzL_dm, immL_dm, nofzL_dm, fzL_intf, immL_intf, nofzL_intf, isDK_d, keyD_i, keyD_s, ↓x_TIRev, ↓x_TIEnum, ↓x_TIEnumA, enumD_map, ↓x_TIZip, ↓x_TIZipX, ↓y_ext, ↓y_extT, ↓y_srtN, ↓y_sumT3, ↓y_rep, ↓x_TPIx, nearG_len, nearG_fz, fzL_prs, immL_prs, ↓x_TB1, ↓x_TT1, isTup_t, ↓z_tindex, ↓z_tcount, ↓c_tindexI, ↓c_tcountI, ↓c_tcountP, ↓x_TM2, ↓x_TM2i, ↓x_TBor, borOk_cons, borOk_nil, ↓x_TBorM, borOk2_cons, borOk2_nil, ↓x_TDNew, isLst_l, ↓z_sum, ↓z_all, ↓z_any, ↓z_max1, ↓z_min1, ↓z_sorted, ↓z_in, ↓z_index, ↓y_int1i, ↓y_int1b, ↓y_listL, ↓y_listT, ↓y_tupL, ↓y_tupT, ↓y_lrg, ↓y_trg, ↓w_dixI, ↓w_dixS, ↓atQ_ints, ↓y_dinI, ↓y_dinS, ↓z_dset, ↓y_ins, ↓y_popat, ↓x_TM0, ↓y_pop, scal_dK, imm_dK, fz_dK, nofz_dK, isTy_l, isTy_d, ↓y_isNd, ty_dK, k1_go, k2_go, k3_go, onI_int, fzL_ints, immL_ints, nofzL_ints, ↓x_TLc, ↓x_TYes, put1_some, put1_none, wipeS_nil, wipeS_cons, backS_nil, backS_cons, ↓x_TC, ↓x_TU, ↓x_T2, ↓x_TV, ↓x_TANil, ↓x_TACons, ↓x_TARw, ↓x_TARo, ↓x_TLst, ↓x_TTup, ↓x_TCall0, ↓x_TCallB, ↓x_TCall1, ↓x_TSeq, ↓x_TCut, mrev, ↓x_TIfE, ↓x_TD1, ↓x_TChain, ↓z_minL, ↓c_minLI, ↓z_minDf, set_ints, ↓c_minP2, ↓c_maxP2, ↓x_TNext, ↓x_TBrk, ↓x_TCnt, ↓x_TNever, ↓x_TDrop, ↓x_TRet, ↓x_TRetN, ↓x_TIf, ↓x_TAsg, ↓x_TGName, ↓x_TGNil, ↓x_TGCons, ↓x_TGTup, ↓x_TQ, ↓x_TNotV, ↓x_TAndV, ↓x_TOrV, ↓x_TNotB, ↓x_TAndB, ↓x_TOrB, ↓x_TPar, ↓x_TTake, ↓x_TFrz, ↓x_TFz, ↓x_TFor, ↓x_TIR1, ↓x_TIR2, ↓x_TISeq, ↓x_TPName, ↓x_TGSub, ↓x_TM1, ↓x_TSl, ↓x_TPart, ↓y_oI, ↓y_oB, ↓y_addI, ↓y_addS, ↓y_addL, ↓y_addT, ↓y_ixL, ↓y_ixT, ↓y_neg, ↓y_abs, ↓y_eqI, ↓y_eqBl, ↓y_eqS, ↓y_isNn, ↓y_isNi, ↓y_isNb, ↓y_isNs, ↓y_isNt, ↓y_isNl, ↓y_max, ↓y_min, ↓y_dm, ↓y_lenL, ↓y_lenT, ↓y_isi, ↓y_isi2, ↓y_app, ↓y_set, ↓y_slL, ↓y_slT, ty_non, ty_bl, ty_int, ty_str, ty_tup, ty_lst, imm_int, imm_bl, imm_str, imm_non, imm_unk, imm_tup, imm_lst, immL_nil, immL_cons, scal_int, scal_bl, scal_str, scal_non, scal_tup, scal_lst, nofz_int, nofz_bl, nofz_str, nofz_non, nofz_tup, nofz_lst, nofzL_nil, nofzL_cons, fz_int, fz_bl, fz_str, fz_non, fz_unk, fz_tup, fz_lst', fzL_nil, fzL_cons, okS_0, okS_s, argD, AK.d, AK.al, AK.isVal, wfA, atP, putP, gP_nil, sP_nil, gP_ix, sP_ix, gP_tx, sP_tx, isTy, atI_0, atI_1, atI_2, ixN_0, ixN_1, begin_eq, fin_0, fin_1, fin_2, fin_3, fin_4, List.length_cons, List.length_nil, List.length_set, List.getElem?_cons_zero, List.getElem?_cons_succ, List.getElem?_nil, List.set_cons_zero, List.set_cons_succ, List.getD_cons_zero, List.getD_cons_succ, List.all_cons, List.all_nil, List.map_cons, List.map_nil, List.cons_append, List.nil_append, List.append_nil, List.replicate_succ, List.replicate_zero, List.isEmpty_nil, List.mem_cons, List.not_mem_nil, List.length_append, List.length_map, List.mem_singleton, Bool.and_true, Bool.true_and, Bool.or_true, Bool.true_or, Bool.or_false, Bool.false_or, Bool.and_false, Bool.false_and, Bool.and_self, Bool.or_self, Bool.not_true, Bool.not_false, Bool.false_bne, Bool.true_bne, bne_self_eq_false, Bool.not_eq_true', Bool.not_eq_false', decide_eq_true_eq, decide_eq_false_iff_not, decide_true, decide_false, true_and, and_true, false_and, and_false, true_implies, false_implies, implies_true, forall_const, eq_self, reduceCtorEq, reduceIte, if_true, if_false, Nat.sub_zero, Nat.add_one_sub_one, Nat.reduceAdd, Nat.reduceSub, Nat.reduceLT, Nat.reduceLeDiff, Nat.reduceEqDiff, or_true, true_or, or_false, false_or, not_true_eq_false, not_false_eq_true, ne_eq, Nat.lt_irrefl, Nat.zero_lt_succ, Nat.succ_ne_zero, Ty.sub])
local macro_rules | `(tactic| walk_at "ob") => `(tactic| first | (unfold CPow; decide +kernel) | decide | (rw [line_eq]; omega) | exact mulS (by omega) (by omega) (by omega) (by omega) | exact divS (by omega) (by omega) | omega | exact mulN 900 900 (by decide) (by decide) (by decide) (by decide +kernel) (by decide +kernel) (by decide +kernel) (by decide +kernel) | decide +kernel)
local macro_rules | `(tactic| walk_at "vs") => `(tactic| repeat (first | (refine ⟨fun _ => ?_, fun z => absurd (by assumption) z⟩) | (refine ⟨fun z => absurd z (by assumption), fun _ => ?_⟩)))
local macro_rules | `(tactic| walk_at "obs") => `(tactic| ((with_reducible and_intros); all_goals try walk_at "ob"))

abbrev tupI (l : List Int) : D := .tup (l.map D.int)
def rngI (n : Int) : List Int := (List.range n.toNat).map fun k : Nat => (k : Int)
theorem rng_rngI {n : Int} : rng 0 n.toNat = (rngI n).map D.int := rng_I
theorem rngI_len {n : Int} : (rngI n).length = n.toNat := by simp [rngI]
/-! least sets that cross, as numbers with a bit for each place -/
def Subm (a b : Nat) : Prop := ∀ i, a.testBit i = true → b.testBit i = true
theorem subm_and {a b : Nat} : a &&& b = a ↔ Subm a b := by
  constructor
  · intro h i hi
    have := congrArg (·.testBit i) h
    simp only [Nat.testBit_and, hi, Bool.true_and] at this
    exact this
  · intro h
    refine Nat.eq_of_testBit_eq fun i => ?_
    rw [Nat.testBit_and]
    cases e : a.testBit i with
    | false => rfl
    | true => rw [h i e]; rfl
theorem meet_pos {a b : Nat} : 0 < a &&& b ↔ ∃ i, a.testBit i = true ∧ b.testBit i = true := by
  constructor
  · intro h
    obtain ⟨i, hi⟩ := Nat.exists_testBit_of_ne_zero (Nat.pos_iff_ne_zero.mp h)
    rw [Nat.testBit_and, Bool.and_eq_true] at hi
    exact ⟨i, hi⟩
  · rintro ⟨i, h1, h2⟩
    refine Nat.pos_of_ne_zero fun z => ?_
    have := congrArg (·.testBit i) z
    simp [Nat.testBit_and, h1, h2] at this
theorem subm_antisymm {a b : Nat} (h1 : Subm a b) (h2 : Subm b a) : a = b := Nat.eq_of_testBit_eq fun i => by
  rw [Bool.eq_iff_iff]; exact ⟨h1 i, h2 i⟩
theorem Subm.refl {a : Nat} : Subm a a := fun _ h => h
theorem Subm.trans {a b c : Nat} (h1 : Subm a b) (h2 : Subm b c) : Subm a c := fun i h => h2 i (h1 i h)
theorem bit_pow {p i : Nat} : (2 ^ p).testBit i = decide (p = i) := Nat.testBit_two_pow
theorem bit_or {m p i : Nat} : (m ||| 2 ^ p).testBit i = true ↔ m.testBit i = true ∨ p = i := by
  rw [Nat.testBit_or, bit_pow, Bool.or_eq_true, decide_eq_true_eq]
/-- the bits of a number, rising -/
def plB (m : Nat) : List Nat := (List.range (if m = 0 then 0 else m.log2 + 1)).filter fun i => m.testBit i
theorem mem_plB {m i : Nat} : i ∈ plB m ↔ m.testBit i = true := by
  unfold plB
  rw [List.mem_filter, List.mem_range]
  refine ⟨fun h => h.2, fun h => ⟨?_, h⟩⟩
  have h2 := Nat.ge_two_pow_of_testBit h
  have h0 : m ≠ 0 := fun z => by rw [z] at h; simp at h
  rw [if_neg h0]
  have := (Nat.le_log2 h0).mpr h2
  omega
theorem plB_lt {m : Nat} : (plB m).Pairwise (· < ·) := List.pairwise_lt_range.sublist List.filter_sublist
/-- the number of some places -/
def mkB (l : List Nat) : Nat := l.foldl (fun m p => m ||| 2 ^ p) 0
theorem mkB_aux : ∀ (l : List Nat) (m i : Nat), (l.foldl (fun m p => m ||| 2 ^ p) m).testBit i = true ↔ m.testBit i = true ∨ i ∈ l
  | [], m, i => by simp
  | p :: l, m, i => by
    rw [List.foldl_cons, mkB_aux l, bit_or, List.mem_cons]
    constructor
    · rintro ((h | h) | h)
      · exact .inl h
      · exact .inr (.inl h.symm)
      · exact .inr (.inr h)
    · rintro (h | h | h)
      · exact .inl (.inl h)
      · exact .inl (.inr h.symm)
      · exact .inr h
theorem mem_mkB {l : List Nat} {i : Nat} : (mkB l).testBit i = true ↔ i ∈ l := by
  unfold mkB
  rw [mkB_aux]
  simp
/-- a number that crosses all of some sets; a least one -/
def Hit (F : List Nat) (m : Nat) : Prop := ∀ s ∈ F, 0 < m &&& s
def LeastH (F : List Nat) (m : Nat) : Prop := Hit F m ∧ ∀ t, Subm t m → Hit F t → t = m
theorem Hit.mono {F : List Nat} {a b : Nat} (h : Hit F a) (s : Subm a b) : Hit F b := fun x hx => by
  obtain ⟨i, h1, h2⟩ := meet_pos.mp (h x hx)
  exact meet_pos.mpr ⟨i, s i h1, h2⟩
/-- within each number that crosses there is a least one -/
theorem least_in {F : List Nat} : ∀ m, Hit F m → ∃ t, Subm t m ∧ LeastH F t := by
  intro m
  induction m using Nat.strongRecOn with
  | ind m ih =>
    intro h
    by_cases c : ∃ t, Subm t m ∧ Hit F t ∧ t ≠ m
    · obtain ⟨t, h1, h2, h3⟩ := c
      have : t ≤ m := by rw [← subm_and.mpr h1]; exact Nat.and_le_right
      obtain ⟨u, u1, u2⟩ := ih t (by omega) h2
      exact ⟨u, u1.trans h1, u2⟩
    · exact ⟨m, .refl, h, fun t h1 h2 => Classical.byContradiction fun z => c ⟨t, h1, h2, z⟩⟩
/-- one set more -/
def crKept (found : List Nat) (s : Nat) : List Nat := found.filter fun m => decide (0 < m &&& s)
def crPut (kept : List Nat) (s m : Nat) : List Nat := ((plB s).map fun p => m ||| 2 ^ p).filter fun t => decide ¬ (∃ o ∈ kept, o &&& t = o)
def crOn (found : List Nat) (s : Nat) : List Nat := crKept found s ++ (found.filter fun m => decide ¬ (0 < m &&& s)).flatMap (crPut (crKept found s) s)
structure Crs (F found : List Nat) : Prop where
  nd : found.Nodup
  mem : ∀ m, m ∈ found ↔ LeastH F m
theorem mem_kept {found : List Nat} {s m : Nat} : m ∈ crKept found s ↔ m ∈ found ∧ 0 < m &&& s := by
  unfold crKept; rw [List.mem_filter, decide_eq_true_eq]
theorem mem_put {kept : List Nat} {s m t : Nat} : t ∈ crPut kept s m ↔ (∃ p, s.testBit p = true ∧ t = m ||| 2 ^ p) ∧ ¬ ∃ o ∈ kept, Subm o t := by
  unfold crPut
  rw [List.mem_filter, List.mem_map, decide_eq_true_eq]
  constructor
  · rintro ⟨⟨p, hp, rfl⟩, h2⟩
    exact ⟨⟨p, mem_plB.mp hp, rfl⟩, fun ⟨o, h3, h4⟩ => h2 ⟨o, h3, subm_and.mpr h4⟩⟩
  · rintro ⟨⟨p, hp, rfl⟩, h2⟩
    exact ⟨⟨p, mem_plB.mpr hp, rfl⟩, fun ⟨o, h3, h4⟩ => h2 ⟨o, h3, subm_and.mp h4⟩⟩
theorem mem_crOn {found : List Nat} {s t : Nat} : t ∈ crOn found s ↔ (t ∈ found ∧ 0 < t &&& s) ∨ ∃ m ∈ found, ¬ 0 < m &&& s ∧ (∃ p, s.testBit p = true ∧ t = m ||| 2 ^ p) ∧ ¬ ∃ o, (o ∈ found ∧ 0 < o &&& s) ∧ Subm o t := by
  unfold crOn
  rw [List.mem_append, mem_kept, List.mem_flatMap]
  refine or_congr Iff.rfl ?_
  constructor
  · rintro ⟨m, hm, ht⟩
    rw [List.mem_filter, decide_eq_true_eq] at hm
    obtain ⟨h1, h2⟩ := mem_put.mp ht
    exact ⟨m, hm.1, hm.2, h1, fun ⟨o, h3, h4⟩ => h2 ⟨o, mem_kept.mpr h3, h4⟩⟩
  · rintro ⟨m, h1, h2, h3, h4⟩
    exact ⟨m, List.mem_filter.mpr ⟨h1, decide_eq_true h2⟩, mem_put.mpr ⟨h3, fun ⟨o, h5, h6⟩ => h4 ⟨o, mem_kept.mp h5, h6⟩⟩⟩
theorem hit_snoc {F : List Nat} {s m : Nat} : Hit (F ++ [s]) m ↔ Hit F m ∧ 0 < m &&& s := by
  unfold Hit
  constructor
  · exact fun h => ⟨fun x hx => h x (List.mem_append_left _ hx), h s (by simp)⟩
  · rintro ⟨h1, h2⟩ x hx
    rcases List.mem_append.mp hx with hx | hx
    · exact h1 x hx
    · rw [List.mem_singleton] at hx; subst hx; exact h2
theorem put_self {found : List Nat} {s : Nat} {m p : Nat} (hm : ¬ 0 < m &&& s) (hp : s.testBit p = true) {i : Nat} : s.testBit i = true → ((m ||| 2 ^ p).testBit i = true ↔ i = p) := fun hi => by
  rw [bit_or]
  constructor
  · rintro (h | h)
    · exact absurd (meet_pos.mpr ⟨i, h, hi⟩) hm
    · exact h.symm
  · intro h; exact .inr h.symm
theorem flatMap_nodup {α β : Type} {f : α → List β} : ∀ {l : List α}, l.Nodup → (∀ a ∈ l, (f a).Nodup) → (∀ a ∈ l, ∀ b ∈ l, ∀ x, x ∈ f a → x ∈ f b → a = b) → (l.flatMap f).Nodup
  | [], _, _, _ => by simp
  | a :: l, nd, h1, h2 => by
    rw [List.nodup_cons] at nd
    rw [List.flatMap_cons, List.nodup_append]
    refine ⟨h1 a (by simp), flatMap_nodup nd.2 (fun b hb => h1 b (by simp [hb])) (fun b hb c hc => h2 b (by simp [hb]) c (by simp [hc])), fun x hx y hy e => ?_⟩
    subst e
    obtain ⟨b, hb, hxb⟩ := List.mem_flatMap.mp hy
    have := h2 a (by simp) b (by simp [hb]) x hx hxb
    subst this
    exact nd.1 hb
theorem Crs.step {F found : List Nat} (C : Crs F found) (s : Nat) : Crs (F ++ [s]) (crOn found s) := by
  have hitF : ∀ m ∈ found, Hit F m := fun m hm => ((C.mem m).mp hm).1
  refine ⟨?_, fun t => ?_⟩
  · unfold crOn
    rw [List.nodup_append]
    refine ⟨C.nd.sublist List.filter_sublist, flatMap_nodup (C.nd.sublist List.filter_sublist) (fun m hm => ?_) (fun a ha b hb x h1 h2 => ?_), fun x hx y hy e => ?_⟩
    · rw [List.mem_filter, decide_eq_true_eq] at hm
      unfold crPut
      refine List.Nodup.sublist List.filter_sublist ?_
      refine List.pairwise_map.mpr ((plB_lt.imp fun h => Nat.ne_of_lt h).imp_of_mem fun {p q} hp hq h e => h ?_)
      have hp := mem_plB.mp hp
      have hq := mem_plB.mp hq
      have h1 := (put_self (found := found) hm.2 hp hp).mpr rfl
      rw [e] at h1
      exact (put_self (found := found) hm.2 hq hp).mp h1
    · rw [List.mem_filter, decide_eq_true_eq] at ha hb
      obtain ⟨⟨p, hp, rfl⟩, _⟩ := mem_put.mp h1
      obtain ⟨⟨q, hq, e⟩, _⟩ := mem_put.mp h2
      have pq : p = q := by
        have h1 := (put_self (found := found) ha.2 hp hp).mpr rfl
        rw [e] at h1
        exact (put_self (found := found) hb.2 hq hp).mp h1
      subst pq
      refine Nat.eq_of_testBit_eq fun i => ?_
      have := congrArg (·.testBit i) e
      simp only [Nat.testBit_or, bit_pow] at this
      by_cases c : p = i
      · subst c
        have z1 : a.testBit p = false := by
          cases e : a.testBit p with
          | false => rfl
          | true => exact absurd (meet_pos.mpr ⟨p, e, hp⟩) ha.2
        have z2 : b.testBit p = false := by
          cases e : b.testBit p with
          | false => rfl
          | true => exact absurd (meet_pos.mpr ⟨p, e, hp⟩) hb.2
        rw [z1, z2]
      · simpa [c] using this
    · subst e
      obtain ⟨m, hm, ht⟩ := List.mem_flatMap.mp hy
      exact (mem_put.mp ht).2 ⟨x, hx, .refl⟩
  · rw [mem_crOn]
    constructor
    · rintro (⟨h1, h2⟩ | ⟨m, h1, h2, ⟨p, hp, rfl⟩, h4⟩)
      · have L := (C.mem t).mp h1
        exact ⟨hit_snoc.mpr ⟨L.1, h2⟩, fun u hu h => L.2 u hu (hit_snoc.mp h).1⟩
      · have L := (C.mem m).mp h1
        have sub : Subm m (m ||| 2 ^ p) := fun i hi => bit_or.mpr (.inl hi)
        refine ⟨hit_snoc.mpr ⟨L.1.mono sub, meet_pos.mpr ⟨p, bit_or.mpr (.inr rfl), hp⟩⟩, fun u hu h => ?_⟩
        obtain ⟨hF, hs⟩ := hit_snoc.mp h
        obtain ⟨v, v1, v2⟩ := least_in u hF
        have vf := (C.mem v).mpr v2
        have nv : ¬ 0 < v &&& s := fun z => h4 ⟨v, ⟨vf, z⟩, v1.trans hu⟩
        have vm : Subm v m := fun i hi => by
          rcases bit_or.mp (hu i (v1 i hi)) with z | z
          · exact z
          · subst z; exact absurd (meet_pos.mpr ⟨p, hi, hp⟩) nv
        have ev := L.2 v vm v2.1
        subst ev
        refine subm_antisymm hu fun i hi => ?_
        rcases bit_or.mp hi with z | z
        · exact v1 i z
        · subst z
          obtain ⟨j, j1, j2⟩ := meet_pos.mp hs
          rcases bit_or.mp (hu j j1) with z | z
          · exact absurd (meet_pos.mpr ⟨j, z, j2⟩) nv
          · subst z; exact j1
    · rintro ⟨h1, h2⟩
      obtain ⟨hF, hs⟩ := hit_snoc.mp h1
      obtain ⟨v, v1, v2⟩ := least_in t hF
      have vf := (C.mem v).mpr v2
      by_cases c : 0 < v &&& s
      · have := h2 v v1 (hit_snoc.mpr ⟨v2.1, c⟩)
        subst this
        exact .inl ⟨vf, c⟩
      · obtain ⟨p, p1, p2⟩ := meet_pos.mp hs
        have sub : Subm (v ||| 2 ^ p) t := fun i hi => by
          rcases bit_or.mp hi with z | z
          · exact v1 i z
          · subst z; exact p1
        have e := h2 _ sub (hit_snoc.mpr ⟨v2.1.mono fun i hi => bit_or.mpr (.inl hi), meet_pos.mpr ⟨p, bit_or.mpr (.inr rfl), p2⟩⟩)
        refine .inr ⟨v, vf, c, ⟨p, p2, e.symm⟩, fun ⟨o, ⟨o1, o2⟩, o3⟩ => ?_⟩
        have eo := h2 o o3 (hit_snoc.mpr ⟨hitF o o1, o2⟩)
        subst eo
        have := ((C.mem o).mp o1).2 v v1 v2.1
        subst this
        exact c o2
theorem crs_nil : Crs [] [0] := ⟨by simp, fun m => by
  rw [List.mem_singleton]
  constructor
  · rintro rfl
    exact ⟨fun _ h => (by cases h), fun t ht _ => subm_antisymm ht fun i h => by simp at h⟩
  · exact fun h => (h.2 0 (fun i hi => by simp at hi) fun _ h => by cases h).symm⟩
/-- all sets, one behind the other -/
def crAll (F : List Nat) : List Nat := F.foldl crOn [0]
theorem crAll_snoc {F : List Nat} {s : Nat} : crAll (F ++ [s]) = crOn (crAll F) s := by unfold crAll; rw [List.foldl_append]; rfl
theorem crs_all {F : List Nat} : Crs F (crAll F) := by
  have : ∀ (F G : List Nat) (f : List Nat), Crs G f → Crs (G ++ F) (F.foldl crOn f) := by
    intro F
    induction F with
    | nil => intro G f h; rw [List.append_nil]; exact h
    | cons s F ih =>
      intro G f h
      have := ih (G ++ [s]) _ (h.step s)
      rw [List.append_assoc] at this
      exact this
  exact this F [] [0] crs_nil
theorem mk_pl {m : Nat} : mkB (plB m) = m := subm_antisymm (fun i h => mem_plB.mp (mem_mkB.mp h)) fun i h => mem_mkB.mpr (mem_plB.mpr h)
theorem lt_uniqN : ∀ {a b : List Nat}, a.Pairwise (· < ·) → b.Pairwise (· < ·) → (∀ x, x ∈ a ↔ x ∈ b) → a = b := fun h1 h2 h3 =>
  List.Perm.eq_of_pairwise (le := (· < ·)) (fun a b _ _ h1 h2 => by omega) h1 h2 ((List.perm_ext_iff_of_nodup (h1.imp fun h e => by omega) (h2.imp fun h e => by omega)).mpr h3)
theorem pl_mk {l : List Nat} (h : l.Pairwise (· < ·)) : plB (mkB l) = l := lt_uniqN plB_lt h fun x => by rw [mem_plB, mem_mkB]
/-- a least number has bits of the sets alone -/
theorem least_bits {F : List Nat} {m i : Nat} (h : LeastH F m) (hi : m.testBit i = true) : ∃ s ∈ F, s.testBit i = true := by
  refine Classical.byContradiction fun c => ?_
  have nb : ∀ j, (mkB ((plB m).filter fun x => decide (x ≠ i))).testBit j = true ↔ m.testBit j = true ∧ j ≠ i := fun j => by
    rw [mem_mkB, List.mem_filter, mem_plB, decide_eq_true_eq]
  have e := h.2 (mkB ((plB m).filter fun x => decide (x ≠ i))) (fun j hj => ((nb j).mp hj).1) fun s hs => by
    obtain ⟨j, j1, j2⟩ := meet_pos.mp (h.1 s hs)
    exact meet_pos.mpr ⟨j, (nb j).mpr ⟨j1, fun z => c ⟨s, hs, z ▸ j2⟩⟩, j2⟩
  have := (nb i).mp (by rw [e]; exact hi)
  exact this.2 rfl

/-! rows of places as numbers -/
def mkI (l : List Int) : Nat := mkB (l.map Int.toNat)
def plI (m : Nat) : List Int := (plB m).map fun k : Nat => (k : Int)
def upI (l : List Int) : Prop := l.Pairwise (· < ·) ∧ ∀ x ∈ l, 0 ≤ x
theorem mem_mkI {l : List Int} (h : ∀ x ∈ l, 0 ≤ x) {x : Int} (hx : 0 ≤ x) : (mkI l).testBit x.toNat = true ↔ x ∈ l := by
  unfold mkI
  rw [mem_mkB, List.mem_map]
  constructor
  · rintro ⟨y, hy, e⟩
    have := h y hy
    rwa [show x = y by omega]
  · exact fun h => ⟨x, h, rfl⟩
theorem mem_mkN {l : List Int} (h : ∀ x ∈ l, 0 ≤ x) {i : Nat} : (mkI l).testBit i = true ↔ (i : Int) ∈ l := mem_mkI h (x := (i : Int)) (by omega)
theorem mem_plI {m : Nat} {x : Int} : x ∈ plI m ↔ 0 ≤ x ∧ m.testBit x.toNat = true := by
  unfold plI
  rw [List.mem_map]
  constructor
  · rintro ⟨k, hk, rfl⟩
    exact ⟨by omega, mem_plB.mp hk⟩
  · rintro ⟨h0, h⟩
    exact ⟨x.toNat, mem_plB.mpr h, by omega⟩
theorem plI_up {m : Nat} : upI (plI m) := ⟨List.pairwise_map.mpr (plB_lt.imp fun h => by omega), fun x hx => (mem_plI.mp hx).1⟩
theorem lt_uniqI : ∀ {a b : List Int}, a.Pairwise (· < ·) → b.Pairwise (· < ·) → (∀ x, x ∈ a ↔ x ∈ b) → a = b := fun h1 h2 h3 =>
  List.Perm.eq_of_pairwise (le := (· < ·)) (fun a b _ _ h1 h2 => by omega) h1 h2 ((List.perm_ext_iff_of_nodup (h1.imp fun h e => by omega) (h2.imp fun h e => by omega)).mpr h3)
theorem pl_mkI {l : List Int} (h : upI l) : plI (mkI l) = l := lt_uniqI plI_up.1 h.1 fun x => by
  rw [mem_plI]
  exact ⟨fun ⟨h0, h1⟩ => (mem_mkI h.2 h0).mp h1, fun hx => ⟨h.2 x hx, (mem_mkI h.2 (h.2 x hx)).mpr hx⟩⟩
theorem mk_plI {m : Nat} : mkI (plI m) = m := Nat.eq_of_testBit_eq fun i => by
  rw [Bool.eq_iff_iff, mem_mkN plI_up.2, mem_plI]
  simp
theorem plI_inj {a b : Nat} (h : plI a = plI b) : a = b := by rw [← mk_plI (m := a), h, mk_plI]
/-- all parts of a row -/
def subsF (ns : List Int) : List (List Int) := ns.foldl (fun f x => f ++ f.map fun l => l ++ [x]) [[]]
theorem subsF_snoc {ns : List Int} {x : Int} : subsF (ns ++ [x]) = subsF ns ++ (subsF ns).map fun l => l ++ [x] := by unfold subsF; rw [List.foldl_append]; rfl
theorem snoc_ind {α : Type} {p : List α → Prop} (h0 : p []) (h1 : ∀ l x, p l → p (l ++ [x])) : ∀ l, p l := fun l => by
  have : ∀ l : List α, p l.reverse := by
    intro l
    induction l with
    | nil => exact h0
    | cons x l ih => rw [List.reverse_cons]; exact h1 _ _ ih
  have := this l.reverse
  rwa [List.reverse_reverse] at this
theorem subsF_len {ns : List Int} : (subsF ns).length = 2 ^ ns.length := by
  induction ns using snoc_ind with
  | h0 => rfl
  | h1 ns x ih => rw [subsF_snoc, List.length_append, List.length_map, ih, List.length_append, List.length_singleton, Nat.pow_succ]; omega
theorem subsF_mem {ns l : List Int} : l ∈ subsF ns ↔ l.Sublist ns := by
  induction ns using snoc_ind generalizing l with
  | h0 => simp [subsF]
  | h1 ns x ih =>
    rw [subsF_snoc, List.mem_append, List.mem_map, List.sublist_append_iff]
    constructor
    · rintro (h | ⟨k, hk, rfl⟩)
      · exact ⟨l, [], (List.append_nil _).symm, ih.mp h, List.nil_sublist _⟩
      · exact ⟨k, [x], rfl, ih.mp hk, .refl _⟩
    · rintro ⟨a, b, rfl, h1, h2⟩
      cases h2 with
      | cons _ h3 =>
        rw [List.sublist_nil.mp h3]
        left; rw [List.append_nil]; exact ih.mpr h1
      | cons_cons _ h3 =>
        rw [List.sublist_nil.mp h3]
        right; exact ⟨a, ih.mpr h1, rfl⟩
theorem subsF_nd {ns : List Int} (nd : ns.Nodup) : (subsF ns).Nodup := by
  induction ns using snoc_ind with
  | h0 => simp [subsF]
  | h1 ns x ih =>
    rw [List.nodup_append] at nd
    rw [subsF_snoc, List.nodup_append]
    refine ⟨ih nd.1, List.pairwise_map.mpr ((ih nd.1).imp fun h e => h (List.append_cancel_right e)), fun a ha b hb e => ?_⟩
    obtain ⟨k, _, rfl⟩ := List.mem_map.mp hb
    have := (subsF_mem.mp ha).subset (show x ∈ a by rw [e]; simp)
    exact nd.2.2 x this x (by simp) rfl
theorem sub_of_up {l ns : List Int} (h : l.Pairwise (· < ·)) (hn : ns.Pairwise (· < ·)) (hs : ∀ x ∈ l, x ∈ ns) : l.Sublist ns := by
  have : l = ns.filter fun x => decide (x ∈ l) := lt_uniqI h (hn.sublist List.filter_sublist) fun x => by
    rw [List.mem_filter, decide_eq_true_eq]
    exact ⟨fun h => ⟨hs x h, h⟩, fun h => h.2⟩
  rw [this]; exact List.filter_sublist
theorem few_subs {F : List Nat} {U : List Int} (hU : upI U) (h : ∀ s ∈ F, ∀ i, s.testBit i = true → (i : Int) ∈ U) : (crAll F).length ≤ 2 ^ U.length := by
  have C := crs_all (F := F)
  rw [← subsF_len, ← List.length_map (f := plI) (as := crAll F)]
  refine List.Nodup.length_le_of_subset (List.pairwise_map.mpr (C.nd.imp fun h e => h (plI_inj e))) fun l hl => ?_
  obtain ⟨m, hm, rfl⟩ := List.mem_map.mp hl
  refine subsF_mem.mpr (sub_of_up plI_up.1 hU.1 fun x hx => ?_)
  obtain ⟨h0, hb⟩ := mem_plI.mp hx
  obtain ⟨s, hs, h2⟩ := least_bits ((C.mem m).mp hm) hb
  have := h s hs _ h2
  rwa [Int.toNat_of_nonneg h0] at this
/-- what crosses, as the program tells it -/
def crossR (rows : List (List Int)) : List (List Int) := srtL ((crAll (rows.map mkI)).map plI)
theorem crossR_of {rows out : List (List Int)} (nd : out.Nodup) (up : ∀ l ∈ out, upI l) (h : ∀ m, mkI m ∈ out.map mkI ↔ LeastH (rows.map mkI) (mkI m)) : srtL out = crossR rows := by
  have C := crs_all (F := rows.map mkI)
  unfold crossR
  refine srtL_uniq ?_ srtL_le
  refine srtL_perm.trans ((List.perm_ext_iff_of_nodup nd (List.pairwise_map.mpr (C.nd.imp fun h e => h (plI_inj e)))).mpr fun l => ?_)
  rw [List.mem_map]
  constructor
  · intro hl
    exact ⟨mkI l, (C.mem _).mpr ((h l).mp (List.mem_map.mpr ⟨l, hl, rfl⟩)), pl_mkI (up l hl)⟩
  · rintro ⟨m, hm, rfl⟩
    have := (h (plI m)).mpr (by rw [mk_plI]; exact (C.mem m).mp hm)
    obtain ⟨k, hk, e⟩ := List.mem_map.mp this
    rw [mk_plI] at e
    rw [← e, pl_mkI (up k hk)]
    exact hk
theorem crossR_same {r1 r2 : List (List Int)} (h : ∀ x, x ∈ r1 ↔ x ∈ r2) : crossR r1 = crossR r2 := by
  have C := crs_all (F := r1.map mkI)
  have e : ∀ m, LeastH (r1.map mkI) m ↔ LeastH (r2.map mkI) m := by
    have hh : ∀ m, Hit (r1.map mkI) m ↔ Hit (r2.map mkI) m := fun m => by
      unfold Hit
      constructor
      · intro k s hs
        obtain ⟨x, hx, rfl⟩ := List.mem_map.mp hs
        exact k _ (List.mem_map.mpr ⟨x, (h x).mpr hx, rfl⟩)
      · intro k s hs
        obtain ⟨x, hx, rfl⟩ := List.mem_map.mp hs
        exact k _ (List.mem_map.mpr ⟨x, (h x).mp hx, rfl⟩)
    intro m
    unfold LeastH
    rw [hh]
    exact and_congr Iff.rfl ⟨fun k t a b => k t a ((hh t).mpr b), fun k t a b => k t a ((hh t).mp b)⟩
  refine crossR_of (C.nd |> fun nd => List.pairwise_map.mpr (nd.imp fun h e => h (plI_inj e))) (fun l hl => ?_) fun m => ?_
  · obtain ⟨m, _, rfl⟩ := List.mem_map.mp hl; exact plI_up
  · rw [List.map_map, List.mem_map, ← e]
    constructor
    · rintro ⟨k, hk, e2⟩
      rw [← e2]
      show LeastH _ (mkI (plI k))
      rw [mk_plI]
      exact (C.mem k).mp hk
    · intro hm
      exact ⟨mkI m, (C.mem _).mpr hm, mk_plI⟩
/-! the law's own: all parts, the lesser ones ahead -/
def subR (a b : List Int) : Prop := ∀ x ∈ a, x ∈ b
def hitR (rows : List (List Int)) (l : List Int) : Prop := ∀ r ∈ rows, ∃ x ∈ r, x ∈ l
theorem hitR_iff {rows : List (List Int)} {l : List Int} (hr : ∀ r ∈ rows, ∀ x ∈ r, 0 ≤ x) (hl : ∀ x ∈ l, 0 ≤ x) : hitR rows l ↔ Hit (rows.map mkI) (mkI l) := by
  unfold hitR Hit
  constructor
  · intro h s hs
    obtain ⟨r, hr2, rfl⟩ := List.mem_map.mp hs
    obtain ⟨x, h1, h2⟩ := h r hr2
    have h0 := hl x h2
    exact meet_pos.mpr ⟨x.toNat, (mem_mkI hl h0).mpr h2, (mem_mkI (hr r hr2) h0).mpr h1⟩
  · intro h r hr2
    obtain ⟨i, h1, h2⟩ := meet_pos.mp (h _ (List.mem_map.mpr ⟨r, hr2, rfl⟩))
    exact ⟨i, (mem_mkN (hr r hr2)).mp h2, (mem_mkN hl).mp h1⟩
theorem subR_iff {a b : List Int} (ha : ∀ x ∈ a, 0 ≤ x) (hb : ∀ x ∈ b, 0 ≤ x) : subR a b ↔ Subm (mkI a) (mkI b) := by
  constructor
  · exact fun h i hi => (mem_mkN hb).mpr (h _ ((mem_mkN ha).mp hi))
  · intro h x hx
    have h0 := ha x hx
    exact (mem_mkI hb h0).mp (h _ ((mem_mkI ha h0).mpr hx))
theorem srtLI_perm {ls : List (List Int)} : (srtLI ls).Perm ls := List.mergeSort_perm ..
theorem srtLI_le {ls : List (List Int)} : (srtLI ls).Pairwise fun a b => a.length ≤ b.length := by
  have := List.pairwise_mergeSort (le := fun a b : List Int => decide ((a.length : Int) ≤ b.length)) (fun a b c h1 h2 => by rw [decide_eq_true_eq] at *; omega) (fun a b => by rw [Bool.or_eq_true, decide_eq_true_eq, decide_eq_true_eq]; omega) ls
  exact this.imp fun h => by rw [decide_eq_true_eq] at h; omega
/-- the least ones among the first k parts -/
structure LeastK (rows : List (List Int)) (R found : List (List Int)) (k : Nat) : Prop where
  nd : found.Nodup
  mem : ∀ l, l ∈ found ↔ l ∈ R.take k ∧ LeastH (rows.map mkI) (mkI l)
section
variable {rows : List (List Int)} {ns : List Int} {found : List (List Int)} {k : Nat} {p : List Int}
theorem parts_up (hn : upI ns) {l : List Int} (h : l ∈ srtLI (subsF ns)) : upI l ∧ l.Sublist ns := by
  have := subsF_mem.mp (srtLI_perm.mem_iff.mp h)
  exact ⟨⟨hn.1.sublist this, fun x hx => hn.2 x (this.subset hx)⟩, this⟩
theorem parts_nd (hn : upI ns) : (srtLI (subsF ns)).Nodup := srtLI_perm.nodup_iff.mpr (subsF_nd (hn.1.imp fun h e => by omega))
theorem LeastK.none : LeastK rows (srtLI (subsF ns)) [] 0 := ⟨.nil, fun l => by simp⟩
theorem mkI_inj {a b : List Int} (ha : upI a) (hb : upI b) (h : mkI a = mkI b) : a = b := by rw [← pl_mkI ha, h, pl_mkI hb]
theorem LeastK.skip (hn : upI ns) (L : LeastK rows (srtLI (subsF ns)) found k) (hp : (srtLI (subsF ns))[k]? = some p) (h : ¬ LeastH (rows.map mkI) (mkI p)) : LeastK rows (srtLI (subsF ns)) found (k + 1) := ⟨L.nd, fun l => by
  rw [L.mem, take_snoc hp, List.mem_append, List.mem_singleton]
  constructor
  · rintro ⟨h1, h2⟩; exact ⟨.inl h1, h2⟩
  · rintro ⟨h1 | h1, h2⟩
    · exact ⟨h1, h2⟩
    · subst h1; exact absurd h2 h⟩
theorem LeastK.put (hn : upI ns) (L : LeastK rows (srtLI (subsF ns)) found k) (hp : (srtLI (subsF ns))[k]? = some p) (h : LeastH (rows.map mkI) (mkI p)) : LeastK rows (srtLI (subsF ns)) (found ++ [p]) (k + 1) := by
  refine ⟨?_, fun l => ?_⟩
  · rw [List.nodup_append]
    refine ⟨L.nd, by simp, fun a ha b hb e => ?_⟩
    rw [List.mem_singleton] at hb; subst hb; subst e
    have h1 := ((L.mem a).mp ha).1
    have nd := parts_nd hn
    have e := List.take_append_drop (k + 1) (srtLI (subsF ns))
    rw [take_snoc hp] at e
    rw [← e, List.append_assoc, List.nodup_append] at nd
    exact nd.2.2 a h1 a (by simp) rfl
  · rw [List.mem_append, L.mem, take_snoc hp, List.mem_append, List.mem_singleton]
    constructor
    · rintro (⟨h1, h2⟩ | h1)
      · exact ⟨.inl h1, h2⟩
      · subst h1; exact ⟨.inr rfl, h⟩
    · rintro ⟨h1 | h1, h2⟩
      · exact .inl ⟨h1, h2⟩
      · exact .inr h1
theorem LeastK.not_of_less (hn : upI ns) (L : LeastK rows (srtLI (subsF ns)) found k) (hp : (srtLI (subsF ns))[k]? = some p) (h : ∃ l ∈ found, subR l p) : ¬ LeastH (rows.map mkI) (mkI p) := by
  rintro H
  obtain ⟨l, hl, hs⟩ := h
  obtain ⟨h1, h2⟩ := (L.mem l).mp hl
  have ul := (parts_up hn (List.mem_of_mem_take h1)).1
  have up := (parts_up hn (List.mem_of_getElem? hp)).1
  have e := mkI_inj ul up (H.2 _ ((subR_iff ul.2 up.2).mp hs) h2.1)
  subst e
  have nd := parts_nd hn
  have e := List.take_append_drop (k + 1) (srtLI (subsF ns))
  rw [take_snoc hp] at e
  rw [← e, List.append_assoc, List.nodup_append] at nd
  exact nd.2.2 l h1 l (by simp) rfl
theorem LeastK.is_least (hn : upI ns) (hr : ∀ r ∈ rows, ∀ x ∈ r, x ∈ ns) (L : LeastK rows (srtLI (subsF ns)) found k) (hp : (srtLI (subsF ns))[k]? = some p) (h : ¬ ∃ l ∈ found, subR l p) (hh : hitR rows p) : LeastH (rows.map mkI) (mkI p) := by
  have ⟨up, us⟩ := parts_up hn (List.mem_of_getElem? hp)
  have hr0 : ∀ r ∈ rows, ∀ x ∈ r, 0 ≤ x := fun r h1 x h2 => hn.2 x (hr r h1 x h2)
  have hH := (hitR_iff hr0 up.2).mp hh
  obtain ⟨t, t1, t2⟩ := least_in _ hH
  have ut := plI_up (m := t)
  have ts : subR (plI t) p := (subR_iff ut.2 up.2).mpr (by rw [mk_plI]; exact t1)
  by_cases c : plI t = p
  · rw [← c, mk_plI]; exact t2
  · exfalso
    have sl : (plI t).Sublist ns := (sub_of_up ut.1 up.1 ts).trans us
    have lt : (plI t).length < p.length := by
      have s2 := sub_of_up ut.1 up.1 ts
      rcases Nat.lt_or_ge (plI t).length p.length with z | z
      · exact z
      · exact absurd (s2.eq_of_length_le z) c
    have mR : plI t ∈ srtLI (subsF ns) := srtLI_perm.mem_iff.mpr (subsF_mem.mpr sl)
    have mk : plI t ∈ (srtLI (subsF ns)).take k := by
      have e := List.take_append_drop k (srtLI (subsF ns))
      rw [← e] at mR
      rcases List.mem_append.mp mR with z | z
      · exact z
      · exfalso
        have le := srtLI_le (ls := subsF ns)
        have e2 : (srtLI (subsF ns)).drop k = p :: (srtLI (subsF ns)).drop (k + 1) := by
          obtain ⟨hk, e⟩ := List.getElem?_eq_some_iff.mp hp
          rw [List.drop_eq_getElem_cons hk, e]
        rw [← e, e2, List.pairwise_append] at le
        rw [e2] at z
        rcases List.mem_cons.mp z with z | z
        · exact c z
        · have := (List.pairwise_cons.mp le.2.1).1 _ z
          omega
    exact h ⟨plI t, (L.mem _).mpr ⟨mk, by rw [mk_plI]; exact t2⟩, ts⟩
theorem LeastK.end (hn : upI ns) (hr : ∀ r ∈ rows, ∀ x ∈ r, x ∈ ns) (L : LeastK rows (srtLI (subsF ns)) found (srtLI (subsF ns)).length) : srtL found = crossR rows := by
  have hr0 : ∀ r ∈ rows, ∀ x ∈ r, 0 ≤ x := fun r h1 x h2 => hn.2 x (hr r h1 x h2)
  have up : ∀ l ∈ found, upI l := fun l hl => (parts_up hn (List.mem_of_mem_take ((L.mem l).mp hl).1)).1
  refine crossR_of L.nd up fun m => ?_
  constructor
  · intro h
    obtain ⟨l, hl, e⟩ := List.mem_map.mp h
    rw [← e]
    exact ((L.mem l).mp hl).2
  · intro h
    have e : mkI (plI (mkI m)) = mkI m := mk_plI
    rw [← e]
    refine List.mem_map.mpr ⟨plI (mkI m), (L.mem _).mpr ⟨?_, by rw [e]; exact h⟩, rfl⟩
    rw [List.take_length]
    refine srtLI_perm.mem_iff.mpr (subsF_mem.mpr (sub_of_up plI_up.1 hn.1 fun x hx => ?_))
    obtain ⟨h0, hb⟩ := mem_plI.mp hx
    obtain ⟨s, hs, h2⟩ := least_bits h hb
    obtain ⟨r, hr2, rfl⟩ := List.mem_map.mp hs
    exact hr r hr2 x ((mem_mkI (hr0 r hr2) h0).mp h2)
end

theorem all_dec {α : Type} {p : α → Prop} [DecidablePred p] {l : List α} : (l.map fun a => decide (p a)).all id = decide (∀ a ∈ l, p a) := by
  rw [Bool.eq_iff_iff, List.all_eq_true, decide_eq_true_eq]
  constructor
  · intro h a ha
    exact of_decide_eq_true (h _ (List.mem_map.mpr ⟨a, ha, rfl⟩))
  · intro h b hb
    obtain ⟨a, ha, rfl⟩ := List.mem_map.mp hb
    exact decide_eq_true (h a ha)
theorem any_dec {α : Type} {p : α → Prop} [DecidablePred p] {l : List α} : (l.map fun a => decide (p a)).any id = decide (∃ a ∈ l, p a) := by
  rw [Bool.eq_iff_iff, List.any_eq_true, decide_eq_true_eq]
  constructor
  · rintro ⟨b, hb, e⟩
    obtain ⟨a, ha, rfl⟩ := List.mem_map.mp hb
    exact ⟨a, ha, of_decide_eq_true e⟩
  · rintro ⟨a, ha, h⟩
    exact ⟨_, List.mem_map.mpr ⟨a, ha, rfl⟩, decide_eq_true h⟩
theorem bitNot2 (x : Int) : Builtin.bitNot (Builtin.bitNot x) = x := by unfold Builtin.bitNot; omega
theorem bitAnd_nat (a b : Nat) : Builtin.bitAnd (a : Int) (b : Int) = ((a &&& b : Nat) : Int) := by
  unfold Builtin.bitAnd
  rw [decide_eq_true (show (0 : Int) ≤ (a : Int) by omega), decide_eq_true (show (0 : Int) ≤ (b : Int) by omega)]
  rfl
theorem bitOr_nat (a b : Nat) : Builtin.bitOr (a : Int) (b : Int) = ((a ||| b : Nat) : Int) := by
  unfold Builtin.bitOr Builtin.bitAnd
  rw [decide_eq_false (show ¬ (0 : Int) ≤ Builtin.bitNot (a : Int) by unfold Builtin.bitNot; omega), decide_eq_false (show ¬ (0 : Int) ≤ Builtin.bitNot (b : Int) by unfold Builtin.bitNot; omega)]
  simp only [bitNot2]
  rfl
theorem shl_nat {x : Int} (h : 0 ≤ x) : (1 : Int) * 2 ^ x.toNat = ((2 ^ x.toNat : Nat) : Int) := by rw [Int.one_mul, Int.natCast_pow]; rfl
theorem or_place {m : Nat} {x : Int} (h : 0 ≤ x) : Builtin.bitOr (m : Int) (1 * 2 ^ x.toNat) = ((m ||| 2 ^ x.toNat : Nat) : Int) := by rw [shl_nat h, bitOr_nat]
theorem cpow1 {x : Int} (h0 : 0 ≤ x) (h1 : x < 1000) : CPow 1 x := ⟨h0, by omega, by decide⟩
abbrev potX (g : Int) : D := .lst true [.int g]
def C__law_whole : Ct := fun ds Q => ∃ x : Int, ds = [.int x] ∧ Q (.bl true) [.unk]
def natL (F : List Nat) : List Int := F.map fun m : Nat => (m : Int)
theorem natL_app {F G : List Nat} : natL (F ++ G) = natL F ++ natL G := List.map_append ..
theorem mem_natL {F : List Nat} {x : Int} (h : x ∈ natL F) : ∃ m ∈ F, x = (m : Int) := by
  obtain ⟨m, hm, rfl⟩ := List.mem_map.mp h; exact ⟨m, hm, rfl⟩
theorem natL_len {F : List Nat} : (natL F).length = F.length := List.length_map ..
theorem kept_natL {F : List Nat} {s : Nat} : ((natL F).filter fun a => decide (0 < Builtin.bitAnd a (s : Int))) = natL (crKept F s) := by
  unfold natL crKept
  rw [List.filter_map]
  congr 1
  refine List.filter_congr fun x _ => ?_
  simp only [Function.comp, bitAnd_nat]
  by_cases c : 0 < x &&& s
  · rw [decide_eq_true c, decide_eq_true (by omega)]
  · rw [decide_eq_false c, decide_eq_false (by omega)]
def putI (kept : List Nat) (m : Nat) (l : List Int) : List Nat := (l.map fun p => m ||| 2 ^ p.toNat).filter fun t => decide ¬ (∃ o ∈ kept, o &&& t = o)
theorem putI_all {kept : List Nat} {s m : Nat} : putI kept m (plI s) = crPut kept s m := by
  unfold putI crPut plI
  rw [List.map_map]
  rfl
theorem putI_snoc {kept : List Nat} {m : Nat} {l : List Int} {p : Int} : putI kept m (l ++ [p]) = putI kept m l ++ if ∃ o ∈ kept, o &&& (m ||| 2 ^ p.toNat) = o then [] else [m ||| 2 ^ p.toNat] := by
  unfold putI
  rw [List.map_append, List.filter_append, List.map_singleton, List.filter_cons, List.filter_nil]
  by_cases c : ∃ o ∈ kept, o &&& (m ||| 2 ^ p.toNat) = o
  · rw [if_pos c, decide_eq_false (fun z => z c)]; rfl
  · rw [if_neg c, decide_eq_true c]; rfl
theorem putI_len {kept : List Nat} {m : Nat} {l : List Int} : (putI kept m l).length ≤ l.length := by
  unfold putI
  exact Nat.le_trans (List.length_filter_le _ _) (by rw [List.length_map]; exact Nat.le_refl _)
def grwN (F : List Nat) (s k : Nat) : List Nat := ((F.take k).filter fun m => decide ¬ (0 < m &&& s)).flatMap (crPut (crKept F s) s)
theorem grwN_snoc {F : List Nat} {s k m : Nat} (h : F[k]? = some m) : grwN F s (k + 1) = grwN F s k ++ if 0 < m &&& s then [] else crPut (crKept F s) s m := by
  unfold grwN
  rw [take_snoc h, List.filter_append, List.flatMap_append, List.filter_cons, List.filter_nil]
  by_cases c : 0 < m &&& s
  · rw [if_pos c, decide_eq_false (fun z => z c)]; rfl
  · rw [if_neg c, decide_eq_true c]
    show _ = _
    simp
theorem bit_lt {s b : Nat} (hs : s < 2 ^ b) {x : Int} (h : x ∈ plI s) : 0 ≤ x ∧ x < (b : Int) := by
  obtain ⟨h0, h1⟩ := mem_plI.mp h
  refine ⟨h0, ?_⟩
  have := Nat.ge_two_pow_of_testBit h1
  rcases Nat.lt_or_ge x.toNat b with z | z
  · omega
  · have := Nat.pow_le_pow_right (show 0 < 2 by decide) z
    omega
theorem rxI_mem {n x : Int} : x ∈ rngI n ↔ 0 ≤ x ∧ x < n := by
  unfold rngI
  rw [List.mem_map]
  constructor
  · rintro ⟨k, hk, rfl⟩
    rw [List.mem_range] at hk
    omega
  · rintro ⟨h0, h1⟩
    exact ⟨x.toNat, List.mem_range.mpr (by omega), by omega⟩
theorem plI_len {s b : Nat} (hs : s < 2 ^ b) : (plI s).length ≤ b := by
  have := List.Nodup.length_le_of_subset (plI_up (m := s).1.imp fun h e => by omega) (l₂ := rngI (b : Int)) fun x hx => rxI_mem.mpr (bit_lt hs hx)
  rw [rngI_len] at this
  omega
theorem mkI_lt {l : List Int} {b : Nat} (h : ∀ x ∈ l, 0 ≤ x ∧ x < (b : Int)) : mkI l < 2 ^ b := Nat.lt_pow_two_of_testBit _ fun i hi => by
  cases e : (mkI l).testBit i with
  | false => rfl
  | true =>
    have := (h _ ((mem_mkN fun x hx => (h x hx).1).mp e)).2
    omega
structure RowsU (U : List Int) (rows : List (List Int)) : Prop where
  up : upI U
  ul : U.length ≤ 7
  lt : ∀ x ∈ U, x < 1000
  few : rows.length ≤ 6
  mem : ∀ r ∈ rows, upI r ∧ ∀ x ∈ r, x ∈ U
theorem RowsU.put {U : List Int} {rows : List (List Int)} (R : RowsU U rows) {r : List Int} (hl : rows.length ≤ 5) (h1 : upI r) (h2 : ∀ x ∈ r, x ∈ U) : RowsU U (rows ++ [r]) := ⟨R.up, R.ul, R.lt, by rw [List.length_append, List.length_singleton]; omega, fun s hs => by
  rcases List.mem_append.mp hs with h | h
  · exact R.mem s h
  · rw [List.mem_singleton] at h; subst h; exact ⟨h1, h2⟩⟩
theorem RowsU.rl {U : List Int} {rows : List (List Int)} (R : RowsU U rows) {r : List Int} (h : r ∈ rows) : r.length ≤ 7 := by
  have h1 := (R.mem r h).1.1
  have := List.Nodup.length_le_of_subset (h1.imp fun h e => by omega) (l₂ := U) fun x hx => (R.mem r h).2 x hx
  have := R.ul
  omega
theorem RowsU.bd {U : List Int} {rows : List (List Int)} (R : RowsU U rows) : ∀ r ∈ rows, ∀ x ∈ r, 0 ≤ x ∧ x < 1000 := fun r hr x hx => ⟨(R.mem r hr).1.2 x hx, R.lt x ((R.mem r hr).2 x hx)⟩
theorem RowsU.few2 {U : List Int} {rows : List (List Int)} (R : RowsU U rows) {F : List (List Int)} (h : ∀ r ∈ F, r ∈ rows) : (crAll (F.map mkI)).length ≤ 200 := by
  have := few_subs (F := F.map mkI) R.up fun s hs i hi => by
    obtain ⟨r, hr, rfl⟩ := List.mem_map.mp hs
    have m := R.mem r (h r hr)
    exact m.2 _ ((mem_mkN m.1.2).mp hi)
  have := Nat.pow_le_pow_right (show 0 < 2 by decide) R.ul
  omega
instance {a b : List Int} : Decidable (subR a b) := by unfold subR; infer_instance
instance {rows : List (List Int)} {l : List Int} : Decidable (hitR rows l) := by unfold hitR; infer_instance
theorem RowsU.cr {U : List Int} {rows : List (List Int)} (R : RowsU U rows) : (crossR rows).length ≤ 4000 ∧ ∀ r ∈ crossR rows, r.length ≤ 1000 := by
  have C := crs_all (F := rows.map mkI)
  have h := R.few2 (F := rows) fun r h => h
  unfold crossR
  refine ⟨by rw [srtL_perm.length_eq, List.length_map]; omega, fun r hr => ?_⟩
  obtain ⟨m, hm, rfl⟩ := List.mem_map.mp (srtL_perm.mem_iff.mp hr)
  have := List.Nodup.length_le_of_subset ((plI_up (m := m)).1.imp fun h e => by omega) (l₂ := U) fun x hx => by
    obtain ⟨h0, hb⟩ := mem_plI.mp hx
    obtain ⟨s, hs, h2⟩ := least_bits ((C.mem m).mp hm) hb
    obtain ⟨r, hr, rfl⟩ := List.mem_map.mp hs
    have := (R.mem r hr).2 _ ((mem_mkN (R.mem r hr).1.2).mp h2)
    rwa [Int.toNat_of_nonneg h0] at this
  have := R.ul
  omega
theorem atI_rows {l : List (List Int)} {i : Int} (h0 : 0 ≤ i) (h : i < l.length) : ∃ r ∈ l, L2.atI (l.map iT) i = some (iT r) := by
  have hi : i.toNat < l.length := by omega
  refine ⟨l[i.toNat], List.getElem_mem hi, ?_⟩
  rw [atI_nn h0, List.getElem?_map, List.getElem?_eq_getElem hi]
  rfl
theorem srt_up {K : List Int} (nd : K.Nodup) (h : ∀ x ∈ K, 0 ≤ x) : upI (srtI K) := by
  refine ⟨?_, fun x hx => h x (srtI_perm.mem_iff.mp hx)⟩
  have n2 : (srtI K).Nodup := srtI_perm.nodup_iff.mpr nd
  exact (srtI_le.and n2).imp fun ⟨h1, h2⟩ => by omega

structure Bf (mg : Str → Option Value) : Prop where
  n_all : mg "all" = none
  n_any : mg "any" = none
  n_bool : mg "bool" = none
  n_int : mg "int" = none
  n_isinstance : mg "isinstance" = none
  n_len : mg "len" = none
  n_list : mg "list" = none
  n_range : mg "range" = none
  n_sorted : mg "sorted" = none
  n_tuple : mg "tuple" = none
  c_MOST_CROSSING : ∃ u, mg "MOST_CROSSING" = some u ∧ RelV (V.int 200) u
abbrev s_bits_of : Stmt := topS 5
theorem sc_bits_of : FnScope ["places", "found", "place"] ["places"] (defScope s_bits_of) := ⟨rfl, rfl, rfl, by decide +kernel, rfl, by decide +kernel, by decide +kernel⟩
abbrev s_places_of : Stmt := topS 6
theorem sc_places_of : FnScope ["bits", "place"] ["bits"] (defScope s_places_of) := ⟨rfl, rfl, rfl, by decide +kernel, rfl, by decide +kernel, by decide +kernel⟩
abbrev s_crossed_on : Stmt := topS 7
theorem sc_crossed_on : FnScope ["found", "some", "kept", "grown", "bits", "place", "more", "other"] ["found", "some"] (defScope s_crossed_on) := ⟨rfl, rfl, rfl, by decide +kernel, rfl, by decide +kernel, by decide +kernel⟩
abbrev s_crossed_sets : Stmt := topS 8
theorem sc_crossed_sets : FnScope ["sets", "found", "some", "bits"] ["sets"] (defScope s_crossed_sets) := ⟨rfl, rfl, rfl, by decide +kernel, rfl, by decide +kernel, by decide +kernel⟩
abbrev s__law_deal : Stmt := topS 10
theorem sc__law_deal : FnScope ["cell", "great", "one", "k", "two"] ["cell"] (defScope s__law_deal) := ⟨rfl, rfl, rfl, by decide +kernel, rfl, by decide +kernel, by decide +kernel⟩
abbrev s__law_take : Stmt := topS 11
theorem sc__law_take : FnScope ["pot", "many", "digit"] ["pot", "many"] (defScope s__law_take) := ⟨rfl, rfl, rfl, by decide +kernel, rfl, by decide +kernel, by decide +kernel⟩
abbrev s__law_cells : Stmt := topS 12
theorem sc__law_cells : FnScope ["script", "most"] ["script", "most"] (defScope s__law_cells) := ⟨rfl, rfl, rfl, by decide +kernel, rfl, by decide +kernel, by decide +kernel⟩
abbrev s__law_subsets : Stmt := topS 13
theorem sc__law_subsets : FnScope ["some", "found", "one", "subset"] ["some"] (defScope s__law_subsets) := ⟨rfl, rfl, rfl, by decide +kernel, rfl, by decide +kernel, by decide +kernel⟩
abbrev s__law_sets : Stmt := topS 14
theorem sc__law_sets : FnScope ["found", "due", "places", "place"] ["found", "due"] (defScope s__law_sets) := ⟨rfl, rfl, rfl, by decide +kernel, rfl, by decide +kernel, by decide +kernel⟩
abbrev s__law_whole : Stmt := topS 15
theorem sc__law_whole : FnScope ["found"] ["found"] (defScope s__law_whole) := ⟨rfl, rfl, rfl, by decide +kernel, rfl, by decide +kernel, by decide +kernel⟩
abbrev s__law_drawn : Stmt := topS 16
theorem sc__law_drawn : FnScope ["pot", "low", "numbers", "sets", "k", "way", "some", "j", "number"] ["pot"] (defScope s__law_drawn) := ⟨rfl, rfl, rfl, by decide +kernel, rfl, by decide +kernel, by decide +kernel⟩
abbrev s__law_crossed : Stmt := topS 17
theorem sc__law_crossed : FnScope ["sets", "have", "places", "number", "numbers", "found", "less", "some"] ["sets"] (defScope s__law_crossed) := ⟨rfl, rfl, rfl, by decide +kernel, rfl, by decide +kernel, by decide +kernel⟩
abbrev s_law : Stmt := topS 18
theorem sc_law : FnScope ["script", "cell", "sets", "due", "handed", "found"] ["script"] (defScope s_law) := ⟨rfl, rfl, rfl, by decide +kernel, rfl, by decide +kernel, by decide +kernel⟩
section
variable {P : Program} {w : World} {K : PySem.W.Frag} {mg : Str → Option Value} {base : Heap}
theorem mkI_snoc {l : List Int} {x : Int} : mkI (l ++ [x]) = mkI l ||| 2 ^ x.toNat := by unfold mkI mkB; rw [List.map_append, List.foldl_append]; rfl
def C_bits_of : Ct := fun ds Q => ∃ l : List Int, ds = [tupI l] ∧ (∀ x ∈ l, 0 ≤ x ∧ x < 1000) ∧ Q (.int (mkI l : Nat)) [.unk]
set_option maxHeartbeats 4000000 in
theorem ok_bits_of {f : Addr} {fd : FuncData} (F : Fun K "bits_of" "bits_of" s_bits_of f fd) (B : Bf mg)  : FnOk P w K mg base CX0 1 f fd ["places"] (spC K 1 C_bits_of) := by
  refine fn_ok (C := C_bits_of) (N := ["places", "found", "place"]) (ps := ["places"]) [] F sc_bits_of (fun cdv A outer s H E hr => have nd := sc_bits_of.nd; have hu1 := hu_of hr; have s0 := s; have h0 := H; ⟨_, (vs_cons (vs_set 1 (by decide) ve_int (fun h => ps_set nd (i := 1) rfl (by first | exact Or.inl rfl | exact Or.inr rfl) h))
    (vs_cons (vs_for PassesOwn.never rfl (vi_seq rfl (ve_var 0 (pv 0))) (vg_name 2 (by decide) (pg_name nd (i := 2) rfl (by first | exact Or.inl rfl | exact Or.inr rfl)))
    (vs_one (vs_set 1 (by decide) (ve_or_b (ve_var 1 (pv 1)) (ve_shl ve_int (ve_var 2 (pv 2)))) (fun h => ps_set nd (i := 1) rfl (by first | exact Or.inl rfl | exact Or.inr rfl) h))))
    (vs_one (vs_ret (ve_take 1 (pv 1)))))), fun ds Qv hl hC => ?_⟩)
  · obtain ⟨l, rfl, hl, q⟩ := hC
    walk_at "vl"
    refine for_map (l := l) (fun k S => ∃ x : D, S = [tupI l, .int (mkI (l.take k) : Nat), x]) ⟨_, rfl⟩ ?_ ?_
    · rintro k t S cont ht ⟨x, rfl⟩ hc
      have h0 := hl t (List.mem_of_getElem? ht)
      have hc' := fun x => hc _ ⟨x, rfl⟩
      rw [take_snoc ht, mkI_snoc] at hc'
      walk_at "vl"
      rw [or_place h0.1]
      exact ⟨cpow1 h0.1 h0.2, hc' _⟩
    · rintro S ⟨x, rfl⟩
      rw [List.take_length]
      walk_at "vl"
      exact q
theorem intBits_nat (m : Nat) : Builtin.Int.intBits (m : Int) = if m = 0 then 0 else m.log2 + 1 := by
  unfold Builtin.Int.intBits
  by_cases c : m = 0
  · subst c; rfl
  · rw [if_neg c, if_neg (by simpa using c)]; simp
theorem bit_at (m k : Nat) : ((m : Int) / 2 ^ k % 2 = 1) ↔ m.testBit k = true := by
  have e : ((m : Int) / 2 ^ k) = ((m / 2 ^ k : Nat) : Int) := by rw [Int.natCast_ediv, Int.natCast_pow]; rfl
  rw [e, Nat.testBit_eq_decide_div_mod_eq, decide_eq_true_eq]
  omega
def C_places_of : Ct := fun ds Q => ∃ m : Nat, ds = [.int m] ∧ m < 2 ^ 1000 ∧ Q (tupI (plI m)) [.unk]
set_option maxHeartbeats 4000000 in
theorem ok_places_of {f : Addr} {fd : FuncData} (F : Fun K "places_of" "places_of" s_places_of f fd) (B : Bf mg)  : FnOk P w K mg base CX0 1 f fd ["bits"] (spC K 1 C_places_of) := by
  refine fn_ok (C := C_places_of) (N := ["bits", "place"]) (ps := ["bits"]) [] F sc_places_of (fun cdv A outer s H E hr => have nd := sc_places_of.nd; have hu1 := hu_of hr; have s0 := s; have h0 := H; ⟨_, (vs_one (vs_ret (ve_tuple rfl rfl B.n_tuple (ve_lc (own := [("place", 1)]) rfl nd (vi_range1 rfl B.n_range (ve_bits (ve_var 0 (pv 0)))) (blkOk_by (N := ["bits", "place"]) (sc := defScope s_places_of) (by decide +kernel)) (by decide) (fun _ _ _ _ _ => (vn_name 1 (by decide) (pg_name nd (i := 1) rfl (by first | exact Or.inl rfl | exact Or.inr rfl)))) (fun _ _ _ _ _ => vts_one (vq_eq rfl hr.units (ve_and_b (ve_shr (ve_var 0 (pv 0)) (ve_var 1 (pv 1))) ve_int) ve_int)) (fun _ _ _ _ _ => (ve_var 1 (pv 1))) s0 h0)))), fun ds Qv hl hC => ?_⟩)
  · obtain ⟨m, rfl, hm, q⟩ := hC
    have lb : (if m = 0 then 0 else m.log2 + 1) ≤ 1000 := by
      by_cases c : m = 0
      · rw [if_pos c]; omega
      · rw [if_neg c]
        have := (Nat.log2_lt c).mpr hm
        omega
    walk_at "vl"
    rw [intBits_nat, Int.toNat_natCast]
    have e : (-2 ^ 62 : Int) = -4611686018427387904 := by decide
    refine ⟨⟨by omega, by omega⟩, ?_⟩
    refine lc_rgm (fun k => if m.testBit k = true then some (.int (k : Nat)) else none) (by rw [line_eq]; omega) (fun k acc cont hk ha hc => ?_) ?_
    · walk_at "vl"
      rw [Int.zero_add, Int.toNat_natCast]
      refine ⟨by omega, ?_⟩
      rw [propext (bit_at m k)]
      exact lc_e2 ha hc
    have e : (List.range (if m = 0 then 0 else m.log2 + 1)).filterMap (fun k => if m.testBit k = true then some (D.int (k : Nat)) else none) = (plI m).map D.int := by
      rw [fm_if]
      unfold plI plB
      rw [List.map_map]
      congr 1
      exact List.filter_congr fun x _ => by simp
    rw [e]
    exact ⟨immL_ints, q⟩
def C_crossed_on : Ct := fun ds Q => ∃ (F : List Nat) (s : Nat), ds = [.lst false ((natL F).map D.int), .int s] ∧ F.length ≤ 200 ∧ s < 2 ^ 1000 ∧ Q (.lst true ((natL (crOn F s)).map D.int)) [.unk, .unk]
set_option maxHeartbeats 4000000 in
theorem ok_crossed_on {f : Addr} {fd : FuncData} (F : Fun K "crossed_on" "crossed_on" s_crossed_on f fd) (B : Bf mg) (c_places_of : Cal P w K mg base 1 "places_of" 1 C_places_of [] []) : FnOk P w K mg base CX0 2 f fd ["found", "some"] (spC K 2 C_crossed_on) := by
  refine fn_ok (C := C_crossed_on) (N := ["found", "some", "kept", "grown", "bits", "place", "more", "other"]) (ps := ["found", "some"]) [] F sc_crossed_on (fun cdv A outer s H E hr => have nd := sc_crossed_on.nd; have hu1 := hu_of hr; have s0 := s; have h0 := H; ⟨_, (vs_cons (vs_setLc (i := 2) (own := [("bits", 4)]) (by decide) rfl nd rfl (rfl) (sw_true rfl rfl rfl (by decide +kernel)) (vi_seq rfl (ve_var 0 (pv 0))) (blkOk_by (N := ["found", "some", "kept", "grown", "bits", "place", "more", "other"]) (sc := defScope s_crossed_on) (by decide +kernel)) (by decide) (fun _ _ _ _ _ => (vn_name 4 (by decide) (pg_name nd (i := 4) rfl (by first | exact Or.inl rfl | exact Or.inr rfl)))) (fun _ _ _ _ _ => vts_one (vq_gt (ve_and_b (ve_var 4 (pv 4)) (ve_var 1 (pv 1))) ve_int)) (fun _ _ _ _ _ => (ve_var 4 (pv 4))) s0 h0)
    (vs_cons (vs_set 3 (by decide) (ve_lst va_nil) (fun h => ps_set nd (i := 3) rfl (by first | exact Or.inl rfl | exact Or.inr rfl) h))
    (vs_cons (vs_for PassesOwn.never rfl (vi_seq rfl (ve_var 0 (pv 0))) (vg_name 4 (by decide) (pg_name nd (i := 4) rfl (by first | exact Or.inl rfl | exact Or.inr rfl)))
    (vs_cons (vs_if (vq_gt (ve_and_b (ve_var 4 (pv 4)) (ve_var 1 (pv 1))) ve_int)
    (vs_one vs_continue)
    vs_nil)
    (vs_one (vs_for PassesOwn.never rfl (vi_seq rfl (vc0 c_places_of hr (by decide) rfl rfl (va_cons (ve_var 1 (pv 1)) va_nil))) (vg_name 5 (by decide) (pg_name nd (i := 5) rfl (by first | exact Or.inl rfl | exact Or.inr rfl)))
    (vs_cons (vs_set 6 (by decide) (ve_or_b (ve_var 4 (pv 4)) (ve_shl ve_int (ve_var 5 (pv 5)))) (fun h => ps_set nd (i := 6) rfl (by first | exact Or.inl rfl | exact Or.inr rfl) h))
    (vs_one (vs_if (vq_not (vq_val (ve_bor 2 (ve_any1 rfl rfl rfl B.n_any (ve_lc (own := [("other", 7)]) rfl nd (vi_seq rfl (ve_var 2 (pv 2))) (blkOk_by (N := ["found", "some", "kept", "grown", "bits", "place", "more", "other"]) (sc := defScope s_crossed_on) (by decide +kernel)) (by decide) (fun _ _ _ _ _ => (vn_name 7 (by decide) (pg_name nd (i := 7) rfl (by first | exact Or.inl rfl | exact Or.inr rfl)))) (fun _ _ _ _ _ => vts_nil) (fun _ _ _ _ _ => (ve_eq rfl hr.units (ve_and_b (ve_var 7 (pv 7)) (ve_var 6 (pv 6))) (ve_var 7 (pv 7)))) s0 h0)))))
    (vs_one (vs_expr (ve_append rfl (vp_name 3 (pv 3)) (ve_var 6 (pv 6)))))
    vs_nil)))))))
    (vs_one (vs_ret (ve_add rfl (ve_var 2 (pv 2)) (ve_var 3 (pv 3)))))))), fun ds Qv hl hC => ?_⟩)
  · obtain ⟨F, s, rfl, fl, sl, q⟩ := hC
    have pl := plI_len sl
    walk_at "vl"
    refine lc_map (g := D.int) (l := natL F) (fun x => if 0 < Builtin.bitAnd x (s : Int) then some (.int x) else none) (by rw [line_eq, natL_len]; omega) (fun x acc cont hx ha hc => ?_) ?_
    · walk_at "vl"
      exact lc_e2 ha hc
    rw [fm_if, kept_natL]
    walk_at "vl"
    refine for_map (l := natL F) (fun k S => ∃ x4 x5 x6 x7 : D, S = [.lst false ((natL F).map D.int), .int s, .lst true ((natL (crKept F s)).map D.int), .lst true ((natL (grwN F s k)).map D.int), x4, x5, x6, x7] ∧ (x4.imm = true ∧ x5.imm = true ∧ x6.imm = true ∧ x7.imm = true) ∧ (grwN F s k).length ≤ k * 1000) ⟨_, _, _, _, rfl, ⟨rfl, rfl, rfl, rfl⟩, by simp [grwN]⟩ ?_ ?_
    · rintro k x S cont hx ⟨x4, x5, x6, x7, rfl, ⟨i4, i5, i6, i7⟩, gl⟩ hc
      have hk : k < F.length := by have := (List.getElem?_eq_some_iff.mp hx).1; rw [natL_len] at this; exact this
      obtain ⟨m, hm, rfl⟩ : ∃ m : Nat, F[k]? = some m ∧ x = (m : Int) := by
        unfold natL at hx
        rw [List.getElem?_map] at hx
        cases e : F[k]? with
        | none => rw [e] at hx; cases hx
        | some m => rw [e] at hx; cases hx; exact ⟨m, rfl, rfl⟩
      have hc' := fun x4 x5 x6 x7 h1 h2 => hc _ ⟨x4, x5, x6, x7, rfl, h1, h2⟩
      clear hc
      rw [grwN_snoc hm] at hc'
      walk_at "vl"
      rw [bitAnd_nat]
      refine ⟨fun hp => ?_, fun hp => ?_⟩
      · rw [if_pos (by omega), List.append_nil] at hc'
        exact hc' _ _ _ _ ⟨rfl, i5, i6, i7⟩ (by omega)
      have np : ¬ 0 < m &&& s := by omega
      rw [if_neg np, ← putI_all] at hc'
      refine ⟨s, rfl, sl, ?_⟩
      walk_at "vl"
      refine for_map (l := plI s) (fun j S => ∃ x5 x6 x7 : D, S = [.lst false ((natL F).map D.int), .int s, .lst true ((natL (crKept F s)).map D.int), .lst true ((natL (grwN F s k ++ putI (crKept F s) m ((plI s).take j))).map D.int), .int m, x5, x6, x7] ∧ (x5.imm = true ∧ x6.imm = true ∧ x7.imm = true)) ⟨_, _, _, by simp [putI], ⟨i5, i6, i7⟩⟩ ?_ ?_
      · rintro j t S cont ht ⟨y5, y6, y7, rfl, ⟨j5, j6, j7⟩⟩ hc
        have hcc := fun x5 x6 x7 h1 => hc _ ⟨x5, x6, x7, rfl, h1⟩
        clear hc
        have hj := (List.getElem?_eq_some_iff.mp ht).1
        have tb := bit_lt sl (List.mem_of_getElem? ht)
        rw [take_snoc ht, putI_snoc, ← List.append_assoc] at hcc
        have gl2 : (grwN F s k ++ putI (crKept F s) m ((plI s).take j)).length ≤ 300000 := by
          have := putI_len (kept := crKept F s) (m := m) (l := (plI s).take j)
          rw [List.length_take] at this
          rw [List.length_append]
          omega
        generalize grwN F s k ++ putI (crKept F s) m ((plI s).take j) = G at *
        walk_at "vl"
        rw [or_place tb.1]
        refine ⟨cpow1 tb.1 tb.2, j7, lc_map (g := D.int) (l := natL (crKept F s)) (fun o => some (.bl (decide (Builtin.bitAnd o ((m ||| 2 ^ t.toNat : Nat) : Int) = o)))) (by rw [line_eq, natL_len]; have : (crKept F s).length ≤ F.length := List.length_filter_le _ _; omega) (fun o acc cont ho ha hc => ?_) ?_⟩
        · walk_at "vl"
          exact ⟨ha, hc⟩
        rw [fm_some]
        refine ⟨(natL (crKept F s)).map fun o => decide (Builtin.bitAnd o ((m ||| 2 ^ t.toNat : Nat) : Int) = o), ⟨_, by rw [List.map_map]; rfl⟩, ?_⟩
        have e : ((natL (crKept F s)).map fun o => decide (Builtin.bitAnd o ((m ||| 2 ^ t.toNat : Nat) : Int) = o)).any id = decide (∃ o ∈ crKept F s, o &&& (m ||| 2 ^ t.toNat) = o) := by
          rw [any_dec]
          refine decide_eq_decide.mpr ⟨?_, ?_⟩
          · rintro ⟨x, hx, e⟩
            obtain ⟨o, ho, rfl⟩ := mem_natL hx
            rw [bitAnd_nat] at e
            exact ⟨o, ho, by omega⟩
          · rintro ⟨o, ho, e⟩
            exact ⟨(o : Int), List.mem_map.mpr ⟨o, ho, rfl⟩, by rw [bitAnd_nat, e]⟩
        rw [e]
        walk_at "vl"
        refine ⟨by rw [j7]; rfl, fun hn => ⟨by rw [line_eq, natL_len]; omega, ?_⟩, fun hp => ?_⟩
        · rw [if_neg hn] at hcc
          have := hcc (.int t) (.int ((m ||| 2 ^ t.toNat : Nat) : Int)) y7 ⟨rfl, rfl, j7⟩
          rw [natL_app, List.map_append] at this
          exact this
        · rw [if_pos hp, List.append_nil] at hcc
          exact hcc _ _ _ ⟨rfl, rfl, j7⟩
      · rintro S ⟨y5, y6, y7, rfl, ⟨j5, j6, j7⟩⟩
        rw [List.take_length]
        walk_at "vl"
        refine hc' _ _ _ _ ⟨rfl, j5, j6, j7⟩ ?_
        have := putI_len (kept := crKept F s) (m := m) (l := plI s)
        rw [List.length_append]
        omega
    · rintro S ⟨x4, x5, x6, x7, rfl, _, gl⟩
      have kl : (crKept F s).length ≤ F.length := List.length_filter_le _ _
      rw [natL_len] at gl ⊢
      walk_at "vl"
      rw [natL_len, natL_len, ← List.map_append, ← natL_app]
      refine ⟨by rw [line_eq]; omega, ?_⟩
      have e : crKept F s ++ grwN F s F.length = crOn F s := by unfold grwN crOn; rw [List.take_length]
      rw [e]
      exact q
def rowsS (b : Bool) (rows : List (List Int)) : D := if b then .lst false (rows.map iT) else .tup (rows.map iT)
def C_crossed_sets : Ct := fun ds Q => ∃ (b : Bool) (rows : List (List Int)), ds = [rowsS b rows] ∧ rows.length ≤ 4000 ∧ (∀ r ∈ rows, ∀ x ∈ r, 0 ≤ x ∧ x < 1000) ∧ (∀ k, k ≤ rows.length → (crAll ((rows.take k).map mkI)).length ≤ 200) ∧ Q (.lst true ((crossR rows).map iT)) [.unk]
set_option maxHeartbeats 4000000 in
theorem ok_crossed_sets {f : Addr} {fd : FuncData} (F : Fun K "crossed_sets" "crossed_sets" s_crossed_sets f fd) (B : Bf mg) (c_bits_of : Cal P w K mg base 1 "bits_of" 1 C_bits_of [] []) (c_crossed_on : Cal P w K mg base 2 "crossed_on" 2 C_crossed_on [] []) (c_places_of : Cal P w K mg base 1 "places_of" 1 C_places_of [] []) : FnOk P w K mg base CX0 3 f fd ["sets"] (spC K 1 C_crossed_sets) := by
  refine fn_ok (C := C_crossed_sets) (N := ["sets", "found", "some", "bits"]) (ps := ["sets"]) [] F sc_crossed_sets (fun cdv A outer s H E hr => have nd := sc_crossed_sets.nd; have hu1 := hu_of hr; have s0 := s; have h0 := H; ⟨_, (vs_cons (vs_set 1 (by decide) (ve_lst (va_cons ve_int va_nil)) (fun h => ps_set nd (i := 1) rfl (by first | exact Or.inl rfl | exact Or.inr rfl) h))
    (vs_cons (vs_for PassesOwn.never rfl (vi_seq rfl (ve_var 0 (pv 0))) (vg_name 2 (by decide) (pg_name nd (i := 2) rfl (by first | exact Or.inl rfl | exact Or.inr rfl)))
    (vs_cons (vs_set 1 (by decide) (vcB c_crossed_on hr (by decide) rfl rfl (va_cons (ve_var 1 (pv 1)) (va_cons (vc0 c_bits_of hr (by decide) rfl rfl (va_cons (ve_var 2 (pv 2)) va_nil)) va_nil))) (fun h => ps_set nd (i := 1) rfl (by first | exact Or.inl rfl | exact Or.inr rfl) h))
    (vs_one (vs_if (vq_gt (ve_len rfl rfl B.n_len (ve_var 1 (pv 1))) (ve_glob (u := .none) (C8.pe_gc rfl B.c_MOST_CROSSING) rep_int))
    vss_never
    vs_nil))))
    (vs_one (vs_ret (ve_srt rfl hr.units rfl B.n_sorted (ve_lc (own := [("bits", 3)]) rfl nd (vi_seq rfl (ve_frz 1 (pv 1))) (blkOk_by (N := ["sets", "found", "some", "bits"]) (sc := defScope s_crossed_sets) (by decide +kernel)) (by decide) (fun _ _ _ _ _ => (vn_name 3 (by decide) (pg_name nd (i := 3) rfl (by first | exact Or.inl rfl | exact Or.inr rfl)))) (fun _ _ _ _ _ => vts_nil) (fun _ _ _ _ _ => (vc0 c_places_of hr (by decide) rfl rfl (va_cons (ve_var 3 (pv 3)) va_nil))) s0 h0)))))), fun ds Qv hl hC => ?_⟩)
  · obtain ⟨b, rows, rfl, rl, hr, hf, q⟩ := hC
    cases b
    all_goals
      unfold rowsS
      walk_at "vl"
      refine for_map (l := rows) (fun k S => ∃ d x y : D, S = [d, .lst true ((natL (crAll ((rows.take k).map mkI))).map D.int), x, y] ∧ d.imm = true ∧ y.imm = true) ⟨_, _, _, rfl, by walk_at "vl", rfl⟩ ?_ ?_
      · rintro k r S cont ht ⟨d, x, y, rfl, di, yi⟩ hc
        have hk := (List.getElem?_eq_some_iff.mp ht).1
        have hc' := fun x (y : D) (h : y.imm = true) => hc _ ⟨d, x, y, rfl, di, h⟩
        clear hc
        have f1 := hf (k + 1) hk
        have f0 := hf k (by omega)
        rw [take_snoc ht, List.map_append, List.map_singleton, crAll_snoc] at hc' f1
        have rb := hr r (List.mem_of_getElem? ht)
        rw [show iT r = tupI r from rfl] at *
        walk_at "vl"
        refine ⟨r, rfl, rb, ?_⟩
        walk_at "vl"
        refine ⟨_, mkI r, rfl, f0, mkI_lt rb, ?_⟩
        walk_at "vl"
        rw [natL_len]
        exact ⟨by omega, fun _ => hc' _ _ yi⟩
      · rintro S ⟨d, x, y, rfl, di, yi⟩
        rw [List.take_length]
        have fr := hf rows.length (Nat.le_refl _)
        rw [List.take_length] at fr
        have C := crs_all (F := rows.map mkI)
        walk_at "vl"
        refine ⟨yi, lc_map (g := D.int) (l := natL (crAll (rows.map mkI))) (fun m => some (iT (plI m.toNat))) (by rw [line_eq, natL_len]; omega) (fun m acc cont hm ha hc => ?_) ?_⟩
        · obtain ⟨m, h, rfl⟩ := mem_natL hm
          walk_at "vl"
          refine ⟨m, rfl, ?_, ?_⟩
          · refine Nat.lt_pow_two_of_testBit _ fun i hi => ?_
            cases e : m.testBit i with
            | false => rfl
            | true =>
              obtain ⟨s, hs, h2⟩ := least_bits ((C.mem m).mp h) e
              obtain ⟨r, hr2, rfl⟩ := List.mem_map.mp hs
              have := hr r hr2 _ ((mem_mkN fun x hx => (hr r hr2 x hx).1).mp h2)
              omega
          walk_at "vl"
          exact ⟨ha, hc⟩
        rw [fm_some]
        rw [show ((natL (crAll (rows.map mkI))).map fun m => iT (plI m.toNat)) = ((crAll (rows.map mkI)).map plI).map iT by unfold natL; rw [List.map_map, List.map_map]; rfl]
        refine c_sTL2 ⟨fun h2 p hp => ?_, ?_⟩
        · obtain ⟨m, hm, rfl⟩ := List.mem_map.mp hp
          intro e0
          have m0 : m = 0 := by
            rw [← mk_plI (m := m), e0]; rfl
          subst m0
          have nd := C.nd
          rw [List.length_map] at h2
          have all0 : ∀ x ∈ crAll (rows.map mkI), x = 0 := fun x hx => (((C.mem x).mp hx).2 0 (fun i hi => by simp at hi) ((C.mem 0).mp hm).1).symm
          generalize crAll (rows.map mkI) = L at *
          match L, h2 with
          | a :: b :: L, _ =>
            have h1 := all0 a (by simp)
            have h2 := all0 b (by simp)
            subst h1; subst h2
            simp at nd
        walk_at "vl"
        exact q

def C__law_deal : Ct := fun ds Q => ∃ c : Int, ds = [.int c] ∧ ∀ g : Int, 0 ≤ g → Q (potX g) [.unk]
set_option maxHeartbeats 4000000 in
theorem ok__law_deal {f : Addr} {fd : FuncData} (F : Fun K "_law_deal" "_law_deal" s__law_deal f fd) (B : Bf mg)  : FnOk P w K mg base CX0 1 f fd ["cell"] (spC K 1 C__law_deal) := by
  refine fn_ok (C := C__law_deal) (N := ["cell", "great", "one", "k", "two"]) (ps := ["cell"]) [] F sc__law_deal (fun cdv A outer s H E hr => have nd := sc__law_deal.nd; have hu1 := hu_of hr; have s0 := s; have h0 := H; ⟨_, (vs_cons (vs_if (vq_ge (ve_var 0 (pv 0)) (ve_pow ve_int ve_int))
    (vs_one (vs_ret (ve_lst (va_cons (ve_mod (ve_sub (ve_var 0 (pv 0)) (ve_pow ve_int ve_int)) (ve_mulW (ve_mulW (ve_pow ve_int ve_int) (ve_pow ve_int ve_int)) (ve_pow ve_int ve_int))) va_nil))))
    vs_nil)
    (vs_cons (vs_set 1 (by decide) ve_int (fun h => ps_set nd (i := 1) rfl (by first | exact Or.inl rfl | exact Or.inr rfl) h))
    (vs_cons (vs_set 2 (by decide) (ve_add rfl (ve_mod (ve_var 0 (pv 0)) ve_int) ve_int) (fun h => ps_set nd (i := 2) rfl (by first | exact Or.inl rfl | exact Or.inr rfl) h))
    (vs_cons (vs_for PassesOwn.never rfl (vi_range1 rfl B.n_range ve_int) (vg_name 3 (by decide) (pg_name nd (i := 3) rfl (by first | exact Or.inl rfl | exact Or.inr rfl)))
    (vs_cons (vs_set 2 (by decide) (ve_mod (ve_add rfl (ve_add rfl (ve_mulW (ve_var 2 (pv 2)) ve_int) (ve_mulW ve_int (ve_var 3 (pv 3)))) ve_int) ve_int) (fun h => ps_set nd (i := 2) rfl (by first | exact Or.inl rfl | exact Or.inr rfl) h))
    (vs_cons (vs_set 4 (by decide) (ve_mod (ve_mulW (ve_var 2 (pv 2)) (ve_var 2 (pv 2))) ve_int) (fun h => ps_set nd (i := 4) rfl (by first | exact Or.inl rfl | exact Or.inr rfl) h))
    (vs_one (vs_set 1 (by decide) (ve_add rfl (ve_mulW (ve_var 1 (pv 1)) ve_int) (ve_mod (ve_fdiv (ve_var 4 (pv 4)) ve_int) ve_int)) (fun h => ps_set nd (i := 1) rfl (by first | exact Or.inl rfl | exact Or.inr rfl) h))))))
    (vs_one (vs_ret (ve_lst (va_cons (ve_var 1 (pv 1)) va_nil)))))))), fun ds Qv hl hC => ?_⟩)
  · obtain ⟨c, rfl, q⟩ := hC
    walk_at "vl"
    have e28 : Int.toNat 28 = 28 := rfl
    rw [e28]
    refine ⟨by walk_at "ob", fun h => ⟨by walk_at "ob", by walk_at "ob", by walk_at "ob", by walk_at "ob", by walk_at "ob", mulN 900 900 (by decide) (by decide) (by decide) (by decide +kernel) (by decide +kernel) (by decide +kernel) (by decide +kernel), by decide +kernel, ?_⟩, fun h => ⟨by decide, ⟨by omega, by omega⟩, ?_⟩⟩
    · exact q _ (Int.emod_nonneg _ (by decide +kernel))
    refine for_rgm (fun k S => ∃ (one great : Int) (z y : D), S = [.int c, .int great, .int one, z, y] ∧ (0 ≤ one ∧ one < 3000000000) ∧ 0 ≤ great ∧ great < 4194304 ^ k) ⟨c % 2147483647 + 4099, 0, _, _, rfl, by omega, by decide, by decide⟩ ?_ ?_
    · rintro k S cont hk ⟨one, great, z, y, rfl, o1, g0, g1⟩ hc
      walk_at "vl"
      have pk : (4194304 : Int) ^ k ≤ 4194304 ^ 28 := ipow_mono (by decide) (by omega)
      have p24 : (4194304 : Int) ^ 28 < 2 ^ 800 := by decide +kernel
      have hm1 : CMulW one 48271 := mulS (by omega) (by omega) (by omega) (by omega)
      have hm2 : CMulW 7919 (0 + (k : Int)) := mulS (by omega) (by omega) (by omega) (by omega)
      have u0 := Int.emod_nonneg (one * 48271 + 7919 * (0 + (k : Int)) + 12345) (b := 2147483647) (by decide)
      have u1 := Int.emod_lt_of_pos (one * 48271 + 7919 * (0 + (k : Int)) + 12345) (b := 2147483647) (by decide)
      generalize (one * 48271 + 7919 * (0 + (k : Int)) + 12345) % 2147483647 = u at *
      have w0 := Int.emod_nonneg (u * u) (b := 2147483629) (by decide)
      have w1 := Int.emod_lt_of_pos (u * u) (b := 2147483629) (by decide)
      have hm3 : CMulW u u := mulS (by omega) (by omega) (by omega) (by omega)
      generalize u * u % 2147483629 = w at *
      refine ⟨hm1, hm2, by decide, hm3, by decide, mulN 800 100 (by decide) (by decide) (by decide) ?_ (by omega) (by decide) (by decide), divS (by decide) (by decide), by decide, hc _ ⟨_, _, _, _, rfl, ⟨u0, by omega⟩, ?_, ?_⟩⟩
      · have : (0 : Int) < 2 ^ 800 := ipow_pos (by decide) _
        omega
      · omega
      · rw [Int.pow_succ]
        omega
    · rintro S ⟨one, great, z, y, rfl, o1, g0, g1⟩
      walk_at "vl"
      exact q great g0
def C__law_take : Ct := fun ds Q => ∃ g m : Int, ds = [potX g, .int m] ∧ 0 ≤ g ∧ 0 < m ∧ m < 1000 ∧ ∀ r g', 0 ≤ r → r < m → 0 ≤ g' → Q (.int r) [potX g', .unk]
set_option maxHeartbeats 4000000 in
theorem ok__law_take {f : Addr} {fd : FuncData} (F : Fun K "_law_take" "_law_take" s__law_take f fd) (B : Bf mg)  : FnOk P w K mg base CX0 1 f fd ["pot", "many"] (spC K 2 C__law_take) := by
  refine fn_ok (C := C__law_take) (N := ["pot", "many", "digit"]) (ps := ["pot", "many"]) [0] F sc__law_take (fun cdv A outer s H E hr => have nd := sc__law_take.nd; have hu1 := hu_of hr; have s0 := s; have h0 := H; ⟨_, (vs_cons (vs_set 2 (by decide) (ve_mod (ve_ix rfl (ve_var 0 (pv 0)) ve_int (fun _ _ => rfl)) (ve_var 1 (pv 1))) (fun h => ps_set nd (i := 2) rfl (by first | exact Or.inl rfl | exact Or.inr rfl) h))
    (vs_cons (vs_asg (ve_fdiv (ve_ix rfl (ve_var 0 (pv 0)) ve_int (fun _ _ => rfl)) (ve_var 1 (pv 1))) (vg_sub set_list lf_setL own_oSet (vp_name 0 (pv 0)) ve_int))
    (vs_one (vs_ret (ve_take 2 (pv 2)))))), fun ds Qv hl hC => ?_⟩)
  · obtain ⟨g, m, rfl, g0, m0, m1, q⟩ := hC
    walk_at "vl"
    refine ⟨by omega, divS (by omega) (by omega), q _ _ (Int.emod_nonneg _ (by omega)) (Int.emod_lt_of_pos _ m0) (Int.ediv_nonneg g0 (by omega))⟩
def C__law_cells : Ct := fun ds Q => ∃ (ns : List Int) (m : Nat), ds = [.lst false (ns.map D.int), .int m] ∧ ns.length ≤ 63 ∧ m ≤ 60 ∧ Q (.lst true ((ns.take m ++ [0]).map D.int)) [.unk, .unk]
set_option maxHeartbeats 4000000 in
theorem ok__law_cells {f : Addr} {fd : FuncData} (F : Fun K "_law_cells" "_law_cells" s__law_cells f fd) (B : Bf mg)  : FnOk P w K mg base CX0 1 f fd ["script", "most"] (spC K 2 C__law_cells) := by
  refine fn_ok (C := C__law_cells) (N := ["script", "most"]) (ps := ["script", "most"]) [] F sc__law_cells (fun cdv A outer s H E hr => have nd := sc__law_cells.nd; have hu1 := hu_of hr; have s0 := s; have h0 := H; ⟨_, (vs_one (vs_ret (ve_add rfl (ve_sl rfl (ve_var 0 (pv 0)) vo_none (vo_some (ve_var 1 (pv 1)))) (ve_lst (va_cons ve_int va_nil))))), fun ds Qv hl hC => ?_⟩)
  · obtain ⟨ns, m, rfl, hn, hm, q⟩ := hC
    walk_at "vl"
    have e : VL.cutD ns none (some (m : Int)) = ns.take m := by
      unfold VL.cutD
      rw [HT.sIx_nat, HT.sIx_none, Nat.sub_zero, List.drop_zero]
      rcases Nat.le_total m ns.length with h | h
      · rw [Nat.min_eq_left h]
      · rw [Nat.min_eq_right h, List.take_of_length_le (Nat.le_refl _), List.take_of_length_le h]
    rw [e]
    rw [List.map_append] at q
    exact ⟨by rw [line_eq, List.length_take]; omega, q⟩
def C__law_subsets : Ct := fun ds Q => ∃ ns : List Int, ds = [.lst false (ns.map D.int)] ∧ ns.length ≤ 9 ∧ Q (.lst true ((srtLI (subsF ns)).map iT)) [.unk]
set_option maxHeartbeats 4000000 in
theorem ok__law_subsets {f : Addr} {fd : FuncData} (F : Fun K "_law_subsets" "_law_subsets" s__law_subsets f fd) (B : Bf mg)  : FnOk P w K mg base CX0 1 f fd ["some"] (spC K 1 C__law_subsets) := by
  refine fn_ok (C := C__law_subsets) (N := ["some", "found", "one", "subset"]) (ps := ["some"]) [] F sc__law_subsets (fun cdv A outer s H E hr => have nd := sc__law_subsets.nd; have hu1 := hu_of hr; have s0 := s; have h0 := H; ⟨_, (vs_cons (vs_set 1 (by decide) (ve_lst (va_cons (ve_tup va_nil) va_nil)) (fun h => ps_set nd (i := 1) rfl (by first | exact Or.inl rfl | exact Or.inr rfl) h))
    (vs_cons (vs_for PassesOwn.never rfl (vi_seq rfl (ve_var 0 (pv 0))) (vg_name 2 (by decide) (pg_name nd (i := 2) rfl (by first | exact Or.inl rfl | exact Or.inr rfl)))
    (vs_one (vs_set 1 (by decide) (ve_add rfl (ve_frz 1 (pv 1)) (ve_lc (own := [("subset", 3)]) rfl nd (vi_seq rfl (ve_frz 1 (pv 1))) (blkOk_by (N := ["some", "found", "one", "subset"]) (sc := defScope s__law_subsets) (by decide +kernel)) (by decide) (fun _ _ _ _ _ => (vn_name 3 (by decide) (pg_name nd (i := 3) rfl (by first | exact Or.inl rfl | exact Or.inr rfl)))) (fun _ _ _ _ _ => vts_nil) (fun _ _ _ _ _ => (ve_add rfl (ve_var 3 (pv 3)) (ve_tup (va_cons (ve_var 2 (pv 2)) va_nil)))) s0 h0)) (fun h => ps_set nd (i := 1) rfl (by first | exact Or.inl rfl | exact Or.inr rfl) h))))
    (vs_one (vs_ret (ve_srtLen rfl hr.units rfl B.n_sorted rfl B.n_len (ve_var 1 (pv 1))))))), fun ds Qv hl hC => ?_⟩)
  · obtain ⟨ns, rfl, hn, q⟩ := hC
    walk_at "vl"
    refine for_map (l := ns) (fun k S => ∃ x y : D, S = [.lst false (ns.map D.int), .lst true ((subsF (ns.take k)).map iT), x, y] ∧ y.imm = true) ⟨_, _, rfl, rfl⟩ ?_ ?_
    · rintro k t S cont ht ⟨x, y, rfl, yi⟩ hc
      have hk := (List.getElem?_eq_some_iff.mp ht).1
      have hc' := fun x (y : D) (h : y.imm = true) => hc _ ⟨x, y, rfl, h⟩
      rw [take_snoc ht, subsF_snoc] at hc'
      have hl : (subsF (ns.take k)).length ≤ 256 := by
        rw [subsF_len]
        have h2 : (ns.take k).length ≤ 8 := by rw [List.length_take]; omega
        have := Nat.pow_le_pow_right (show 0 < 2 by decide) h2
        omega
      walk_at "vl"
      refine ⟨?_, lc_map (g := iT) (l := subsF (ns.take k)) (fun r => some (iT (r ++ [t]))) (by rw [line_eq]; omega) (fun r acc cont hr ha hc => ?_) ?_⟩
      · exact yi
      · walk_at "vl"
        have rl : r.length ≤ 9 := by
          have := (subsF_mem.mp hr).length_le
          rw [List.length_take] at this
          omega
        have hc2 : cont _ (acc ++ [iT (r ++ [t])]) := hc
        rw [show iT (r ++ [t]) = D.tup (r.map D.int ++ [D.int t]) by rw [iT, List.map_append]; rfl] at hc2
        exact ⟨by rw [line_eq]; omega, ha, hc2⟩
      rw [fm_some]
      walk_at "vl"
      refine ⟨by rw [line_eq]; omega, ?_⟩
      have := hc' (.int t) y yi
      rw [List.map_append, List.map_map] at this
      exact this
    · rintro S ⟨x, y, rfl, _⟩
      rw [List.take_length]
      walk_at "vl"
      exact q
def C__law_sets : Ct := fun ds Q => ∃ rows : List (List Int), ds = [.lst false (rows.map iT), .lst false (rows.map iT)] ∧ rows.length ≤ 4000 ∧ (∀ r ∈ rows, r.length ≤ 1000) ∧ Q (.bl true) [.unk, .unk]
set_option maxHeartbeats 4000000 in
theorem ok__law_sets {f : Addr} {fd : FuncData} (F : Fun K "_law_sets" "_law_sets" s__law_sets f fd) (B : Bf mg) (c__law_whole : Cal P w K mg base 1 "_law_whole" 1 C__law_whole [] []) : FnOk P w K mg base CX0 2 f fd ["found", "due"] (spC K 2 C__law_sets) := by
  refine fn_ok (C := C__law_sets) (N := ["found", "due", "places", "place"]) (ps := ["found", "due"]) [] F sc__law_sets (fun cdv A outer s H E hr => have nd := sc__law_sets.nd; have hu1 := hu_of hr; have s0 := s; have h0 := H; ⟨_, (vs_cons (vs_if (VW.vq (vw_or (vq_not (vq_val (ve_isi rfl .list (by decide) rfl B.n_isinstance (ve_var 0 (pv 0)) (pe_bltn (v := .ty "list") rfl B.n_list (by decide +kernel) rfl)))) (vw_or1 (vq_ne rfl hr.units (ve_len rfl rfl B.n_len (ve_var 0 (pv 0))) (ve_len rfl rfl B.n_len (ve_var 1 (pv 1)))))))
    (vs_one (vs_ret ve_bl))
    vs_nil)
    (vs_cons (vs_for PassesOwn.never rfl (vi_seq rfl (ve_var 0 (pv 0))) (vg_name 2 (by decide) (pg_name nd (i := 2) rfl (by first | exact Or.inl rfl | exact Or.inr rfl)))
    (vs_one (vs_if (VW.vq (vw_or (vq_not (vq_val (ve_isi rfl .tuple (by decide) rfl B.n_isinstance (ve_var 2 (pv 2)) (pe_bltn (v := .ty "tuple") rfl B.n_tuple (by decide +kernel) rfl)))) (vw_or1 (vq_not (vq_val (ve_all1 rfl rfl rfl B.n_all (ve_lc (own := [("place", 3)]) rfl nd (vi_seq rfl (ve_var 2 (pv 2))) (blkOk_by (N := ["found", "due", "places", "place"]) (sc := defScope s__law_sets) (by decide +kernel)) (by decide) (fun _ _ _ _ _ => (vn_name 3 (by decide) (pg_name nd (i := 3) rfl (by first | exact Or.inl rfl | exact Or.inr rfl)))) (fun _ _ _ _ _ => vts_nil) (fun _ _ _ _ _ => (vc0 c__law_whole hr (by decide) rfl rfl (va_cons (ve_var 3 (pv 3)) va_nil))) s0 h0)))))))
    (vs_one (vs_ret ve_bl))
    vs_nil)))
    (vs_one (vs_ret (ve_eq rfl hr.units (ve_var 0 (pv 0)) (ve_var 1 (pv 1))))))), fun ds Qv hl hC => ?_⟩)
  · obtain ⟨rows, rfl, rl, hr, q⟩ := hC
    walk_at "vl"
    refine for_map (l := rows) (fun k S => ∃ x y : D, S = [.lst false (rows.map iT), .lst false (rows.map iT), x, y] ∧ y.imm = true) ⟨_, _, rfl, rfl⟩ ?_ ?_
    · rintro k r S cont ht ⟨x, y, rfl, yi⟩ hc
      have rl := hr r (List.mem_of_getElem? ht)
      have hc' := fun x (y : D) (h : y.imm = true) => hc _ ⟨x, y, rfl, h⟩
      rw [show iT r = D.tup (r.map D.int) from rfl] at *
      walk_at "vl"
      refine ⟨yi, lc_map (g := D.int) (l := r) (fun _ => some (.bl true)) (by rw [line_eq]; omega) (fun x acc cont hx ha hc => ?_) ?_⟩
      · walk_at "vl"
        exact ⟨x, rfl, by walk_at "vl"; exact ⟨ha, hc⟩⟩
      rw [fm_some]
      refine ⟨r.map fun _ => true, ⟨_, by rw [List.map_map]; rfl⟩, ?_⟩
      rw [show (r.map fun _ => true).all id = true by rw [List.all_eq_true]; intro b hb; obtain ⟨_, _, rfl⟩ := List.mem_map.mp hb; rfl]
      walk_at "vl"
      exact hc' _ _ yi
    · rintro S ⟨x, y, rfl, _⟩
      walk_at "vl"
      exact q

set_option maxHeartbeats 4000000 in
theorem ok__law_whole {f : Addr} {fd : FuncData} (F : Fun K "_law_whole" "_law_whole" s__law_whole f fd) (B : Bf mg)  : FnOk P w K mg base CX0 1 f fd ["found"] (spC K 1 C__law_whole) := by
  refine fn_ok (C := C__law_whole) (N := ["found"]) (ps := ["found"]) [] F sc__law_whole (fun cdv A outer s H E hr => have nd := sc__law_whole.nd; have hu1 := hu_of hr; have s0 := s; have h0 := H; ⟨_, (vs_one (vs_ret (ve_and (ve_isi rfl .int (by decide) rfl B.n_isinstance (ve_var 0 (pv 0)) (pe_bltn (v := .ty "int") rfl B.n_int (by decide +kernel) rfl)) (ve_one (ve_not (ve_isi rfl .bool (by decide) rfl B.n_isinstance (ve_var 0 (pv 0)) (pe_bltn (v := .ty "bool") rfl B.n_bool (by decide +kernel) rfl))))))), fun ds Qv hl hC => ?_⟩)
  · obtain ⟨x, rfl, q⟩ := hC
    walk_at "vl"
    exact q
def C__law_drawn : Ct := fun ds Q => ∃ g : Int, ds = [potX g] ∧ 0 ≤ g ∧ ∀ U rows, RowsU U rows → ∀ g', Q (.lst true (rows.map iT)) [g']
set_option maxHeartbeats 4000000 in
theorem ok__law_drawn {f : Addr} {fd : FuncData} (F : Fun K "_law_drawn" "_law_drawn" s__law_drawn f fd) (B : Bf mg) (c__law_take : Cal P w K mg base 1 "_law_take" 2 C__law_take [] []) : FnOk P w K mg base CX0 2 f fd ["pot"] (spC K 1 C__law_drawn) := by
  refine fn_ok (C := C__law_drawn) (N := ["pot", "low", "numbers", "sets", "k", "way", "some", "j", "number"]) (ps := ["pot"]) [0] F sc__law_drawn (fun cdv A outer s H E hr => have nd := sc__law_drawn.nd; have hu1 := hu_of hr; have s0 := s; have h0 := H; ⟨_, (vs_cons (vs_set 1 (by decide) (vc1 0 0 false c__law_take hr (by decide) rfl rfl (va_rw 0 (pv 0) (va_cons ve_int va_nil))) (fun h => ps_set nd (i := 1) rfl (by first | exact Or.inl rfl | exact Or.inr rfl) h))
    (vs_cons (vs_set 2 (by decide) (ve_lst (va_cons (ve_var 1 (pv 1)) (va_cons (ve_add rfl (ve_var 1 (pv 1)) ve_int) (va_cons (ve_add rfl (ve_var 1 (pv 1)) ve_int) (va_cons (ve_add rfl (ve_var 1 (pv 1)) ve_int) (va_cons (ve_add rfl (ve_var 1 (pv 1)) ve_int) (va_cons (ve_add rfl (ve_var 1 (pv 1)) ve_int) (va_cons ve_int va_nil)))))))) (fun h => ps_set nd (i := 2) rfl (by first | exact Or.inl rfl | exact Or.inr rfl) h))
    (vs_cons (vs_set 3 (by decide) (ve_lst va_nil) (fun h => ps_set nd (i := 3) rfl (by first | exact Or.inl rfl | exact Or.inr rfl) h))
    (vs_cons (vs_for PassesOwn.never rfl (vi_range1 rfl B.n_range (vc1 0 0 false c__law_take hr (by decide) rfl rfl (va_rw 0 (pv 0) (va_cons ve_int va_nil)))) (vg_name 4 (by decide) (pg_name nd (i := 4) rfl (by first | exact Or.inl rfl | exact Or.inr rfl)))
    (vs_cons (vs_set 5 (by decide) (vc1 0 0 false c__law_take hr (by decide) rfl rfl (va_rw 0 (pv 0) (va_cons ve_int va_nil))) (fun h => ps_set nd (i := 5) rfl (by first | exact Or.inl rfl | exact Or.inr rfl) h))
    (vs_cons (vs_set 6 (by decide) ve_dnew (fun h => ps_set nd (i := 6) rfl (by first | exact Or.inl rfl | exact Or.inr rfl) h))
    (vs_cons (vs_for PassesOwn.never rfl (vi_range1 rfl B.n_range (ve_add rfl ve_int (vc1 0 0 false c__law_take hr (by decide) rfl rfl (va_rw 0 (pv 0) (va_cons ve_int va_nil))))) (vg_name 7 (by decide) (pg_name nd (i := 7) rfl (by first | exact Or.inl rfl | exact Or.inr rfl)))
    (vs_one (vs_asg ve_bl (vg_sub (set_dict hu1) lf_setD own_oDSet (vp_name 6 (pv 6)) (ve_borM 2 (ve_ix rfl (ve_var 2 (pv 2)) (vc1 0 0 false c__law_take hr (by decide) rfl rfl (va_rw 0 (pv 0) (va_cons ve_int va_nil))) (fun _ _ => rfl)))))))
    (vs_cut (vs_if (vq_eq rfl hr.units (ve_var 5 (pv 5)) ve_int)
    (vs_one (vs_set 6 (by decide) ve_dnew (fun h => ps_set nd (i := 6) rfl (by first | exact Or.inl rfl | exact Or.inr rfl) h)))
    vs_nil)
    (vs_cut (vs_if (VW.vq (vw_and (vq_eq rfl hr.units (ve_var 5 (pv 5)) ve_int) (vw_and1 (vq_ne rfl hr.units (ve_var 3 (pv 3)) (ve_lst va_nil)))))
    (vs_one (vs_for PassesOwn.never rfl (vi_seq rfl (ve_borM 3 (ve_ix rfl (ve_var 3 (pv 3)) (vc1 0 0 false c__law_take hr (by decide) rfl rfl (va_rw 0 (pv 0) (va_cons (ve_len rfl rfl B.n_len (ve_var 3 (pv 3))) va_nil))) (fun _ _ => rfl)))) (vg_name 8 (by decide) (pg_name nd (i := 8) rfl (by first | exact Or.inl rfl | exact Or.inr rfl)))
    (vs_one (vs_asg ve_bl (vg_sub (set_dict hu1) lf_setD own_oDSet (vp_name 6 (pv 6)) (ve_var 8 (pv 8)))))))
    vs_nil)
    (vs_one (vs_expr (ve_append rfl (vp_name 3 (pv 3)) (ve_tuple rfl rfl B.n_tuple (ve_srtK rfl rfl rfl B.n_sorted (ve_var 6 (pv 6)))))))))))))
    (vs_one (vs_ret (ve_take 3 (pv 3)))))))), fun ds Qv hl hC => ?_⟩)
  · obtain ⟨g, rfl, g0, q⟩ := hC
    walk_at "vl"
    refine ⟨g, 34, rfl, g0, by decide, by decide, fun low g l0 l1 g0 => ?_⟩
    walk_at "vl"
    have U0 : upI [low, low + 1, low + 2, low + 3, low + 4, low + 5, 39] := ⟨by simp; omega, by simp; omega⟩
    rw [show [D.int low, D.int (low + 1), D.int (low + 2), D.int (low + 3), D.int (low + 4), D.int (low + 5), D.int 39] = [low, low + 1, low + 2, low + 3, low + 4, low + 5, 39].map D.int from rfl]
    have U1 : ∀ x ∈ [low, low + 1, low + 2, low + 3, low + 4, low + 5, 39], x < 1000 := by simp; omega
    have U2 : [low, low + 1, low + 2, low + 3, low + 4, low + 5, 39].length = 7 := rfl
    generalize [low, low + 1, low + 2, low + 3, low + 4, low + 5, 39] = U at *
    refine ⟨g, 7, rfl, g0, by decide, by decide, fun many g m0 m1 g0 => ?_⟩
    walk_at "vl"
    refine ⟨⟨by omega, by omega⟩, ?_⟩
    refine for_rgm (fun k S => ∃ (g : Int) (rows : List (List Int)) (x4 x5 x6 x7 x8 : D), S = [potX g, .int low, .lst true (U.map D.int), .lst true (rows.map iT), x4, x5, x6, x7, x8] ∧ 0 ≤ g ∧ (rows.length ≤ k ∧ RowsU U rows) ∧ x7.imm = true ∧ x8.imm = true) ⟨g, [], _, _, _, _, _, rfl, g0, ⟨Nat.le_refl _, U0, by omega, U1, by decide, fun _ h => by cases h⟩, rfl, rfl⟩ ?_ ?_
    · rintro k S cont hk ⟨g, rows, x4, x5, x6, x7, x8, rfl, g0, ⟨rk, R⟩, i7, i8⟩ hc
      walk_at "vl"
      refine ⟨g, 12, rfl, g0, by decide, by decide, fun way g w0 w1 g0 => ?_⟩
      walk_at "vl"
      refine ⟨g, 4, rfl, g0, by decide, by decide, fun long g n0 n1 g0 => ?_⟩
      walk_at "vl"
      refine ⟨⟨by omega, by omega⟩, ?_⟩
      refine for_rgm (fun j S => ∃ (g : Int) (K : List Int) (x7 : D), S = [potX g, .int low, .lst true (U.map D.int), .lst true (rows.map iT), .int (0 + (k : Int)), .int way, knD true K, x7, x8] ∧ 0 ≤ g ∧ (K.Nodup ∧ ∀ x ∈ K, x ∈ U) ∧ x7.imm = true) ⟨g, [], _, rfl, g0, ⟨.nil, fun _ h => by cases h⟩, i7⟩ ?_ ?_
      · rintro j S cont hj ⟨g, K, y7, rfl, g0, ⟨kn, ku⟩, j7⟩ hc
        have kl : K.length ≤ 7 := by have := List.Nodup.length_le_of_subset kn (l₂ := U) ku; omega
        walk_at "vl"
        refine ⟨g, 7, rfl, g0, by decide, by decide, fun at_ g a0 a1 g0 => ?_⟩
        walk_at "vl"
        obtain ⟨u, hu, _, eu⟩ := atI_int (l := U) a0 (by omega)
        rw [eu]
        walk_at "vl"
        refine ⟨.inr i8, kn_set' kn (by omega) ?_⟩
        walk_at "vl"
        refine hc _ ⟨g, _, _, rfl, g0, ⟨insK_nd kn, fun x hx => ?_⟩, rfl⟩
        rcases insK_mem.mp hx with h | h
        · subst h; exact hu
        · exact ku x h
      · rintro S ⟨g, K, y7, rfl, g0, ⟨kn, ku⟩, j7⟩
        walk_at "vl"
        refine cut_by (fun S => ∃ K : List Int, S = [potX g, .int low, .lst true (U.map D.int), .lst true (rows.map iT), .int (0 + (k : Int)), .int way, knD true K, y7, x8] ∧ (K.Nodup ∧ ∀ x ∈ K, x ∈ U)) ?_ ?_
        · walk_at "vl"
          exact ⟨fun _ => ⟨[], rfl, .nil, fun _ h => by cases h⟩, fun _ => ⟨K, rfl, kn, ku⟩⟩
        rintro S ⟨K, rfl, kn, ku⟩
        walk_at "vl"
        refine cut_by (fun S => ∃ (g : Int) (K : List Int) (x8 : D), S = [potX g, .int low, .lst true (U.map D.int), .lst true (rows.map iT), .int (0 + (k : Int)), .int way, knD true K, y7, x8] ∧ 0 ≤ g ∧ (K.Nodup ∧ ∀ x ∈ K, x ∈ U) ∧ x8.imm = true) ?_ ?_
        · have same : ∃ (g' : Int) (K' : List Int) (x8' : D), [potX g, .int low, .lst true (U.map D.int), .lst true (rows.map iT), .int (0 + (k : Int)), .int way, knD true K, y7, x8] = [potX g', .int low, .lst true (U.map D.int), .lst true (rows.map iT), .int (0 + (k : Int)), .int way, knD true K', y7, x8'] ∧ 0 ≤ g' ∧ (K'.Nodup ∧ ∀ x ∈ K', x ∈ U) ∧ x8'.imm = true := ⟨g, K, x8, rfl, g0, ⟨kn, ku⟩, i8⟩
          walk_at "vl"
          refine ⟨fun _ => ⟨fun ne => ?_, fun _ => same⟩, fun _ => same⟩
          have rp : 0 < rows.length := List.length_pos_iff.mpr ne
          refine ⟨g, rows.length, rfl, g0, by omega, by omega, fun at_ g a0 a1 g0 => ?_⟩
          walk_at "vl"
          obtain ⟨r, hr, er⟩ := atI_rows a0 a1
          rw [er, show iT r = .tup (r.map D.int) from rfl]
          walk_at "vl"
          refine ⟨⟨.inr j7, .inr i8⟩, ?_⟩
          refine for_map (l := r) (fun j S => ∃ (K : List Int) (x8 : D), S = [potX g, .int low, .lst true (U.map D.int), .lst true (rows.map iT), .int (0 + (k : Int)), .int way, knD true K, y7, x8] ∧ (K.Nodup ∧ ∀ x ∈ K, x ∈ U) ∧ x8.imm = true) ⟨K, _, rfl, ⟨kn, ku⟩, i8⟩ ?_ ?_
          · rintro j x S cont hx ⟨K, x8, rfl, ⟨kn, ku⟩, i8⟩ hc
            have kl : K.length ≤ 7 := by have := List.Nodup.length_le_of_subset kn (l₂ := U) ku; omega
            walk_at "vl"
            refine kn_set' kn (by omega) ?_
            walk_at "vl"
            refine hc _ ⟨_, _, rfl, ⟨insK_nd kn, fun y hy => ?_⟩, rfl⟩
            rcases insK_mem.mp hy with h | h
            · subst h; exact (R.mem r hr).2 _ (List.mem_of_getElem? hx)
            · exact ku y h
          · rintro S ⟨K, x8, rfl, kk, i8⟩
            exact ⟨g, K, x8, rfl, g0, kk, i8⟩
        rintro S ⟨g, K, x8, rfl, g0, ⟨kn, ku⟩, i8⟩
        have kl : K.length ≤ 7 := by have := List.Nodup.length_le_of_subset kn (l₂ := U) ku; omega
        walk_at "vl"
        have ss := srt_up kn fun x hx => U0.2 x (ku x hx)
        refine ⟨by omega, by rw [line_eq]; omega, ?_⟩
        refine hc _ ⟨g, rows ++ [srtI K], _, _, _, _, _, by rw [List.map_append]; rfl, g0, ⟨by rw [List.length_append, List.length_singleton]; omega, R.put (by omega) ss fun x hx => ku x (srtI_perm.mem_iff.mp hx)⟩, j7, i8⟩
    · rintro S ⟨g, rows, x4, x5, x6, x7, x8, rfl, g0, ⟨rk, R⟩, i7, i8⟩
      walk_at "vl"
      exact q U rows R _
def C__law_crossed : Ct := fun ds Q => ∃ (U : List Int) (rows : List (List Int)), ds = [.lst false (rows.map iT)] ∧ RowsU U rows ∧ Q (.lst true ((crossR rows).map iT)) [.unk]
set_option maxHeartbeats 4000000 in
theorem ok__law_crossed {f : Addr} {fd : FuncData} (F : Fun K "_law_crossed" "_law_crossed" s__law_crossed f fd) (B : Bf mg) (c__law_subsets : Cal P w K mg base 1 "_law_subsets" 1 C__law_subsets [] []) : FnOk P w K mg base CX0 2 f fd ["sets"] (spC K 1 C__law_crossed) := by
  refine fn_ok (C := C__law_crossed) (N := ["sets", "have", "places", "number", "numbers", "found", "less", "some"]) (ps := ["sets"]) [] F sc__law_crossed (fun cdv A outer s H E hr => have nd := sc__law_crossed.nd; have hu1 := hu_of hr; have s0 := s; have h0 := H; ⟨_, (vs_cons (vs_set 1 (by decide) ve_dnew (fun h => ps_set nd (i := 1) rfl (by first | exact Or.inl rfl | exact Or.inr rfl) h))
    (vs_cons (vs_for PassesOwn.never rfl (vi_seq rfl (ve_var 0 (pv 0))) (vg_name 2 (by decide) (pg_name nd (i := 2) rfl (by first | exact Or.inl rfl | exact Or.inr rfl)))
    (vs_one (vs_for PassesOwn.never rfl (vi_seq rfl (ve_var 2 (pv 2))) (vg_name 3 (by decide) (pg_name nd (i := 3) rfl (by first | exact Or.inl rfl | exact Or.inr rfl)))
    (vs_one (vs_asg ve_bl (vg_sub (set_dict hu1) lf_setD own_oDSet (vp_name 1 (pv 1)) (ve_var 3 (pv 3))))))))
    (vs_cons (vs_set 4 (by decide) (ve_srtK rfl rfl rfl B.n_sorted (ve_var 1 (pv 1))) (fun h => ps_set nd (i := 4) rfl (by first | exact Or.inl rfl | exact Or.inr rfl) h))
    (vs_cons (vs_set 5 (by decide) (ve_lst va_nil) (fun h => ps_set nd (i := 5) rfl (by first | exact Or.inl rfl | exact Or.inr rfl) h))
    (vs_cons (vs_for PassesOwn.never rfl (vi_seq rfl (vcB c__law_subsets hr (by decide) rfl rfl (va_cons (ve_var 4 (pv 4)) va_nil))) (vg_name 2 (by decide) (pg_name nd (i := 2) rfl (by first | exact Or.inl rfl | exact Or.inr rfl)))
    (vs_cons (vs_if (vq_val (ve_bor 5 (ve_any1 rfl rfl rfl B.n_any (ve_lc (own := [("less", 6)]) rfl nd (vi_seq rfl (ve_var 5 (pv 5))) (blkOk_by (N := ["sets", "have", "places", "number", "numbers", "found", "less", "some"]) (sc := defScope s__law_crossed) (by decide +kernel)) (by decide) (fun _ _ _ _ _ => (vn_name 6 (by decide) (pg_name nd (i := 6) rfl (by first | exact Or.inl rfl | exact Or.inr rfl)))) (fun _ _ _ _ _ => vts_nil) (fun _ _ _ _ _ => (ve_all1 rfl rfl rfl B.n_all (ve_lc (own := [("number", 3)]) rfl nd (vi_seq rfl (ve_var 6 (pv 6))) (blkOk_by rfl) (by decide) (fun _ _ _ _ _ => (vn_name 3 (by decide) (pg_name nd (i := 3) rfl (by first | exact Or.inl rfl | exact Or.inr rfl)))) (fun _ _ _ _ _ => vts_nil) (fun _ _ _ _ _ => (ve_in rfl (room65 hr) (ve_var 3 (pv 3)) (ve_var 2 (pv 2)))) s0 h0))) s0 h0))))
    (vs_one vs_continue)
    vs_nil)
    (vs_one (vs_if (vq_val (ve_all1 rfl rfl rfl B.n_all (ve_lc (own := [("some", 7)]) rfl nd (vi_seq rfl (ve_var 0 (pv 0))) (blkOk_by (N := ["sets", "have", "places", "number", "numbers", "found", "less", "some"]) (sc := defScope s__law_crossed) (by decide +kernel)) (by decide) (fun _ _ _ _ _ => (vn_name 7 (by decide) (pg_name nd (i := 7) rfl (by first | exact Or.inl rfl | exact Or.inr rfl)))) (fun _ _ _ _ _ => vts_nil) (fun _ _ _ _ _ => (ve_any1 rfl rfl rfl B.n_any (ve_lc (own := [("number", 3)]) rfl nd (vi_seq rfl (ve_var 7 (pv 7))) (blkOk_by rfl) (by decide) (fun _ _ _ _ _ => (vn_name 3 (by decide) (pg_name nd (i := 3) rfl (by first | exact Or.inl rfl | exact Or.inr rfl)))) (fun _ _ _ _ _ => vts_nil) (fun _ _ _ _ _ => (ve_in rfl (room65 hr) (ve_var 3 (pv 3)) (ve_var 2 (pv 2)))) s0 h0))) s0 h0)))
    (vs_one (vs_expr (ve_append rfl (vp_name 5 (pv 5)) (ve_var 2 (pv 2)))))
    vs_nil))))
    (vs_one (vs_ret (ve_srt rfl hr.units rfl B.n_sorted (ve_var 5 (pv 5)))))))))), fun ds Qv hl hC => ?_⟩)
  · obtain ⟨U, rows, rfl, R, q⟩ := hC
    have rowl : ∀ r ∈ rows, r.length ≤ 7 := fun r hr => R.rl hr
    walk_at "vl"
    refine for_map (l := rows) (fun k S => ∃ (K : List Int) (x2 x3 : D), S = [.lst false (rows.map iT), knD true K, x2, x3, .unk, .unk, .unk, .unk] ∧ K.Nodup ∧ (∀ x, x ∈ K ↔ ∃ r ∈ rows.take k, x ∈ r) ∧ x3.imm = true ∧ x2.imm = true) ⟨[], _, _, rfl, .nil, by simp, rfl, rfl⟩ ?_ ?_
    · rintro k r S cont hr ⟨K, x2, x3, rfl, kn, ke, i3, i2⟩ hc
      rw [show iT r = .tup (r.map D.int) from rfl]
      have mr := List.mem_of_getElem? hr
      walk_at "vl"
      refine for_map (l := r) (fun j S => ∃ (K : List Int) (x3 : D), S = [.lst false (rows.map iT), knD true K, .tup (r.map D.int), x3, .unk, .unk, .unk, .unk] ∧ K.Nodup ∧ (∀ x, x ∈ K ↔ (∃ r ∈ rows.take k, x ∈ r) ∨ x ∈ r.take j) ∧ x3.imm = true) ⟨K, _, rfl, kn, by simpa using ke, i3⟩ ?_ ?_
      · rintro j x S cont hx ⟨K, x3, rfl, kn, ke, i3⟩ hc
        have ku : ∀ x ∈ K, x ∈ U := fun x h => by
          rcases (ke x).mp h with ⟨s, hs, h⟩ | h
          · exact (R.mem s (List.mem_of_mem_take hs)).2 x h
          · exact (R.mem r mr).2 x (List.mem_of_mem_take h)
        have kl : K.length ≤ 7 := by have := List.Nodup.length_le_of_subset kn (l₂ := U) ku; have := R.ul; omega
        walk_at "vl"
        refine kn_set' kn (by omega) ?_
        walk_at "vl"
        refine hc _ ⟨_, _, rfl, insK_nd kn, fun y => ?_, rfl⟩
        rw [insK_mem, ke, take_snoc hx, List.mem_append, List.mem_singleton]
        rw [or_comm, or_assoc]
      · rintro S ⟨K, x3, rfl, kn, ke, i3⟩
        refine hc _ ⟨K, _, _, rfl, kn, fun y => ?_, i3, by walk_at "vl"⟩
        rw [ke, take_snoc hr, List.take_length]
        constructor
        · rintro (⟨s, hs, h⟩ | h)
          · exact ⟨s, List.mem_append_left _ hs, h⟩
          · exact ⟨r, by simp, h⟩
        · rintro ⟨s, hs, h⟩
          rcases List.mem_append.mp hs with hs | hs
          · exact .inl ⟨s, hs, h⟩
          · rw [List.mem_singleton] at hs; subst hs; exact .inr h
    · rintro S ⟨K, x2, x3, rfl, kn, ke, i3, i2⟩
      rw [List.take_length] at ke
      have ku : ∀ x ∈ K, x ∈ U := fun x h => by
        obtain ⟨s, hs, h⟩ := (ke x).mp h
        exact (R.mem s hs).2 x h
      have kl : K.length ≤ 7 := by have := List.Nodup.length_le_of_subset kn (l₂ := U) ku; have := R.ul; omega
      have hn := srt_up kn fun x hx => R.up.2 x (ku x hx)
      have hrn : ∀ r ∈ rows, ∀ x ∈ r, x ∈ srtI K := fun r h x hx => srtI_perm.mem_iff.mpr ((ke x).mpr ⟨r, h, hx⟩)
      have nl : (srtI K).length ≤ 7 := by rw [srtI_perm.length_eq]; exact kl
      walk_at "vl"
      refine ⟨by omega, srtI K, rfl, by omega, ?_⟩
      walk_at "vl"
      generalize hR : srtLI (subsF (srtI K)) = Rr
      have inR : ∀ l ∈ Rr, l.length ≤ 7 := fun l h => by
        rw [← hR] at h
        have := (parts_up hn h).2.length_le
        omega
      refine for_map (l := Rr) (fun k S => ∃ (found : List (List Int)) (x2 x3 x6 x7 : D), S = [.lst false (rows.map iT), knD true K, x2, x3, .lst true ((srtI K).map D.int), .lst true (found.map iT), x6, x7] ∧ LeastK rows Rr found k ∧ x2.imm = true ∧ x3.imm = true ∧ x6.imm = true ∧ x7.imm = true) ⟨[], _, _, _, _, rfl, hR ▸ LeastK.none, i2, i3, rfl, rfl⟩ ?_ ?_
      · rintro k p S cont hp ⟨found, x2, x3, x6, x7, rfl, LK, i2, i3, i6, i7⟩ hc
        have fl : found.length ≤ 128 := by
          subst hR
          refine Nat.le_trans (List.Nodup.length_le_of_subset LK.nd (l₂ := subsF (srtI K)) fun l hl => srtLI_perm.mem_iff.mp (List.mem_of_mem_take ((LK.mem l).mp hl).1)) ?_
          rw [subsF_len]
          exact Nat.pow_le_pow_right (by decide) nl
        have fin : ∀ l ∈ found, l.length ≤ 7 := fun l hl => inR l (List.mem_of_mem_take ((LK.mem l).mp hl).1)
        rw [show iT p = .tup (p.map D.int) from rfl]
        walk_at "vl"
        refine ⟨i6, lc_map (g := iT) (l := found) (fun r => some (.bl (decide (∀ x ∈ r, x ∈ p)))) (by rw [line_eq]; omega) (fun r acc cont hr ha hc => ?_) ?_⟩
        · have rl := fin r hr
          rw [show iT r = .tup (r.map D.int) from rfl]
          walk_at "vl"
          refine ⟨i3, lc_map (g := D.int) (l := r) (fun x => some (.bl (decide (x ∈ p)))) (by rw [line_eq]; omega) (fun x acc cont hx ha hc => ?_) ?_⟩
          · walk_at "vl"
            exact ⟨ha, hc⟩
          rw [fm_some]
          refine ⟨r.map fun x => decide (x ∈ p), ⟨_, by rw [List.map_map]; rfl⟩, ?_⟩
          rw [all_dec]
          walk_at "vl"
          exact ⟨ha, hc⟩
        rw [fm_some]
        refine ⟨found.map fun r => decide (∀ x ∈ r, x ∈ p), ⟨_, by rw [List.map_map]; rfl⟩, ?_⟩
        rw [any_dec]
        have rowsl := R.few
        have pim : (D.tup (p.map D.int)).imm = true := by walk_at "vl"
        walk_at "vl"
        refine ⟨by rw [i3, i6, i7]; rfl, fun he => ?_, fun hne => ?_⟩
        · exact hc _ ⟨found, _, _, _, _, rfl, hR ▸ LeastK.skip hn (hR ▸ LK) (hR ▸ hp) (LeastK.not_of_less hn (hR ▸ LK) (hR ▸ hp) he), pim, i3, i6, i7⟩
        refine ⟨i7, lc_map (g := iT) (l := rows) (fun r => some (.bl (decide (∃ x ∈ r, x ∈ p)))) (by rw [line_eq]; omega) (fun r acc cont hr ha hc => ?_) ?_⟩
        · have rl := rowl r hr
          rw [show iT r = .tup (r.map D.int) from rfl]
          walk_at "vl"
          refine ⟨i3, lc_map (g := D.int) (l := r) (fun x => some (.bl (decide (x ∈ p)))) (by rw [line_eq]; omega) (fun x acc cont hx ha hc => ?_) ?_⟩
          · walk_at "vl"
            exact ⟨ha, hc⟩
          rw [fm_some]
          refine ⟨r.map fun x => decide (x ∈ p), ⟨_, by rw [List.map_map]; rfl⟩, ?_⟩
          rw [any_dec]
          walk_at "vl"
          exact ⟨ha, hc⟩
        rw [fm_some]
        refine ⟨rows.map fun r => decide (∃ x ∈ r, x ∈ p), ⟨_, by rw [List.map_map]; rfl⟩, ?_⟩
        rw [all_dec]
        walk_at "vl"
        subst hR
        have up := (parts_up hn (List.mem_of_getElem? hp)).1
        have hr0 : ∀ r ∈ rows, ∀ x ∈ r, 0 ≤ x := fun r h x hx => (R.mem r h).1.2 x hx
        refine ⟨fun hh => ⟨by rw [line_eq]; omega, ?_⟩, fun hh => ?_⟩
        · refine hc _ ⟨found ++ [p], _, _, _, _, by rw [List.map_append]; rfl, LK.put hn hp (LK.is_least hn hrn hp hne hh), pim, i3, i6, i7⟩
        · exact hc _ ⟨found, _, _, _, _, rfl, LK.skip hn hp fun h => hh ((hitR_iff hr0 up.2).mpr h.1), pim, i3, i6, i7⟩
      · rintro S ⟨found, x2, x3, x6, x7, rfl, LK, i2, i3, i6, i7⟩
        walk_at "vl"
        have L2 : LeastK rows (srtLI (subsF (srtI K))) found (srtLI (subsF (srtI K))).length := hR ▸ LK
        refine c_sTL2 ⟨fun h2 p hp e0 => ?_, ?_⟩
        · subst e0
          have least := fun l hl => ((L2.mem l).mp hl).2
          have up : ∀ l ∈ found, upI l := fun l hl => (parts_up hn (List.mem_of_mem_take ((L2.mem l).mp hl).1)).1
          have all0 : ∀ x ∈ found, x = [] := fun x hx => mkI_inj (up x hx) (up _ hp) ((least x hx).2 (mkI []) (fun i hi => by simp [mkI, mkB] at hi) (least _ hp).1).symm
          have nd := L2.nd
          generalize found = L at *
          match L, h2 with
          | a :: b :: L, _ =>
            have h1 := all0 a (by simp)
            have h2 := all0 b (by simp)
            subst h1; subst h2
            simp at nd
        rw [L2.end hn hrn]
        walk_at "vl"
        exact q
abbrev C_law : Ct := LawC
theorem law_sp {K : PySem.W.Frag} {H : Hp} {a : Addr} {ns : List Int} {E : XK} (hl : ns.length ≤ 63) (h : SqL K H a (ns.map V.int)) : spC K 1 C_law [.ref a] H (fun v _ => v = .bl true) E := law_spC hl h
set_option maxHeartbeats 4000000 in
theorem ok_law {f : Addr} {fd : FuncData} (F : Fun K "law" "law" s_law f fd) (B : Bf mg) (c__law_cells : Cal P w K mg base 1 "_law_cells" 2 C__law_cells [] []) (c__law_crossed : Cal P w K mg base 2 "_law_crossed" 1 C__law_crossed [] []) (c__law_deal : Cal P w K mg base 1 "_law_deal" 1 C__law_deal [] []) (c__law_drawn : Cal P w K mg base 2 "_law_drawn" 1 C__law_drawn [] []) (c__law_sets : Cal P w K mg base 2 "_law_sets" 2 C__law_sets [] []) (c_crossed_sets : Cal P w K mg base 3 "crossed_sets" 1 C_crossed_sets [] []) : FnOk P w K mg base CX0 4 f fd ["script"] (spC K 1 C_law) := by
  refine fn_ok (C := C_law) (N := ["script", "cell", "sets", "due", "handed", "found"]) (ps := ["script"]) [] F sc_law (fun cdv A outer s H E hr => have nd := sc_law.nd; have hu1 := hu_of hr; have s0 := s; have h0 := H; ⟨_, (vs_cons (vs_for PassesOwn.never rfl (vi_seq rfl (vc0 c__law_cells hr (by decide) rfl rfl (va_cons (ve_var 0 (pv 0)) (va_cons ve_int va_nil)))) (vg_name 1 (by decide) (pg_name nd (i := 1) rfl (by first | exact Or.inl rfl | exact Or.inr rfl)))
    (vs_cons (vs_set 2 (by decide) (vc0 c__law_drawn hr (by decide) rfl rfl (va_cons (vc0 c__law_deal hr (by decide) rfl rfl (va_cons (ve_var 1 (pv 1)) va_nil)) va_nil)) (fun h => ps_set nd (i := 2) rfl (by first | exact Or.inl rfl | exact Or.inr rfl) h))
    (vs_cons (vs_set 3 (by decide) (vcB c__law_crossed hr (by decide) rfl rfl (va_cons (ve_var 2 (pv 2)) va_nil)) (fun h => ps_set nd (i := 3) rfl (by first | exact Or.inl rfl | exact Or.inr rfl) h))
    (vs_cons (vs_set 4 (by decide) (ve_list rfl rfl B.n_list (ve_var 2 (pv 2))) (fun h => ps_set nd (i := 4) rfl (by first | exact Or.inl rfl | exact Or.inr rfl) h))
    (vs_cons (vs_set 5 (by decide) (vc0 c_crossed_sets hr (by decide) rfl rfl (va_cons (ve_frz 4 (pv 4)) va_nil)) (fun h => ps_set nd (i := 5) rfl (by first | exact Or.inl rfl | exact Or.inr rfl) h))
    (vs_cons (vs_if (VW.vq (vw_or (vq_not (vq_val (vcB c__law_sets hr (by decide) rfl rfl (va_cons (ve_var 5 (pv 5)) (va_cons (ve_var 3 (pv 3)) va_nil))))) (vw_or1 (vq_ne rfl hr.units (ve_var 4 (pv 4)) (ve_var 2 (pv 2))))))
    (vs_one (vs_ret ve_bl))
    vs_nil)
    (vs_cons (vs_expr (ve_append rfl (vp_name 5 (pv 5)) (ve_tup va_nil)))
    (vs_one (vs_if (VW.vq (vw_or (vq_not (vq_val (vcB c__law_sets hr (by decide) rfl rfl (va_cons (vc0 c_crossed_sets hr (by decide) rfl rfl (va_cons (ve_fz (ve_revL rfl (ve_var 2 (pv 2)))) va_nil)) (va_cons (ve_var 3 (pv 3)) va_nil))))) (vw_or1 (vq_not (vq_val (vcB c__law_sets hr (by decide) rfl rfl (va_cons (vc0 c_crossed_sets hr (by decide) rfl rfl (va_cons (ve_tuple rfl rfl B.n_tuple (ve_var 2 (pv 2))) va_nil)) (va_cons (ve_var 3 (pv 3)) va_nil))))))))
    (vs_one (vs_ret ve_bl))
    vs_nil)))))))))
    (vs_one (vs_ret ve_bl))), fun ds Qv hl hC => ?_⟩)
  · obtain ⟨ns, rfl, hn, q⟩ := hC
    walk_at "vl"
    refine ⟨ns, 6, rfl, hn, by decide, ?_⟩
    walk_at "vl"
    refine for_map (l := ns.take 6 ++ [0]) (fun _ S => ∃ a b c d e : D, S = [.lst false (ns.map D.int), a, b, c, d, e]) ⟨_, _, _, _, _, rfl⟩ ?_ ?_
    · rintro k c S cont _ ⟨a, b, d, e, f, rfl⟩ hc
      walk_at "vl"
      refine ⟨c, rfl, fun g g0 => ?_⟩
      walk_at "vl"
      refine ⟨g, rfl, g0, fun U rows R g' => ?_⟩
      have few := R.few
      walk_at "vl"
      refine ⟨U, rows, rfl, R, ?_⟩
      walk_at "vl"
      refine ⟨true, rows, rfl, by omega, R.bd, fun k _ => R.few2 fun r hr => List.mem_of_mem_take hr, ?_⟩
      walk_at "vl"
      refine ⟨crossR rows, rfl, R.cr.1, R.cr.2, ?_⟩
      have cl := R.cr.1
      walk_at "vl"
      have er : crossR rows.reverse = crossR rows := crossR_same fun x => List.mem_reverse
      have rb : ∀ k, k ≤ rows.reverse.length → (crAll ((rows.reverse.take k).map mkI)).length ≤ 200 := fun k _ => R.few2 fun r hr => List.mem_reverse.mp (List.mem_of_mem_take hr)
      refine ⟨by rw [line_eq]; omega, true, rows.reverse, rfl, by rw [List.length_reverse]; omega, fun r hr => R.bd r (List.mem_reverse.mp hr), rb, ?_⟩
      rw [er]
      walk_at "vl"
      refine ⟨crossR rows, rfl, R.cr.1, R.cr.2, ?_⟩
      walk_at "vl"
      refine ⟨false, rows, rfl, by omega, R.bd, fun k _ => R.few2 fun r hr => List.mem_of_mem_take hr, ?_⟩
      walk_at "vl"
      refine ⟨crossR rows, rfl, R.cr.1, R.cr.2, ?_⟩
      walk_at "vl"
      exact hc _ ⟨_, _, _, _, _, rfl⟩
    · rintro S ⟨a, b, c, d, e, rfl⟩
      walk_at "vl"
      exact q

end

set_option maxHeartbeats 4000000 in
theorem all_mk {l : PySem.W.OpenLaw} {w : World} {K : PySem.W.Frag} {h : Heap} {mg : Str → Option Value} {fa f1 f2 f3 f4 f5 f6 f7 f8 f9 f10 f11 f12 f13 : Addr} (X : K.In h) (G : h.Ns mainGlobals mg) (hfa : mg "law" = some (.ref fa))
    {od1 an1 od2 an2 od3 an3 od4 an4 od5 an5 od6 an6 od7 an7 od8 an8 od9 an9 od10 an10 od11 an11 od12 an12 od13 an13 : Option Addr} {sl1 sl2 sl3 sl4 sl5 sl6 sl7 sl8 sl9 sl10 sl11 sl12 sl13 : Array (Option Value)} {oc1 kV1 dc1 pm1 cd1 ct1 oc2 kV2 dc2 pm2 cd2 ct2 oc3 kV3 dc3 pm3 cd3 ct3 oc4 kV4 dc4 pm4 cd4 ct4 oc5 kV5 dc5 pm5 cd5 ct5 oc6 kV6 dc6 pm6 cd6 ct6 oc7 kV7 dc7 pm7 cd7 ct7 oc8 kV8 dc8 pm8 cd8 ct8 oc9 kV9 dc9 pm9 cd9 ct9 oc10 kV10 dc10 pm10 cd10 ct10 oc11 kV11 dc11 pm11 cd11 ct11 oc12 kV12 dc12 pm12 cd12 ct12 oc13 kV13 dc13 pm13 cd13 ct13 : Value}
    (a1 : PySem.W.nsIn K mainGlobals "bits_of" = some (some (.ref f1))) (l1 : K.lookup f1 = some ⟨oc1, od1, .func (PySem.W.fnOf "bits_of" "bits_of" (defArgs s_bits_of) (defBody s_bits_of) (defScope s_bits_of) .none kV1 dc1 pm1 an1 cd1 ct1), sl1⟩) (c1 : PySem.W.codeIn K cd1 "bits_of" = true) (k1 : PySem.W.keepIn K (.ref f1) = true)
    (a2 : PySem.W.nsIn K mainGlobals "places_of" = some (some (.ref f2))) (l2 : K.lookup f2 = some ⟨oc2, od2, .func (PySem.W.fnOf "places_of" "places_of" (defArgs s_places_of) (defBody s_places_of) (defScope s_places_of) .none kV2 dc2 pm2 an2 cd2 ct2), sl2⟩) (c2 : PySem.W.codeIn K cd2 "places_of" = true) (k2 : PySem.W.keepIn K (.ref f2) = true)
    (a3 : PySem.W.nsIn K mainGlobals "crossed_on" = some (some (.ref f3))) (l3 : K.lookup f3 = some ⟨oc3, od3, .func (PySem.W.fnOf "crossed_on" "crossed_on" (defArgs s_crossed_on) (defBody s_crossed_on) (defScope s_crossed_on) .none kV3 dc3 pm3 an3 cd3 ct3), sl3⟩) (c3 : PySem.W.codeIn K cd3 "crossed_on" = true) (k3 : PySem.W.keepIn K (.ref f3) = true)
    (a4 : PySem.W.nsIn K mainGlobals "crossed_sets" = some (some (.ref f4))) (l4 : K.lookup f4 = some ⟨oc4, od4, .func (PySem.W.fnOf "crossed_sets" "crossed_sets" (defArgs s_crossed_sets) (defBody s_crossed_sets) (defScope s_crossed_sets) .none kV4 dc4 pm4 an4 cd4 ct4), sl4⟩) (c4 : PySem.W.codeIn K cd4 "crossed_sets" = true) (k4 : PySem.W.keepIn K (.ref f4) = true)
    (a5 : PySem.W.nsIn K mainGlobals "_law_deal" = some (some (.ref f5))) (l5 : K.lookup f5 = some ⟨oc5, od5, .func (PySem.W.fnOf "_law_deal" "_law_deal" (defArgs s__law_deal) (defBody s__law_deal) (defScope s__law_deal) .none kV5 dc5 pm5 an5 cd5 ct5), sl5⟩) (c5 : PySem.W.codeIn K cd5 "_law_deal" = true) (k5 : PySem.W.keepIn K (.ref f5) = true)
    (a6 : PySem.W.nsIn K mainGlobals "_law_take" = some (some (.ref f6))) (l6 : K.lookup f6 = some ⟨oc6, od6, .func (PySem.W.fnOf "_law_take" "_law_take" (defArgs s__law_take) (defBody s__law_take) (defScope s__law_take) .none kV6 dc6 pm6 an6 cd6 ct6), sl6⟩) (c6 : PySem.W.codeIn K cd6 "_law_take" = true) (k6 : PySem.W.keepIn K (.ref f6) = true)
    (a7 : PySem.W.nsIn K mainGlobals "_law_cells" = some (some (.ref f7))) (l7 : K.lookup f7 = some ⟨oc7, od7, .func (PySem.W.fnOf "_law_cells" "_law_cells" (defArgs s__law_cells) (defBody s__law_cells) (defScope s__law_cells) .none kV7 dc7 pm7 an7 cd7 ct7), sl7⟩) (c7 : PySem.W.codeIn K cd7 "_law_cells" = true) (k7 : PySem.W.keepIn K (.ref f7) = true)
    (a8 : PySem.W.nsIn K mainGlobals "_law_subsets" = some (some (.ref f8))) (l8 : K.lookup f8 = some ⟨oc8, od8, .func (PySem.W.fnOf "_law_subsets" "_law_subsets" (defArgs s__law_subsets) (defBody s__law_subsets) (defScope s__law_subsets) .none kV8 dc8 pm8 an8 cd8 ct8), sl8⟩) (c8 : PySem.W.codeIn K cd8 "_law_subsets" = true) (k8 : PySem.W.keepIn K (.ref f8) = true)
    (a9 : PySem.W.nsIn K mainGlobals "_law_sets" = some (some (.ref f9))) (l9 : K.lookup f9 = some ⟨oc9, od9, .func (PySem.W.fnOf "_law_sets" "_law_sets" (defArgs s__law_sets) (defBody s__law_sets) (defScope s__law_sets) .none kV9 dc9 pm9 an9 cd9 ct9), sl9⟩) (c9 : PySem.W.codeIn K cd9 "_law_sets" = true) (k9 : PySem.W.keepIn K (.ref f9) = true)
    (a10 : PySem.W.nsIn K mainGlobals "_law_whole" = some (some (.ref f10))) (l10 : K.lookup f10 = some ⟨oc10, od10, .func (PySem.W.fnOf "_law_whole" "_law_whole" (defArgs s__law_whole) (defBody s__law_whole) (defScope s__law_whole) .none kV10 dc10 pm10 an10 cd10 ct10), sl10⟩) (c10 : PySem.W.codeIn K cd10 "_law_whole" = true) (k10 : PySem.W.keepIn K (.ref f10) = true)
    (a11 : PySem.W.nsIn K mainGlobals "_law_drawn" = some (some (.ref f11))) (l11 : K.lookup f11 = some ⟨oc11, od11, .func (PySem.W.fnOf "_law_drawn" "_law_drawn" (defArgs s__law_drawn) (defBody s__law_drawn) (defScope s__law_drawn) .none kV11 dc11 pm11 an11 cd11 ct11), sl11⟩) (c11 : PySem.W.codeIn K cd11 "_law_drawn" = true) (k11 : PySem.W.keepIn K (.ref f11) = true)
    (a12 : PySem.W.nsIn K mainGlobals "_law_crossed" = some (some (.ref f12))) (l12 : K.lookup f12 = some ⟨oc12, od12, .func (PySem.W.fnOf "_law_crossed" "_law_crossed" (defArgs s__law_crossed) (defBody s__law_crossed) (defScope s__law_crossed) .none kV12 dc12 pm12 an12 cd12 ct12), sl12⟩) (c12 : PySem.W.codeIn K cd12 "_law_crossed" = true) (k12 : PySem.W.keepIn K (.ref f12) = true)
    (a13 : PySem.W.nsIn K mainGlobals "law" = some (some (.ref f13))) (l13 : K.lookup f13 = some ⟨oc13, od13, .func (PySem.W.fnOf "law" "law" (defArgs s_law) (defBody s_law) (defScope s_law) .none kV13 dc13 pm13 an13 cd13 ct13), sl13⟩) (c13 : PySem.W.codeIn K cd13 "law" = true) (k13 : PySem.W.keepIn K (.ref f13) = true)
    (z0 : PySem.W.nsIn K mainGlobals "all" = some none)
    (z1 : PySem.W.nsIn K mainGlobals "any" = some none)
    (z2 : PySem.W.nsIn K mainGlobals "bool" = some none)
    (z3 : PySem.W.nsIn K mainGlobals "int" = some none)
    (z4 : PySem.W.nsIn K mainGlobals "isinstance" = some none)
    (z5 : PySem.W.nsIn K mainGlobals "len" = some none)
    (z6 : PySem.W.nsIn K mainGlobals "list" = some none)
    (z7 : PySem.W.nsIn K mainGlobals "range" = some none)
    (z8 : PySem.W.nsIn K mainGlobals "sorted" = some none)
    (z9 : PySem.W.nsIn K mainGlobals "tuple" = some none)
    {t0 : Tok} (y0 : PySem.W.nsIn K mainGlobals "MOST_CROSSING" = some (some (PySem.Value.int 200 t0)))
    : ∃ fd : FuncData, (∀ (s : Shared) (v : Value), BindsTo s fd ⟨[v], []⟩ [("script", v)]) ∧ ∀ base : Heap, K.In base → base.Ns mainGlobals mg → FnOk l.prog w K mg base CX0 4 fa fd ["script"] (spC K 1 C_law) := by
  have e := hfa.symm.trans (PySem.W.mg_of X G a13)
  cases e
  have B : Bf mg := ⟨PySem.W.mg_none_of X G z0, PySem.W.mg_none_of X G z1, PySem.W.mg_none_of X G z2, PySem.W.mg_none_of X G z3, PySem.W.mg_none_of X G z4, PySem.W.mg_none_of X G z5, PySem.W.mg_none_of X G z6, PySem.W.mg_none_of X G z7, PySem.W.mg_none_of X G z8, PySem.W.mg_none_of X G z9, ⟨_, PySem.W.mg_of X G y0, ⟨t0, rfl⟩⟩⟩
  have F1 := fun_mk (st := s_bits_of) l1 c1 k1
  have b1 := F1.binds (ps := ["places"]) fun _ _ _ _ _ _ us hl => match us, hl with | [_], _ => rfl
  have F2 := fun_mk (st := s_places_of) l2 c2 k2
  have b2 := F2.binds (ps := ["bits"]) fun _ _ _ _ _ _ us hl => match us, hl with | [_], _ => rfl
  have F3 := fun_mk (st := s_crossed_on) l3 c3 k3
  have b3 := F3.binds (ps := ["found", "some"]) fun _ _ _ _ _ _ us hl => match us, hl with | [_, _], _ => rfl
  have F4 := fun_mk (st := s_crossed_sets) l4 c4 k4
  have b4 := F4.binds (ps := ["sets"]) fun _ _ _ _ _ _ us hl => match us, hl with | [_], _ => rfl
  have F5 := fun_mk (st := s__law_deal) l5 c5 k5
  have b5 := F5.binds (ps := ["cell"]) fun _ _ _ _ _ _ us hl => match us, hl with | [_], _ => rfl
  have F6 := fun_mk (st := s__law_take) l6 c6 k6
  have b6 := F6.binds (ps := ["pot", "many"]) fun _ _ _ _ _ _ us hl => match us, hl with | [_, _], _ => rfl
  have F7 := fun_mk (st := s__law_cells) l7 c7 k7
  have b7 := F7.binds (ps := ["script", "most"]) fun _ _ _ _ _ _ us hl => match us, hl with | [_, _], _ => rfl
  have F8 := fun_mk (st := s__law_subsets) l8 c8 k8
  have b8 := F8.binds (ps := ["some"]) fun _ _ _ _ _ _ us hl => match us, hl with | [_], _ => rfl
  have F9 := fun_mk (st := s__law_sets) l9 c9 k9
  have b9 := F9.binds (ps := ["found", "due"]) fun _ _ _ _ _ _ us hl => match us, hl with | [_, _], _ => rfl
  have F10 := fun_mk (st := s__law_whole) l10 c10 k10
  have b10 := F10.binds (ps := ["found"]) fun _ _ _ _ _ _ us hl => match us, hl with | [_], _ => rfl
  have F11 := fun_mk (st := s__law_drawn) l11 c11 k11
  have b11 := F11.binds (ps := ["pot"]) fun _ _ _ _ _ _ us hl => match us, hl with | [_], _ => rfl
  have F12 := fun_mk (st := s__law_crossed) l12 c12 k12
  have b12 := F12.binds (ps := ["sets"]) fun _ _ _ _ _ _ us hl => match us, hl with | [_], _ => rfl
  have F13 := fun_mk (st := s_law) l13 c13 k13
  have b13 := F13.binds (ps := ["script"]) fun _ _ _ _ _ _ us hl => match us, hl with | [_], _ => rfl
  refine ⟨PySem.W.fnOf "law" "law" (defArgs s_law) (defBody s_law) (defScope s_law) .none kV13 dc13 pm13 an13 cd13 ct13, fun s v => .of_eq rfl, fun base _ _ => ?_⟩
  have q_bits_of : Cal l.prog w K mg base 1 "bits_of" 1 C_bits_of [] [] := ⟨⟨f1, _, _, _, ok_bits_of F1 B , PySem.W.mg_of X G a1, F1.kp, b1, .nil⟩, dd_nil⟩
  have q_places_of : Cal l.prog w K mg base 1 "places_of" 1 C_places_of [] [] := ⟨⟨f2, _, _, _, ok_places_of F2 B , PySem.W.mg_of X G a2, F2.kp, b2, .nil⟩, dd_nil⟩
  have q__law_deal : Cal l.prog w K mg base 1 "_law_deal" 1 C__law_deal [] [] := ⟨⟨f5, _, _, _, ok__law_deal F5 B , PySem.W.mg_of X G a5, F5.kp, b5, .nil⟩, dd_nil⟩
  have q__law_take : Cal l.prog w K mg base 1 "_law_take" 2 C__law_take [] [] := ⟨⟨f6, _, _, _, ok__law_take F6 B , PySem.W.mg_of X G a6, F6.kp, b6, .nil⟩, dd_nil⟩
  have q__law_cells : Cal l.prog w K mg base 1 "_law_cells" 2 C__law_cells [] [] := ⟨⟨f7, _, _, _, ok__law_cells F7 B , PySem.W.mg_of X G a7, F7.kp, b7, .nil⟩, dd_nil⟩
  have q__law_subsets : Cal l.prog w K mg base 1 "_law_subsets" 1 C__law_subsets [] [] := ⟨⟨f8, _, _, _, ok__law_subsets F8 B , PySem.W.mg_of X G a8, F8.kp, b8, .nil⟩, dd_nil⟩
  have q__law_whole : Cal l.prog w K mg base 1 "_law_whole" 1 C__law_whole [] [] := ⟨⟨f10, _, _, _, ok__law_whole F10 B , PySem.W.mg_of X G a10, F10.kp, b10, .nil⟩, dd_nil⟩
  have q_crossed_on : Cal l.prog w K mg base 2 "crossed_on" 2 C_crossed_on [] [] := ⟨⟨f3, _, _, _, ok_crossed_on F3 B q_places_of, PySem.W.mg_of X G a3, F3.kp, b3, .nil⟩, dd_nil⟩
  have q__law_sets : Cal l.prog w K mg base 2 "_law_sets" 2 C__law_sets [] [] := ⟨⟨f9, _, _, _, ok__law_sets F9 B q__law_whole, PySem.W.mg_of X G a9, F9.kp, b9, .nil⟩, dd_nil⟩
  have q__law_drawn : Cal l.prog w K mg base 2 "_law_drawn" 1 C__law_drawn [] [] := ⟨⟨f11, _, _, _, ok__law_drawn F11 B q__law_take, PySem.W.mg_of X G a11, F11.kp, b11, .nil⟩, dd_nil⟩
  have q__law_crossed : Cal l.prog w K mg base 2 "_law_crossed" 1 C__law_crossed [] [] := ⟨⟨f12, _, _, _, ok__law_crossed F12 B q__law_subsets, PySem.W.mg_of X G a12, F12.kp, b12, .nil⟩, dd_nil⟩
  have q_crossed_sets : Cal l.prog w K mg base 3 "crossed_sets" 1 C_crossed_sets [] [] := ⟨⟨f4, _, _, _, ok_crossed_sets F4 B q_bits_of q_crossed_on q_places_of, PySem.W.mg_of X G a4, F4.kp, b4, .nil⟩, dd_nil⟩
  exact ok_law F13 B q__law_cells q__law_crossed q__law_deal q__law_drawn q__law_sets q_crossed_sets
end My
open PySem PySem.W PyProof.Rows
set_option maxHeartbeats 0 in
theorem PySem.Challenge.cw_ringfell_k52_sets_crossed_holds : PySem.Challenge.rw_ringfell_k52_sets_crossed.Holds := by
  w_on; o_law; k_head; (case hw => w_witness2)
  k_fill
  refine L2.walk_of (l := PySem.Challenge.rw_ringfell_k52_sets_crossed) (n := 63) (k := 4) (x := "script") (CX := fun _ => L2.CX0) (sp := fun w => VL.spC _ 1 My.C_law) rfl (by decide) rfl ⟨rfl, by decide, by decide⟩ (fun w h Y => PySem.W.kIn_of Y) ?F (fun _ _ a ns hl _ hS => My.law_sp hl hS) (fun _ _ _ _ _ h => h)
  case F =>
    intro w mg fa h KX G hmg
    refine' My.all_mk KX G hmg ?a1 ?l1 ?c1 ?k1 ?a2 ?l2 ?c2 ?k2 ?a3 ?l3 ?c3 ?k3 ?a4 ?l4 ?c4 ?k4 ?a5 ?l5 ?c5 ?k5 ?a6 ?l6 ?c6 ?k6 ?a7 ?l7 ?c7 ?k7 ?a8 ?l8 ?c8 ?k8 ?a9 ?l9 ?c9 ?k9 ?a10 ?l10 ?c10 ?k10 ?a11 ?l11 ?c11 ?k11 ?a12 ?l12 ?c12 ?k12 ?a13 ?l13 ?c13 ?k13 ?z0 ?z1 ?z2 ?z3 ?z4 ?z5 ?z6 ?z7 ?z8 ?z9 ?y0
    (case a1 => k_is); (case l1 => k_is); (case c1 => k_is); (case k1 => k_is); (case a2 => k_is); (case l2 => k_is); (case c2 => k_is); (case k2 => k_is); (case a3 => k_is); (case l3 => k_is); (case c3 => k_is); (case k3 => k_is); (case a4 => k_is); (case l4 => k_is); (case c4 => k_is); (case k4 => k_is); (case a5 => k_is); (case l5 => k_is); (case c5 => k_is); (case k5 => k_is); (case a6 => k_is); (case l6 => k_is); (case c6 => k_is); (case k6 => k_is); (case a7 => k_is); (case l7 => k_is); (case c7 => k_is); (case k7 => k_is); (case a8 => k_is); (case l8 => k_is); (case c8 => k_is); (case k8 => k_is); (case a9 => k_is); (case l9 => k_is); (case c9 => k_is); (case k9 => k_is); (case a10 => k_is); (case l10 => k_is); (case c10 => k_is); (case k10 => k_is); (case a11 => k_is); (case l11 => k_is); (case c11 => k_is); (case k11 => k_is); (case a12 => k_is); (case l12 => k_is); (case c12 => k_is); (case k12 => k_is); (case a13 => k_is); (case l13 => k_is); (case c13 => k_is); (case k13 => k_is); (case z0 => k_is); (case z1 => k_is); (case z2 => k_is); (case z3 => k_is); (case z4 => k_is); (case z5 => k_is); (case z6 => k_is); (case z7 => k_is); (case z8 => k_is); (case z9 => k_is); (case y0 => k_is)
