import PyProof.Rows.All
import Wide.All
import OpenK.AllK
import Wide.FinOn
import HandS.ForMost
import HandS.ForExc
import HandS.Deep
import HandS.TupAny
import HandS.SortInts
import HandS.SetFor
import HandS.IsInst
import HandS.Conv
import HandS.Wide
import PySem.Challenge.RW_pairlattice_k24_written
set_option Elab.async false
set_option linter.all false
set_option maxRecDepth 100000
namespace DL
open PySem L2

inductive D where
  | non | bl (b : Bool) | int (i : Int) | str (x : Str)
  | tup (ds : List D)
  | lst (o : Bool) (ds : List D)
  | ins (o : Bool) (C : Addr) (fn : List Str) (ds : List D)
  | dic (o : Bool) (ks : List (List Key)) (ds : List D)
  | sh (I : List Int → Prop)
  | scr (xs : List Int)

structure Zn where
  fz : Addr → Prop
  di : Addr → Prop
  iv : Addr → List Int → Prop

def MutO : Option HO → Prop
  | some (.lst _) => True
  | some (.ins _ _ _) => True
  | some (.dT _) => True
  | _ => False
def Still : HO → Prop
  | .tup _ => True
  | .frz _ _ => True
  | _ => False
theorem MutO.some_of {x : Option HO} (h : MutO x) : x ≠ none := fun e => by rw [e] at h; exact h

/-- the law's own script, or what is read like it -/
def ScrAt (K : PySem.W.Frag) (H : Hp) (Z : Zn) (p : Addr) (vs : List V) : Prop :=
  (H p = some (.lst vs) ∧ Z.fz p) ∨ (∃ o, H p = some (.frz o (.lst vs))) ∨
    ∃ (o : Obj) (its : Array Value) (n : Nat), K.lookup p = some o ∧ o.cls = .type "list" ∧ o.dict = none ∧ o.data = .seq its n ∧ its.size ≤ sizeLine ∧ Vals vs its.toList
theorem ScrAt.seq {K : PySem.W.Frag} {H : Hp} {Z : Zn} {p : Addr} {vs : List V} (h : ScrAt K H Z p vs) : SqL K H p vs := by
  rcases h with ⟨h, _⟩ | ⟨o, h⟩ | h
  · exact .inl (.inl h)
  · exact .inl (.inr ⟨o, h⟩)
  · exact .inr h
mutual
def Ow (K : PySem.W.Frag) (H : Hp) (Z : Zn) : D → V → List Addr → Prop
  | .non, v, A => v = .non ∧ A = []
  | .bl b, v, A => v = .bl b ∧ A = []
  | .int i, v, A => v = .int i ∧ A = []
  | .str x, v, A => v = .str x ∧ A = []
  | .tup ds, v, A => ∃ p vs, v = .ref p ∧ SqT K H p vs ∧ Ows K H Z ds vs A
  | .lst true ds, v, A => ∃ p vs A', v = .ref p ∧ A = p :: A' ∧ H p = some (.lst vs) ∧ Ows K H Z ds vs A'
  | .lst false ds, v, A => ∃ p vs, v = .ref p ∧ A = [] ∧ H p = some (.lst vs) ∧ Z.fz p ∧ Ows K H Z ds vs []
  | .ins true C fn ds, v, A => ∃ p dx vs A', v = .ref p ∧ A = p :: A' ∧ H p = some (.ins C dx (fn.zip vs)) ∧ fn.length = vs.length ∧ Ows K H Z ds vs A'
  | .ins false C fn ds, v, A => ∃ p dx vs, v = .ref p ∧ A = [] ∧ H p = some (.ins C dx (fn.zip vs)) ∧ Z.fz p ∧ fn.length = vs.length ∧ Ows K H Z ds vs []
  | .dic true ks ds, v, A => ∃ p vs A', v = .ref p ∧ A = p :: A' ∧ H p = some (.dT (ks.zip vs)) ∧ ks.length = vs.length ∧ Ows K H Z ds vs A'
  | .dic false ks ds, v, A => ∃ p vs, v = .ref p ∧ A = [] ∧ H p = some (.dT (ks.zip vs)) ∧ Z.fz p ∧ ks.length = vs.length ∧ Ows K H Z ds vs []
  | .sh I, v, A => ∃ p, v = .ref p ∧ Z.di p ∧ Z.iv p = I ∧ A = []
  | .scr xs, v, A => ∃ p, v = .ref p ∧ A = [] ∧ ScrAt K H Z p (xs.map V.int)
def Ows (K : PySem.W.Frag) (H : Hp) (Z : Zn) : List D → List V → List Addr → Prop
  | [], vs, A => vs = [] ∧ A = []
  | d :: ds, vs, A => ∃ v vs' A1 A2, vs = v :: vs' ∧ A = A1 ++ A2 ∧ Ow K H Z d v A1 ∧ Ows K H Z ds vs' A2
end

mutual
/-- no owned node -/
def frz : D → Bool
  | .tup ds => frzs ds
  | .lst o ds => !o && frzs ds
  | .ins o _ _ ds => !o && frzs ds
  | .dic o _ ds => !o && frzs ds
  | _ => true
def frzs : List D → Bool
  | [] => true
  | d :: ds => frz d && frzs ds
end
mutual
/-- all flags off -/
def fz : D → D
  | .tup ds => .tup (fzs ds)
  | .lst _ ds => .lst false (fzs ds)
  | .ins _ C fn ds => .ins false C fn (fzs ds)
  | .dic _ ks ds => .dic false ks (fzs ds)
  | d => d
def fzs : List D → List D
  | [] => []
  | d :: ds => fz d :: fzs ds
end
mutual
/-- no frozen node, nothing shared: fresh through and through -/
def noL : D → Bool
  | .tup ds => noLs ds
  | .lst o ds => o && noLs ds
  | .ins o _ _ ds => o && noLs ds
  | .dic o _ ds => o && noLs ds
  | .sh _ => false
  | .scr _ => false
  | _ => true
def noLs : List D → Bool
  | [] => true
  | d :: ds => noL d && noLs ds
end

section
variable {K : PySem.W.Frag} {H H' : Hp} {Z Z' : Zn}

theorem sqT_keep {p : Addr} {vs : List V} (k : ∀ p o, H p = some o → Still o → H' p = some o) (h : SqT K H p vs) : SqT K H' p vs := by
  rcases h with (h | ⟨o, h⟩) | h
  · exact .inl (.inl (k _ _ h trivial))
  · exact .inl (.inr ⟨o, k _ _ h trivial⟩)
  · exact .inr h
theorem rd_keep {p : Addr} {u : HO} (k : ∀ o, H p = some o → H' p = some o) (h : Rd H p u) : Rd H' p u := by
  rcases h with h | ⟨o, h⟩
  · exact .inl (k _ h)
  · exact .inr ⟨o, k _ h⟩

structure Kp (H : Hp) (Z : Zn) (A : List Addr) (H' : Hp) (Z' : Zn) : Prop where
  st : ∀ p o, H p = some o → Still o → H' p = some o
  ow : ∀ p o, p ∈ A → H p = some o → H' p = some o
  zk : ∀ p o, Z.fz p → H p = some o → H' p = some o
  zf : ∀ p, Z.fz p → Z'.fz p
  zd : ∀ p, Z.di p → Z'.di p ∧ Z'.iv p = Z.iv p
theorem ScrAt.keep {A : List Addr} {p : Addr} {vs : List V} (h : ScrAt K H Z p vs) (k : Kp H Z A H' Z') : ScrAt K H' Z' p vs := by
  rcases h with ⟨h, z⟩ | ⟨o, h⟩ | h
  · exact .inl ⟨k.zk _ _ z h, k.zf _ z⟩
  · exact .inr (.inl ⟨o, k.st _ _ h trivial⟩)
  · exact .inr (.inr h)
theorem Kp.sub {A B : List Addr} (k : Kp H Z A H' Z') (h : ∀ p ∈ B, p ∈ A) : Kp H Z B H' Z' :=
  ⟨k.st, fun p o hp e => k.ow p o (h p hp) e, k.zk, k.zf, k.zd⟩

mutual
theorem Ow.keep : ∀ (d : D) (v : V) (A : List Addr), Ow K H Z d v A → Kp H Z A H' Z' → Ow K H' Z' d v A
  | .non, v, A, h, k => by simpa [Ow] using h
  | .bl b, v, A, h, k => by simpa [Ow] using h
  | .int i, v, A, h, k => by simpa [Ow] using h
  | .str x, v, A, h, k => by simpa [Ow] using h
  | .tup ds, v, A, h, k => by
    unfold Ow at h ⊢
    obtain ⟨p, vs, e, q, r⟩ := h
    exact ⟨p, vs, e, sqT_keep k.st q, Ows.keep ds vs A r k⟩
  | .lst true ds, v, A, h, k => by
    unfold Ow at h ⊢
    obtain ⟨p, vs, A', e, eA, q, r⟩ := h
    subst eA
    exact ⟨p, vs, A', e, rfl, k.ow _ _ List.mem_cons_self q, Ows.keep ds vs A' r (k.sub fun p hp => List.mem_cons_of_mem _ hp)⟩
  | .lst false ds, v, A, h, k => by
    unfold Ow at h ⊢
    obtain ⟨p, vs, e, eA, q, z, r⟩ := h
    subst eA
    exact ⟨p, vs, e, rfl, k.zk p _ z q, k.zf p z, Ows.keep ds vs [] r k⟩
  | .ins true C fn ds, v, A, h, k => by
    unfold Ow at h ⊢
    obtain ⟨p, dx, vs, A', e, eA, q, l, r⟩ := h
    subst eA
    exact ⟨p, dx, vs, A', e, rfl, k.ow _ _ List.mem_cons_self q, l, Ows.keep ds vs A' r (k.sub fun p hp => List.mem_cons_of_mem _ hp)⟩
  | .ins false C fn ds, v, A, h, k => by
    unfold Ow at h ⊢
    obtain ⟨p, dx, vs, e, eA, q, z, l, r⟩ := h
    subst eA
    exact ⟨p, dx, vs, e, rfl, k.zk p _ z q, k.zf p z, l, Ows.keep ds vs [] r k⟩
  | .dic true ks ds, v, A, h, k => by
    unfold Ow at h ⊢
    obtain ⟨p, vs, A', e, eA, q, l, r⟩ := h
    subst eA
    exact ⟨p, vs, A', e, rfl, k.ow _ _ List.mem_cons_self q, l, Ows.keep ds vs A' r (k.sub fun p hp => List.mem_cons_of_mem _ hp)⟩
  | .dic false ks ds, v, A, h, k => by
    unfold Ow at h ⊢
    obtain ⟨p, vs, e, eA, q, z, l, r⟩ := h
    subst eA
    exact ⟨p, vs, e, rfl, k.zk p _ z q, k.zf p z, l, Ows.keep ds vs [] r k⟩
  | .sh I, v, A, h, k => by
    unfold Ow at h ⊢
    obtain ⟨p, e, z, i, eA⟩ := h
    exact ⟨p, e, (k.zd p z).1, (k.zd p z).2.trans i, eA⟩
  | .scr xs, v, A, h, k => by
    unfold Ow at h ⊢
    obtain ⟨p, e, eA, z⟩ := h
    exact ⟨p, e, eA, z.keep k⟩
theorem Ows.keep : ∀ (ds : List D) (vs : List V) (A : List Addr), Ows K H Z ds vs A → Kp H Z A H' Z' → Ows K H' Z' ds vs A
  | [], vs, A, h, k => by simpa [Ows] using h
  | d :: ds, vs, A, h, k => by
    unfold Ows at h ⊢
    obtain ⟨v, vs', A1, A2, e, eA, q, r⟩ := h
    subst eA
    exact ⟨v, vs', A1, A2, e, rfl, Ow.keep d v A1 q (k.sub fun p hp => List.mem_append_left _ hp), Ows.keep ds vs' A2 r (k.sub fun p hp => List.mem_append_right _ hp)⟩
end

mutual
theorem Ow.mut : ∀ (d : D) (v : V) (A : List Addr), Ow K H Z d v A → ∀ p ∈ A, MutO (H p)
  | .non, v, A, h => by unfold Ow at h; obtain ⟨_, rfl⟩ := h; intro p hp; cases hp
  | .bl b, v, A, h => by unfold Ow at h; obtain ⟨_, rfl⟩ := h; intro p hp; cases hp
  | .int i, v, A, h => by unfold Ow at h; obtain ⟨_, rfl⟩ := h; intro p hp; cases hp
  | .str x, v, A, h => by unfold Ow at h; obtain ⟨_, rfl⟩ := h; intro p hp; cases hp
  | .tup ds, v, A, h => by
    unfold Ow at h
    obtain ⟨p, vs, e, q, r⟩ := h
    exact Ows.mut ds vs A r
  | .lst true ds, v, A, h => by
    unfold Ow at h
    obtain ⟨p, vs, A', e, eA, q, r⟩ := h
    subst eA
    intro x hx
    rcases List.mem_cons.mp hx with rfl | hx
    · rw [q]; trivial
    · exact Ows.mut ds vs A' r x hx
  | .lst false ds, v, A, h => by
    unfold Ow at h
    obtain ⟨p, vs, e, eA, q, z, r⟩ := h
    subst eA
    intro p hp; cases hp
  | .ins true C fn ds, v, A, h => by
    unfold Ow at h
    obtain ⟨p, dx, vs, A', e, eA, q, l, r⟩ := h
    subst eA
    intro x hx
    rcases List.mem_cons.mp hx with rfl | hx
    · rw [q]; trivial
    · exact Ows.mut ds vs A' r x hx
  | .ins false C fn ds, v, A, h => by
    unfold Ow at h
    obtain ⟨p, dx, vs, e, eA, q, z, l, r⟩ := h
    subst eA
    intro p hp; cases hp
  | .dic true ks ds, v, A, h => by
    unfold Ow at h
    obtain ⟨p, vs, A', e, eA, q, l, r⟩ := h
    subst eA
    intro x hx
    rcases List.mem_cons.mp hx with rfl | hx
    · rw [q]; trivial
    · exact Ows.mut ds vs A' r x hx
  | .dic false ks ds, v, A, h => by
    unfold Ow at h
    obtain ⟨p, vs, e, eA, q, z, l, r⟩ := h
    subst eA
    intro p hp; cases hp
  | .sh I, v, A, h => by
    unfold Ow at h
    obtain ⟨p, e, z, i, eA⟩ := h
    subst eA
    intro p hp; cases hp
  | .scr xs, v, A, h => by
    unfold Ow at h
    obtain ⟨p, e, eA, z⟩ := h
    subst eA
    intro p hp; cases hp
theorem Ows.mut : ∀ (ds : List D) (vs : List V) (A : List Addr), Ows K H Z ds vs A → ∀ p ∈ A, MutO (H p)
  | [], vs, A, h => by unfold Ows at h; obtain ⟨_, rfl⟩ := h; intro p hp; cases hp
  | d :: ds, vs, A, h => by
    unfold Ows at h
    obtain ⟨v, vs', A1, A2, e, eA, q, r⟩ := h
    subst eA
    intro x hx
    rcases List.mem_append.mp hx with hx | hx
    · exact Ow.mut d v A1 q x hx
    · exact Ows.mut ds vs' A2 r x hx
end

/-- frozen: in Z' stand all of A -/
structure FzTo (Z : Zn) (A : List Addr) (Z' : Zn) : Prop where
  zf : ∀ p, Z.fz p → Z'.fz p
  zd : ∀ p, Z.di p → Z'.di p ∧ Z'.iv p = Z.iv p
  za : ∀ p ∈ A, Z'.fz p
theorem FzTo.sub {A B : List Addr} (k : FzTo Z A Z') (h : ∀ p ∈ B, p ∈ A) : FzTo Z B Z' := ⟨k.zf, k.zd, fun p hp => k.za p (h p hp)⟩
mutual
theorem Ow.frozen : ∀ (d : D) (v : V) (A : List Addr), Ow K H Z d v A → FzTo Z A Z' → Ow K H Z' (fz d) v []
  | .non, v, A, h, k => by unfold Ow at h; simp [Ow, fz, h.1]
  | .bl b, v, A, h, k => by unfold Ow at h; simp [Ow, fz, h.1]
  | .int i, v, A, h, k => by unfold Ow at h; simp [Ow, fz, h.1]
  | .str x, v, A, h, k => by unfold Ow at h; simp [Ow, fz, h.1]
  | .tup ds, v, A, h, k => by
    unfold Ow at h; unfold fz; unfold Ow
    obtain ⟨p, vs, e, q, r⟩ := h
    exact ⟨p, vs, e, q, Ows.frozen ds vs A r k⟩
  | .lst true ds, v, A, h, k => by
    unfold Ow at h; unfold fz; unfold Ow
    obtain ⟨p, vs, A', e, eA, q, r⟩ := h
    subst eA
    exact ⟨p, vs, e, rfl, q, k.za p List.mem_cons_self, Ows.frozen ds vs A' r (k.sub fun p hp => List.mem_cons_of_mem _ hp)⟩
  | .lst false ds, v, A, h, k => by
    unfold Ow at h; unfold fz; unfold Ow
    obtain ⟨p, vs, e, eA, q, z, r⟩ := h
    exact ⟨p, vs, e, rfl, q, k.zf p z, Ows.frozen ds vs [] r (k.sub fun p hp => by cases hp)⟩
  | .ins true C fn ds, v, A, h, k => by
    unfold Ow at h; unfold fz; unfold Ow
    obtain ⟨p, dx, vs, A', e, eA, q, l, r⟩ := h
    subst eA
    exact ⟨p, dx, vs, e, rfl, q, k.za p List.mem_cons_self, l, Ows.frozen ds vs A' r (k.sub fun p hp => List.mem_cons_of_mem _ hp)⟩
  | .ins false C fn ds, v, A, h, k => by
    unfold Ow at h; unfold fz; unfold Ow
    obtain ⟨p, dx, vs, e, eA, q, z, l, r⟩ := h
    exact ⟨p, dx, vs, e, rfl, q, k.zf p z, l, Ows.frozen ds vs [] r (k.sub fun p hp => by cases hp)⟩
  | .dic true ks ds, v, A, h, k => by
    unfold Ow at h; unfold fz; unfold Ow
    obtain ⟨p, vs, A', e, eA, q, l, r⟩ := h
    subst eA
    exact ⟨p, vs, e, rfl, q, k.za p List.mem_cons_self, l, Ows.frozen ds vs A' r (k.sub fun p hp => List.mem_cons_of_mem _ hp)⟩
  | .dic false ks ds, v, A, h, k => by
    unfold Ow at h; unfold fz; unfold Ow
    obtain ⟨p, vs, e, eA, q, z, l, r⟩ := h
    exact ⟨p, vs, e, rfl, q, k.zf p z, l, Ows.frozen ds vs [] r (k.sub fun p hp => by cases hp)⟩
  | .sh I, v, A, h, k => by
    unfold Ow at h; unfold fz; unfold Ow
    obtain ⟨p, e, z, i, eA⟩ := h
    exact ⟨p, e, (k.zd p z).1, (k.zd p z).2.trans i, rfl⟩
  | .scr xs, v, A, h, k => by
    unfold Ow at h; unfold fz; unfold Ow
    obtain ⟨p, e, eA, z⟩ := h
    refine ⟨p, e, rfl, ?_⟩
    rcases z with ⟨z, y⟩ | z | z
    · exact .inl ⟨z, k.zf p y⟩
    · exact .inr (.inl z)
    · exact .inr (.inr z)
theorem Ows.frozen : ∀ (ds : List D) (vs : List V) (A : List Addr), Ows K H Z ds vs A → FzTo Z A Z' → Ows K H Z' (fzs ds) vs []
  | [], vs, A, h, k => by unfold Ows at h; unfold fzs; unfold Ows; exact ⟨h.1, rfl⟩
  | d :: ds, vs, A, h, k => by
    unfold Ows at h; unfold fzs; unfold Ows
    obtain ⟨v, vs', A1, A2, e, eA, q, r⟩ := h
    subst eA
    exact ⟨v, vs', [], [], e, rfl, Ow.frozen d v A1 q (k.sub fun p hp => List.mem_append_left _ hp), Ows.frozen ds vs' A2 r (k.sub fun p hp => List.mem_append_right _ hp)⟩
end

mutual
theorem fz_of_frz : ∀ (d : D), frz d = true → fz d = d
  | .non, _ => rfl
  | .bl b, _ => rfl
  | .int i, _ => rfl
  | .str x, _ => rfl
  | .sh _, _ => rfl
  | .scr _, _ => rfl
  | .tup ds, h => by unfold frz at h; unfold fz; rw [fzs_of_frzs ds h]
  | .lst o ds, h => by
    unfold frz at h; unfold fz
    simp only [Bool.and_eq_true, Bool.not_eq_true'] at h
    rw [fzs_of_frzs ds h.2, h.1]
  | .ins o C fn ds, h => by
    unfold frz at h; unfold fz
    simp only [Bool.and_eq_true, Bool.not_eq_true'] at h
    rw [fzs_of_frzs ds h.2, h.1]
  | .dic o ks ds, h => by
    unfold frz at h; unfold fz
    simp only [Bool.and_eq_true, Bool.not_eq_true'] at h
    rw [fzs_of_frzs ds h.2, h.1]
theorem fzs_of_frzs : ∀ (ds : List D), frzs ds = true → fzs ds = ds
  | [], _ => rfl
  | d :: ds, h => by
    unfold frzs at h; unfold fzs
    simp only [Bool.and_eq_true] at h
    rw [fz_of_frz d h.1, fzs_of_frzs ds h.2]
end
mutual
theorem frz_fz : ∀ (d : D), frz (fz d) = true
  | .non => rfl
  | .bl b => rfl
  | .int i => rfl
  | .str x => rfl
  | .sh _ => rfl
  | .scr _ => rfl
  | .tup ds => by unfold fz frz; exact frzs_fzs ds
  | .lst o ds => by unfold fz frz; simp [frzs_fzs ds]
  | .ins o C fn ds => by unfold fz frz; simp [frzs_fzs ds]
  | .dic o ks ds => by unfold fz frz; simp [frzs_fzs ds]
theorem frzs_fzs : ∀ (ds : List D), frzs (fzs ds) = true
  | [] => rfl
  | d :: ds => by unfold fzs frzs; simp [frz_fz d, frzs_fzs ds]
end
mutual
theorem Ow.nil_of : ∀ (d : D) (v : V) (A : List Addr), Ow K H Z d v A → frz d = true → A = []
  | .non, v, A, h, _ => by unfold Ow at h; exact h.2
  | .bl b, v, A, h, _ => by unfold Ow at h; exact h.2
  | .int i, v, A, h, _ => by unfold Ow at h; exact h.2
  | .str x, v, A, h, _ => by unfold Ow at h; exact h.2
  | .sh _, v, A, h, _ => by unfold Ow at h; obtain ⟨_, _, _, _, e⟩ := h; exact e
  | .scr _, v, A, h, _ => by unfold Ow at h; obtain ⟨_, _, e, _⟩ := h; exact e
  | .tup ds, v, A, h, f => by
    unfold Ow at h; unfold frz at f
    obtain ⟨p, vs, e, q, r⟩ := h
    exact Ows.nil_of ds vs A r f
  | .lst true ds, v, A, h, f => by unfold frz at f; cases f
  | .lst false ds, v, A, h, f => by unfold Ow at h; obtain ⟨_, _, _, e, _⟩ := h; exact e
  | .ins true C fn ds, v, A, h, f => by unfold frz at f; cases f
  | .ins false C fn ds, v, A, h, f => by unfold Ow at h; obtain ⟨_, _, _, _, e, _⟩ := h; exact e
  | .dic true ks ds, v, A, h, f => by unfold frz at f; cases f
  | .dic false ks ds, v, A, h, f => by unfold Ow at h; obtain ⟨_, _, _, e, _⟩ := h; exact e
theorem Ows.nil_of : ∀ (ds : List D) (vs : List V) (A : List Addr), Ows K H Z ds vs A → frzs ds = true → A = []
  | [], vs, A, h, _ => by unfold Ows at h; exact h.2
  | d :: ds, vs, A, h, f => by
    unfold Ows at h; unfold frzs at f
    obtain ⟨v, vs', A1, A2, e, eA, q, r⟩ := h
    simp only [Bool.and_eq_true] at f
    rw [eA, Ow.nil_of d v A1 q f.1, Ows.nil_of ds vs' A2 r f.2]; rfl
end
mutual
/-- what owns nothing has no owned node -/
theorem Ow.frz_of : ∀ (d : D) (v : V), Ow K H Z d v [] → frz d = true
  | .non, v, h => rfl
  | .bl b, v, h => rfl
  | .int i, v, h => rfl
  | .str x, v, h => rfl
  | .sh _, v, h => rfl
  | .scr _, v, h => rfl
  | .tup ds, v, h => by
    unfold Ow at h; unfold frz
    obtain ⟨p, vs, e, q, r⟩ := h
    exact Ows.frz_of ds vs r
  | .lst true ds, v, h => by unfold Ow at h; obtain ⟨_, _, _, _, e, _⟩ := h; cases e
  | .lst false ds, v, h => by
    unfold Ow at h; unfold frz
    obtain ⟨p, vs, e, _, q, z, r⟩ := h
    simp [Ows.frz_of ds vs r]
  | .ins true C fn ds, v, h => by unfold Ow at h; obtain ⟨_, _, _, _, _, e, _⟩ := h; cases e
  | .ins false C fn ds, v, h => by
    unfold Ow at h; unfold frz
    obtain ⟨p, dx, vs, e, _, q, z, l, r⟩ := h
    simp [Ows.frz_of ds vs r]
  | .dic true ks ds, v, h => by unfold Ow at h; obtain ⟨_, _, _, _, e, _⟩ := h; cases e
  | .dic false ks ds, v, h => by
    unfold Ow at h; unfold frz
    obtain ⟨p, vs, e, _, q, z, l, r⟩ := h
    simp [Ows.frz_of ds vs r]
theorem Ows.frz_of : ∀ (ds : List D) (vs : List V), Ows K H Z ds vs [] → frzs ds = true
  | [], vs, h => rfl
  | d :: ds, vs, h => by
    unfold Ows at h; unfold frzs
    obtain ⟨v, vs', A1, A2, e, eA, q, r⟩ := h
    obtain ⟨rfl, rfl⟩ := List.append_eq_nil_iff.mp eA.symm
    simp [Ow.frz_of d v q, Ows.frz_of ds vs' r]
end
mutual
/-- what is fresh through and through leans on no zone -/
theorem Ow.zone : ∀ (d : D) (v : V) (A : List Addr), noL d = true → Ow K H Z d v A → Ow K H Z' d v A
  | .non, v, A, _, h => by simpa [Ow] using h
  | .bl b, v, A, _, h => by simpa [Ow] using h
  | .int i, v, A, _, h => by simpa [Ow] using h
  | .str x, v, A, _, h => by simpa [Ow] using h
  | .sh _, v, A, f, h => by unfold noL at f; cases f
  | .scr _, v, A, f, h => by unfold noL at f; cases f
  | .tup ds, v, A, f, h => by
    unfold noL at f; unfold Ow at h ⊢
    obtain ⟨p, vs, e, q, r⟩ := h
    exact ⟨p, vs, e, q, Ows.zone ds vs A f r⟩
  | .lst true ds, v, A, f, h => by
    unfold noL at f; unfold Ow at h ⊢
    obtain ⟨p, vs, A', e, eA, q, r⟩ := h
    exact ⟨p, vs, A', e, eA, q, Ows.zone ds vs A' (by simpa using f) r⟩
  | .lst false ds, v, A, f, h => by unfold noL at f; cases f
  | .ins true C fn ds, v, A, f, h => by
    unfold noL at f; unfold Ow at h ⊢
    obtain ⟨p, dx, vs, A', e, eA, q, l, r⟩ := h
    exact ⟨p, dx, vs, A', e, eA, q, l, Ows.zone ds vs A' (by simpa using f) r⟩
  | .ins false C fn ds, v, A, f, h => by unfold noL at f; cases f
  | .dic true ks ds, v, A, f, h => by
    unfold noL at f; unfold Ow at h ⊢
    obtain ⟨p, vs, A', e, eA, q, l, r⟩ := h
    exact ⟨p, vs, A', e, eA, q, l, Ows.zone ds vs A' (by simpa using f) r⟩
  | .dic false ks ds, v, A, f, h => by unfold noL at f; cases f
theorem Ows.zone : ∀ (ds : List D) (vs : List V) (A : List Addr), noLs ds = true → Ows K H Z ds vs A → Ows K H Z' ds vs A
  | [], vs, A, _, h => by simpa [Ows] using h
  | d :: ds, vs, A, f, h => by
    unfold noLs at f; unfold Ows at h ⊢
    simp only [Bool.and_eq_true] at f
    obtain ⟨v, vs', A1, A2, e, eA, q, r⟩ := h
    exact ⟨v, vs', A1, A2, e, eA, Ow.zone d v A1 f.1 q, Ows.zone ds vs' A2 f.2 r⟩
end
end
end DL
set_option Elab.async false
set_option linter.all false
set_option maxRecDepth 100000
namespace DL
open PySem L2

/-! ### the state -/
structure Zo (H : Hp) (Z : Zn) : Prop where
  zd : ∀ p, Z.fz p → ¬ Z.di p
  zh : ∀ p, Z.fz p → H p ≠ none
  dk : ∀ p, Z.di p → ∃ xs : List Int, H p = some (.lst (xs.map .int)) ∧ Z.iv p xs
structure Wo (H : Hp) (Z : Zn) (A : List Addr) : Prop where
  zo : Zo H Z
  nd : A.Nodup
  af : ∀ p ∈ A, ¬ Z.fz p
  ad : ∀ p ∈ A, ¬ Z.di p
  ak : ∀ p ∈ A, MutO (H p)
/-- growth: nothing is changed but what is shared -/
structure Gx (H : Hp) (Z : Zn) (H' : Hp) (Z' : Zn) : Prop where
  kp : ∀ p o, H p = some o → ¬ Z.di p → H' p = some o
  zf : ∀ p, Z.fz p → Z'.fz p
  zd : ∀ p, Z.di p → Z'.di p ∧ Z'.iv p = Z.iv p
  nf : ∀ p, Z'.fz p → Z.fz p ∨ H p = none
  nd : ∀ p, Z'.di p → Z.di p ∨ H p = none
/-- fresh: owned and new -/
structure Fr (H H' : Hp) (Z' : Zn) (A : List Addr) : Prop where
  nd : A.Nodup
  af : ∀ p ∈ A, ¬ Z'.fz p
  ad : ∀ p ∈ A, ¬ Z'.di p
  ak : ∀ p ∈ A, MutO (H' p)
  nw : ∀ p ∈ A, H p = none
/-- change: only what is in A may change -/
structure Go (H : Hp) (Z : Zn) (A : List Addr) (H' : Hp) (Z' : Zn) (A' : List Addr) : Prop where
  kp : ∀ p o, H p = some o → p ∉ A → ¬ Z.di p → H' p = some o
  al : ∀ p, H p ≠ none → H' p ≠ none
  zf : ∀ p, Z.fz p → Z'.fz p
  zd : ∀ p, Z.di p → Z'.di p ∧ Z'.iv p = Z.iv p
  nf : ∀ p, Z'.fz p → Z.fz p ∨ p ∈ A ∨ H p = none
  nd : ∀ p, Z'.di p → Z.di p ∨ H p = none
  na : ∀ p ∈ A', p ∈ A ∨ H p = none

section
variable {K : PySem.W.Frag} {H H' H1 H2 : Hp} {Z Z' Z1 Z2 : Zn} {A A' A1 A2 B : List Addr}
theorem Gx.refl : Gx H Z H Z := ⟨fun _ _ e _ => e, fun _ h => h, fun _ h => ⟨h, rfl⟩, fun _ h => .inl h, fun _ h => .inl h⟩
theorem Gx.none_of (g : Gx H Z H1 Z1) (zo : Zo H1 Z1) {p : Addr} (h : H1 p = none) : H p = none := by
  cases e : H p with
  | none => rfl
  | some o =>
    by_cases d : Z.di p
    · obtain ⟨a, q, b⟩ := zo.dk p (g.zd p d).1
      rw [h] at q; cases q
    · rw [g.kp p o e d] at h; cases h
theorem Gx.there (g : Gx H Z H1 Z1) (zo : Zo H1 Z1) {p : Addr} (h : H p ≠ none) : H1 p ≠ none := fun e => h (g.none_of zo e)
theorem Gx.trans (zo : Zo H1 Z1) (g : Gx H Z H1 Z1) (k : Gx H1 Z1 H2 Z2) : Gx H Z H2 Z2 where
  kp := fun p o e d => k.kp p o (g.kp p o e d) fun d1 => (g.nd p d1).elim d fun n => by rw [n] at e; cases e
  zf := fun p h => k.zf p (g.zf p h)
  zd := fun p h => ⟨(k.zd p (g.zd p h).1).1, (k.zd p (g.zd p h).1).2.trans (g.zd p h).2⟩
  nf := fun p h => (k.nf p h).elim (fun h => g.nf p h) fun h => .inr (g.none_of zo h)
  nd := fun p h => (k.nd p h).elim (fun h => g.nd p h) fun h => .inr (g.none_of zo h)
theorem Gx.kpZ (g : Gx H Z H1 Z1) (zo : Zo H Z) (ad : ∀ p ∈ A, ¬ Z.di p) : Kp H Z A H1 Z1 where
  st := fun p o e s => g.kp p o e fun d => by
    obtain ⟨a, q, b⟩ := zo.dk p d
    rw [e] at q; cases q; exact s
  ow := fun p o hp e => g.kp p o e (ad p hp)
  zk := fun p o z e => g.kp p o e (zo.zd p z)
  zf := g.zf
  zd := g.zd
theorem Wo.gx (w : Wo H Z A) (g : Gx H Z H' Z') (zo : Zo H' Z') : Wo H' Z' A where
  zo := zo
  nd := w.nd
  af := fun p hp z => (g.nf p z).elim (w.af p hp) (w.ak p hp).some_of
  ad := fun p hp z => (g.nd p z).elim (w.ad p hp) (w.ak p hp).some_of
  ak := fun p hp => by
    have q := w.ak p hp
    cases e : H p with
    | none => rw [e] at q; exact q.elim
    | some o => rw [g.kp p o e (w.ad p hp)]; rw [e] at q; exact q
theorem Wo.frame (w : Wo H Z A) (g : Gx H Z H' Z') (zo : Zo H' Z') (f : Fr H H' Z' A1) : Wo H' Z' (A1 ++ A) := by
  have w' := w.gx g zo
  refine ⟨zo, List.nodup_append.mpr ⟨f.nd, w.nd, fun p hp q hq e => ?_⟩, fun p hp => ?_, fun p hp => ?_, fun p hp => ?_⟩
  · subst e
    exact (w.ak p hq).some_of (f.nw p hp)
  · exact (List.mem_append.mp hp).elim (f.af p) (w'.af p)
  · exact (List.mem_append.mp hp).elim (f.ad p) (w'.ad p)
  · exact (List.mem_append.mp hp).elim (f.ak p) (w'.ak p)
theorem Wo.sub (w : Wo H Z A) (nd : B.Nodup) (h : ∀ p ∈ B, p ∈ A) : Wo H Z B := ⟨w.zo, nd, fun p hp => w.af p (h p hp), fun p hp => w.ad p (h p hp), fun p hp => w.ak p (h p hp)⟩
theorem Wo.nil (w : Zo H Z) : Wo H Z [] := ⟨w, List.nodup_nil, fun _ h => (nomatch h), fun _ h => (nomatch h), fun _ h => (nomatch h)⟩
theorem Wo.fr (w : Wo H' Z' A) (n : ∀ p ∈ A, H p = none) : Fr H H' Z' A := ⟨w.nd, w.af, w.ad, w.ak, n⟩
theorem Fr.nil : Fr H H' Z' [] := ⟨List.nodup_nil, fun _ h => (nomatch h), fun _ h => (nomatch h), fun _ h => (nomatch h), fun _ h => (nomatch h)⟩
theorem Fr.wo (f : Fr H H' Z' A) (zo : Zo H' Z') : Wo H' Z' A := ⟨zo, f.nd, f.af, f.ad, f.ak⟩
/-- fresh things stay fresh for the one who stands further back -/
theorem Fr.back (f : Fr H1 H2 Z2 A) (g : Gx H Z H1 Z1) (zo : Zo H1 Z1) : Fr H H2 Z2 A := ⟨f.nd, f.af, f.ad, f.ak, fun p hp => g.none_of zo (f.nw p hp)⟩
theorem Fr.gx (f : Fr H H1 Z1 A) (zo : Zo H1 Z1) (g : Gx H1 Z1 H2 Z2) (zo2 : Zo H2 Z2) : Fr H H2 Z2 A :=
  let w := (f.wo zo).gx g zo2
  ⟨w.nd, w.af, w.ad, w.ak, f.nw⟩
theorem Fr.app (f : Fr H H1 Z1 A1) (zo : Zo H1 Z1) (g : Gx H Z H1 Z1) (g2 : Gx H1 Z1 H2 Z2) (zo2 : Zo H2 Z2) (f2 : Fr H1 H2 Z2 A2) : Fr H H2 Z2 (A1 ++ A2) := by
  have e1 := f.gx zo g2 zo2
  have e2 := f2.back g zo
  refine ⟨List.nodup_append.mpr ⟨f.nd, f2.nd, fun p hp q hq e => ?_⟩, fun p hp => ?_, fun p hp => ?_, fun p hp => ?_, fun p hp => ?_⟩
  · subst e
    exact (f.ak p hp).some_of (f2.nw p hq)
  · exact (List.mem_append.mp hp).elim (e1.af p) (e2.af p)
  · exact (List.mem_append.mp hp).elim (e1.ad p) (e2.ad p)
  · exact (List.mem_append.mp hp).elim (e1.ak p) (e2.ak p)
  · exact (List.mem_append.mp hp).elim (e1.nw p) (e2.nw p)
theorem Ow.gx {d : D} {v : V} (h : Ow K H Z d v A) (zo : Zo H Z) (ad : ∀ p ∈ A, ¬ Z.di p) (g : Gx H Z H' Z') : Ow K H' Z' d v A := Ow.keep d v A h (g.kpZ zo ad)
theorem Ows.gx {d : List D} {v : List V} (h : Ows K H Z d v A) (zo : Zo H Z) (ad : ∀ p ∈ A, ¬ Z.di p) (g : Gx H Z H' Z') : Ows K H' Z' d v A := Ows.keep d v A h (g.kpZ zo ad)
theorem nd_gx (ak : ∀ p ∈ A, MutO (H p)) (ad : ∀ p ∈ A, ¬ Z.di p) (g : Gx H Z H' Z') : ∀ p ∈ A, ¬ Z'.di p := fun p hp z => (g.nd p z).elim (ad p hp) (ak p hp).some_of

/-! Go -/
theorem Gx.go (g : Gx H Z H' Z') (w : Wo H Z A) (zo : Zo H' Z') (f : Fr H H' Z' A1) : Go H Z A H' Z' (A1 ++ A) where
  kp := fun p o e _ d => g.kp p o e d
  al := fun p hp => g.there zo hp
  zf := g.zf
  zd := g.zd
  nf := fun p h => (g.nf p h).imp id .inr
  nd := g.nd
  na := fun p hp => (List.mem_append.mp hp).elim (fun h => .inr (f.nw p h)) .inl
theorem Gx.go0 (g : Gx H Z H' Z') (w : Wo H Z A) (zo : Zo H' Z') : Go H Z A H' Z' A := g.go w zo Fr.nil
theorem Go.refl : Go H Z A H Z A := ⟨fun _ _ e _ _ => e, fun p hp => hp, fun _ h => h, fun _ h => ⟨h, rfl⟩, fun _ h => .inl h, fun _ h => .inl h, fun _ h => .inl h⟩
theorem Go.none_of (g : Go H Z A H1 Z1 A1) {p : Addr} (h : H1 p = none) : H p = none := by
  cases e : H p with
  | none => rfl
  | some o => exact absurd h (g.al p (by rw [e]; exact fun z => nomatch z))
theorem Go.trans (g : Go H Z A H1 Z1 A1) (k : Go H1 Z1 A1 H2 Z2 A2) : Go H Z A H2 Z2 A2 where
  kp := fun p o e ha d => k.kp p o (g.kp p o e ha d) (fun h1 => (g.na p h1).elim ha fun n => by rw [n] at e; cases e) fun d1 => (g.nd p d1).elim d fun n => by rw [n] at e; cases e
  al := fun p hp => k.al p (g.al p hp)
  zf := fun p h => k.zf p (g.zf p h)
  zd := fun p h => ⟨(k.zd p (g.zd p h).1).1, (k.zd p (g.zd p h).1).2.trans (g.zd p h).2⟩
  nf := fun p h => by
    rcases k.nf p h with h | h | h
    · exact g.nf p h
    · rcases g.na p h with h | h
      · exact .inr (.inl h)
      · exact .inr (.inr h)
    · exact .inr (.inr (g.none_of h))
  nd := fun p h => (k.nd p h).elim (fun h => g.nd p h) fun h => .inr (g.none_of h)
  na := fun p h => (k.na p h).elim (fun h => g.na p h) fun h => .inr (g.none_of h)
end
end DL
set_option Elab.async false
set_option linter.all false
set_option maxRecDepth 100000
namespace DL
open PySem L2

/-! ### slots -/
abbrev DEnv := List (Option D)
def OwO (K : PySem.W.Frag) (H : Hp) (Z : Zn) : Option D → Option V → List Addr → Prop
  | none, _, A => A = []
  | some d, o, A => ∃ v, o = some v ∧ Ow K H Z d v A
def Os (K : PySem.W.Frag) (H : Hp) (Z : Zn) : DEnv → St → List Addr → Prop
  | [], σ, A => σ = [] ∧ A = []
  | x :: ρ, σ, A => ∃ o σ' A1 A2, σ = o :: σ' ∧ A = A1 ++ A2 ∧ OwO K H Z x o A1 ∧ Os K H Z ρ σ' A2
section
variable {K : PySem.W.Frag} {H H' H1 H2 : Hp} {Z Z' Z1 Z2 : Zn} {A A' A1 A2 B : List Addr}
theorem OwO.keep {x : Option D} {o : Option V} (h : OwO K H Z x o A) (k : Kp H Z A H' Z') : OwO K H' Z' x o A := by
  cases x with
  | none => exact h
  | some d => obtain ⟨v, e, q⟩ := h; exact ⟨v, e, Ow.keep d v A q k⟩
theorem Os.keep : ∀ {ρ : DEnv} {σ : St} {A : List Addr}, Os K H Z ρ σ A → Kp H Z A H' Z' → Os K H' Z' ρ σ A
  | [], σ, A, h, _ => h
  | x :: ρ, σ, A, h, k => by
    obtain ⟨o, σ', A1, A2, e, eA, q, r⟩ := h
    subst eA
    exact ⟨o, σ', A1, A2, e, rfl, q.keep (k.sub fun p hp => List.mem_append_left _ hp), Os.keep r (k.sub fun p hp => List.mem_append_right _ hp)⟩
theorem Os.mut : ∀ {ρ : DEnv} {σ : St} {A : List Addr}, Os K H Z ρ σ A → ∀ p ∈ A, MutO (H p)
  | [], σ, A, h => by obtain ⟨_, rfl⟩ := h; intro p hp; cases hp
  | x :: ρ, σ, A, h => by
    obtain ⟨o, σ', A1, A2, e, eA, q, r⟩ := h
    subst eA
    intro p hp
    rcases List.mem_append.mp hp with hp | hp
    · cases x with
      | none => unfold OwO at q; rw [q] at hp; cases hp
      | some d => obtain ⟨v, _, q⟩ := q; exact Ow.mut d v A1 q p hp
    · exact Os.mut r p hp
theorem Os.len : ∀ {ρ : DEnv} {σ : St} {A : List Addr}, Os K H Z ρ σ A → ρ.length = σ.length
  | [], σ, A, h => by obtain ⟨rfl, _⟩ := h; rfl
  | x :: ρ, σ, A, h => by
    obtain ⟨o, σ', A1, A2, e, eA, q, r⟩ := h
    subst e
    simp [Os.len r]
theorem Os.gx {ρ : DEnv} {σ : St} (h : Os K H Z ρ σ A) (w : Wo H Z A) (g : Gx H Z H' Z') : Os K H' Z' ρ σ A := h.keep (g.kpZ w.zo w.ad)
/-- one slot, and the others -/
theorem Os.at : ∀ {ρ : DEnv} {σ : St} {A : List Addr} {i : Nat} {x : Option D}, Os K H Z ρ σ A → ρ[i]? = some x → ∃ B1 Ai B2 o, A = B1 ++ (Ai ++ B2) ∧ σ[i]? = some o ∧ OwO K H Z x o Ai ∧
    ∀ x' o' Ai' H' Z', OwO K H' Z' x' o' Ai' → Kp H Z (B1 ++ B2) H' Z' → Os K H' Z' (ρ.set i x') (σ.set i o') (B1 ++ (Ai' ++ B2))
  | [], σ, A, i, x, h, e => by simp at e
  | y :: ρ, σ, A, 0, x, h, e => by
    obtain ⟨o, σ', A1, A2, e1, eA, q, r⟩ := h
    have e' : y = x := by simpa using e
    subst e' e1 eA
    refine ⟨[], A1, A2, o, rfl, rfl, q, fun x' o' Ai' H' Z' q' k => ?_⟩
    exact ⟨o', σ', Ai', A2, rfl, rfl, q', r.keep (by simpa using k)⟩
  | y :: ρ, σ, A, i + 1, x, h, e => by
    obtain ⟨o, σ', A1, A2, e1, eA, q, r⟩ := h
    obtain ⟨B1, Ai, B2, oi, e2, e3, q1, f⟩ := Os.at (i := i) r (by simpa using e)
    subst e1 eA e2
    refine ⟨A1 ++ B1, Ai, B2, oi, by simp, by simpa using e3, q1, fun x' o' Ai' H' Z' q' k => ?_⟩
    refine ⟨o, σ'.set i o', A1, B1 ++ (Ai' ++ B2), rfl, by simp, q.keep (k.sub fun p hp => ?_), f x' o' Ai' H' Z' q' (k.sub fun p hp => ?_)⟩
    · simp [hp]
    · rcases List.mem_append.mp hp with hp | hp <;> simp [hp]
end

/-! ### readings by data -/
abbrev XP := Addr → Prop
abbrev DTE := DEnv → (D → Prop) → XP → Prop
abbrev DTT := DEnv → (Bool → Prop) → XP → Prop
abbrev DTA := DEnv → (List D → Prop) → XP → Prop
/-- an expression whose value may be shared with what is owned -/
def RE (K : PySem.W.Frag) (W : WX) (t : TE) (f : DTE) : Prop :=
  ∀ (σ : St) (H : Hp) (Z : Zn) (A : List Addr) (ρ : DEnv) (Q : VK) (R : D → Prop) (X : XP), Wo H Z A → Os K H Z ρ σ A → f ρ R X →
    (∀ d v H' Z' A1, R d → Gx H Z H' Z' → Zo H' Z' → (∀ p ∈ A1, ¬ Z'.di p) → Ow K H' Z' d v A1 → Q v H') → (∀ C H' Z', X C → Gx H Z H' Z' → Zo H' Z' → W (.ref C) none σ H') → t σ H Q
/-- an expression whose value is new, or frozen -/
def RF (K : PySem.W.Frag) (W : WX) (t : TE) (f : DTE) : Prop :=
  ∀ (σ : St) (H : Hp) (Z : Zn) (A : List Addr) (ρ : DEnv) (Q : VK) (R : D → Prop) (X : XP), Wo H Z A → Os K H Z ρ σ A → f ρ R X →
    (∀ d v H' Z' A1, R d → Gx H Z H' Z' → Zo H' Z' → Fr H H' Z' A1 → Ow K H' Z' d v A1 → Q v H') → (∀ C H' Z', X C → Gx H Z H' Z' → Zo H' Z' → W (.ref C) none σ H') → t σ H Q
def RT (K : PySem.W.Frag) (W : WX) (t : TT) (f : DTT) : Prop :=
  ∀ (σ : St) (H : Hp) (Z : Zn) (A : List Addr) (ρ : DEnv) (Q : Bool → Hp → Prop) (R : Bool → Prop) (X : XP), Wo H Z A → Os K H Z ρ σ A → f ρ R X →
    (∀ b H' Z', R b → Gx H Z H' Z' → Zo H' Z' → Q b H') → (∀ C H' Z', X C → Gx H Z H' Z' → Zo H' Z' → W (.ref C) none σ H') → t σ H Q
def RA (K : PySem.W.Frag) (W : WX) (t : TA) (f : DTA) : Prop :=
  ∀ (σ : St) (H : Hp) (Z : Zn) (A : List Addr) (ρ : DEnv) (Q : List V → Hp → Prop) (R : List D → Prop) (X : XP), Wo H Z A → Os K H Z ρ σ A → f ρ R X →
    (∀ ds vs H' Z' A1, R ds → Gx H Z H' Z' → Zo H' Z' → (∀ p ∈ A1, ¬ Z'.di p) → Ows K H' Z' ds vs A1 → Q vs H') → (∀ C H' Z', X C → Gx H Z H' Z' → Zo H' Z' → W (.ref C) none σ H') → t σ H Q
def RAF (K : PySem.W.Frag) (W : WX) (t : TA) (f : DTA) : Prop :=
  ∀ (σ : St) (H : Hp) (Z : Zn) (A : List Addr) (ρ : DEnv) (Q : List V → Hp → Prop) (R : List D → Prop) (X : XP), Wo H Z A → Os K H Z ρ σ A → f ρ R X →
    (∀ ds vs H' Z' A1, R ds → Gx H Z H' Z' → Zo H' Z' → Fr H H' Z' A1 → Ows K H' Z' ds vs A1 → Q vs H') → (∀ C H' Z', X C → Gx H Z H' Z' → Zo H' Z' → W (.ref C) none σ H') → t σ H Q

structure DE (X : Cx) (W : WX) (e : Expr) (t : TE) (f : DTE) : Prop where
  pe : PE X e t
  re : RE X.K W t f
structure DF (X : Cx) (W : WX) (e : Expr) (t : TE) (f : DTE) : Prop where
  pe : PE X e t
  re : RF X.K W t f
structure DT (X : Cx) (W : WX) (e : Expr) (t : TT) (f : DTT) : Prop where
  pe : PT X e t
  re : RT X.K W t f
structure DW (X : Cx) (W : WX) (e : Expr) (t : TT) (f : DTT) : Prop where
  pe : PW X e t
  re : RT X.K W t f
structure DA (X : Cx) (W : WX) (e : List Expr) (t : TA) (f : DTA) : Prop where
  pe : PA X e t
  re : RA X.K W t f
structure DAF (X : Cx) (W : WX) (e : List Expr) (t : TA) (f : DTA) : Prop where
  pe : PA X e t
  re : RAF X.K W t f

section
variable {K : PySem.W.Frag} {W : WX} {H H' H1 H2 : Hp} {Z Z' Z1 Z2 : Zn} {A A' A1 A2 B : List Addr}
theorem Fr.di (f : Fr H H' Z' A) : ∀ p ∈ A, ¬ Z'.di p := f.ad

/-! #### coercions -/
theorem RE.of_RF {t : TE} {f : DTE} (h : RF K W t f) : RE K W t f := fun σ H Z A ρ Q R X w o q k x =>
  h σ H Z A ρ Q R X w o q (fun d v H' Z' A1 r g zo fr ow => k d v H' Z' A1 r g zo fr.ad ow) x
def dTake (f : DTE) : DTE := fun ρ R X => f ρ (fun d => frz d = true ∧ R d) X
theorem RF.of_RE {t : TE} {f : DTE} (h : RE K W t f) : RF K W t (dTake f) := fun σ H Z A ρ Q R X w o q k x =>
  h σ H Z A ρ Q _ X w o q (fun d v H' Z' A1 r g zo ad ow => by
    have e := Ow.nil_of d v A1 ow r.1
    subst e
    exact k d v H' Z' [] r.2 g zo Fr.nil ow) x
/-- the new value, frozen at once -/
def dFz (f : DTE) : DTE := fun ρ R X => f ρ (fun d => R (fz d)) X
theorem frozen_step {d : D} {v : V} (ow : Ow K H' Z' d v A1) (zo : Zo H' Z') (fr : Fr H H' Z' A1) (g : Gx H Z H' Z') : ∃ Z2, Gx H Z H' Z2 ∧ Zo H' Z2 ∧ Ow K H' Z2 (fz d) v [] := by
  refine ⟨⟨fun p => Z'.fz p ∨ p ∈ A1, Z'.di, Z'.iv⟩, ⟨g.kp, fun p h => .inl (g.zf p h), g.zd, fun p h => ?_, g.nd⟩, ⟨fun p h => ?_, fun p h => ?_, zo.dk⟩, Ow.frozen d v A1 ow ⟨fun p h => .inl h, fun p h => ⟨h, rfl⟩, fun p h => .inr h⟩⟩
  · rcases h with h | h
    · exact g.nf p h
    · exact .inr (fr.nw p h)
  · rcases h with h | h
    · exact zo.zd p h
    · exact fr.ad p h
  · rcases h with h | h
    · exact zo.zh p h
    · exact (fr.ak p h).some_of
theorem RF.fz {t : TE} {f : DTE} (h : RF K W t f) : RF K W t (dFz f) := fun σ H Z A ρ Q R X w o q k x =>
  h σ H Z A ρ Q _ X w o q (fun d v H' Z' A1 r g zo fr ow => by
    obtain ⟨Z2, g2, zo2, ow2⟩ := frozen_step ow zo fr g
    exact k _ v H' Z2 [] r g2 zo2 Fr.nil ow2) x

/-! #### names, constants -/
def dVar (i : Nat) : DTE := fun ρ R _ => ∃ d, ρ[i]? = some (some d) ∧ R d
def dC (d : D) : DTE := fun _ R _ => R d
theorem re_var {i : Nat} : RE K W (tVar i) (dVar i) := fun σ H Z A ρ Q R X w o ⟨d, e, r⟩ k _ => by
  obtain ⟨B1, Ai, B2, oi, eA, e3, ⟨v, e4, q1⟩, f⟩ := o.at e
  subst e4
  exact ⟨v, e3, k d v H Z Ai r Gx.refl w.zo (fun p hp => w.ad p (by rw [eA]; simp [hp])) q1⟩
theorem rf_c {d : D} {v : V} (h : ∀ H Z, Ow K H Z d v []) : RF K W (tC v) (dC d) := fun σ H Z A ρ Q R X w o r k _ => k d v H Z [] r Gx.refl w.zo Fr.nil (h H Z)
theorem ow_int {i : Int} : Ow K H Z (.int i) (.int i) [] := by simp [Ow]
theorem ow_bl {i : Bool} : Ow K H Z (.bl i) (.bl i) [] := by simp [Ow]
theorem ow_non : Ow K H Z .non .non [] := by simp [Ow]
theorem ow_str {i : Str} : Ow K H Z (.str i) (.str i) [] := by simp [Ow]

/-! #### two operands -/
abbrev G2 := D → D → (D → Prop) → Prop
/-- an operator by values, and what it does by data; the value is new -/
def R2F (K : PySem.W.Frag) (r : R2) (g : G2) : Prop :=
  ∀ (H : Hp) (Z : Zn) (x y : D) (u v : V) (A1 A2 : List Addr) (Q : VK) (R : D → Prop), Zo H Z → (∀ p ∈ A1, ¬ Z.di p) → (∀ p ∈ A2, ¬ Z.di p) → Ow K H Z x u A1 → Ow K H Z y v A2 → g x y R →
    (∀ d z H' Z' A3, R d → Gx H Z H' Z' → Zo H' Z' → Fr H H' Z' A3 → Ow K H' Z' d z A3 → Q z H') → r u v H Q
/-- .. the value may be shared -/
def R2E (K : PySem.W.Frag) (r : R2) (g : G2) : Prop :=
  ∀ (H : Hp) (Z : Zn) (x y : D) (u v : V) (A1 A2 : List Addr) (Q : VK) (R : D → Prop), Zo H Z → (∀ p ∈ A1, ¬ Z.di p) → (∀ p ∈ A2, ¬ Z.di p) → Ow K H Z x u A1 → Ow K H Z y v A2 → g x y R →
    (∀ d z H' Z' A3, R d → Gx H Z H' Z' → Zo H' Z' → (∀ p ∈ A3, ¬ Z'.di p) → Ow K H' Z' d z A3 → Q z H') → r u v H Q
def dOp (g : G2) (a b : DTE) : DTE := fun ρ R X => a ρ (fun x => b ρ (fun y => g x y R) X) X
theorem rf_op {r : R2} {g : G2} {ta tb : TE} {fa fb : DTE} (hr : R2F K r g) (ha : RE K W ta fa) (hb : RE K W tb fb) : RF K W (tOp r ta tb) (dOp g fa fb) := fun σ H Z A ρ Q R X w o q k x => by
  refine ha σ H Z A ρ _ _ X w o q (fun d v H1 Z1 A1 r1 g1 zo1 ad1 ow1 => ?_) x
  refine hb σ H1 Z1 A ρ _ _ X (w.gx g1 zo1) (o.gx w g1) r1 (fun d2 v2 H2 Z2 A2 r2 g2 zo2 ad2 ow2 => ?_) fun C H' Z' xc g' zo' => x C H' Z' xc (g1.trans zo1 g') zo'
  refine hr H2 Z2 d d2 v v2 A1 A2 Q R zo2 (nd_gx (Ow.mut _ _ _ ow1) ad1 g2) ad2 (ow1.gx zo1 ad1 g2) ow2 r2 fun d3 z H3 Z3 A3 r3 g3 zo3 fr3 ow3 => ?_
  exact k d3 z H3 Z3 A3 r3 ((g1.trans zo1 g2).trans zo2 g3) zo3 (fr3.back (g1.trans zo1 g2) zo2) ow3
theorem re_op {r : R2} {g : G2} {ta tb : TE} {fa fb : DTE} (hr : R2E K r g) (ha : RE K W ta fa) (hb : RE K W tb fb) : RE K W (tOp r ta tb) (dOp g fa fb) := fun σ H Z A ρ Q R X w o q k x => by
  refine ha σ H Z A ρ _ _ X w o q (fun d v H1 Z1 A1 r1 g1 zo1 ad1 ow1 => ?_) x
  refine hb σ H1 Z1 A ρ _ _ X (w.gx g1 zo1) (o.gx w g1) r1 (fun d2 v2 H2 Z2 A2 r2 g2 zo2 ad2 ow2 => ?_) fun C H' Z' xc g' zo' => x C H' Z' xc (g1.trans zo1 g') zo'
  refine hr H2 Z2 d d2 v v2 A1 A2 Q R zo2 (nd_gx (Ow.mut _ _ _ ow1) ad1 g2) ad2 (ow1.gx zo1 ad1 g2) ow2 r2 fun d3 z H3 Z3 A3 r3 g3 zo3 fr3 ow3 => ?_
  exact k d3 z H3 Z3 A3 r3 ((g1.trans zo1 g2).trans zo2 g3) zo3 fr3 ow3
/-- a comparison as a test -/
def dTest (f : DTE) : DTT := fun ρ R X => f ρ (fun d => ∃ b, d = .bl b ∧ R b) X
theorem rt_test {t : TE} {f : DTE} (h : RE K W t f) : RT K W (tTest t) (dTest f) := fun σ H Z A ρ Q R X w o q k x => by
  refine h σ H Z A ρ _ _ X w o q (fun d v H1 Z1 A1 r1 g1 zo1 ad1 ow1 => ?_) x
  obtain ⟨b, rfl, r⟩ := r1
  unfold Ow at ow1
  exact ⟨b, ow1.1, k b H1 Z1 r g1 zo1⟩
theorem rt_b {t : TE} {f : DTE} (h : RE K W t f) : RT K W (tB t) (dTest f) := fun σ H Z A ρ Q R X w o q k x => by
  refine h σ H Z A ρ _ _ X w o q (fun d v H1 Z1 A1 r1 g1 zo1 ad1 ow1 => ?_) x
  obtain ⟨b, rfl, r⟩ := r1
  unfold Ow at ow1
  exact ⟨b, ow1.1, k b H1 Z1 r g1 zo1⟩
def dAnd (a b : DTT) : DTT := fun ρ R X => a ρ (fun c => if c = true then b ρ R X else R false) X
def dOr (a b : DTT) : DTT := fun ρ R X => a ρ (fun c => if c = true then R true else b ρ R X) X
def dNot (a : DTT) : DTT := fun ρ R X => a ρ (fun c => R (!c)) X
theorem rt_and {ta tb : TT} {fa fb : DTT} (ha : RT K W ta fa) (hb : RT K W tb fb) : RT K W (tAnd ta tb) (dAnd fa fb) := fun σ H Z A ρ Q R X w o q k x => by
  refine ha σ H Z A ρ _ _ X w o q (fun c H1 Z1 r1 g1 zo1 => ?_) x
  cases c with
  | true =>
    rw [if_pos rfl] at r1 ⊢
    exact hb σ H1 Z1 A ρ Q R X (w.gx g1 zo1) (o.gx w g1) r1 (fun b H' Z' r g zo => k b H' Z' r (g1.trans zo1 g) zo) fun C H' Z' xc g' zo' => x C H' Z' xc (g1.trans zo1 g') zo'
  | false =>
    rw [if_neg Bool.false_ne_true] at r1 ⊢
    exact k false H1 Z1 r1 g1 zo1
theorem rt_or {ta tb : TT} {fa fb : DTT} (ha : RT K W ta fa) (hb : RT K W tb fb) : RT K W (tOr ta tb) (dOr fa fb) := fun σ H Z A ρ Q R X w o q k x => by
  refine ha σ H Z A ρ _ _ X w o q (fun c H1 Z1 r1 g1 zo1 => ?_) x
  cases c with
  | false =>
    rw [if_neg Bool.false_ne_true] at r1 ⊢
    exact hb σ H1 Z1 A ρ Q R X (w.gx g1 zo1) (o.gx w g1) r1 (fun b H' Z' r g zo => k b H' Z' r (g1.trans zo1 g) zo) fun C H' Z' xc g' zo' => x C H' Z' xc (g1.trans zo1 g') zo'
  | true =>
    rw [if_pos rfl] at r1 ⊢
    exact k true H1 Z1 r1 g1 zo1
theorem rt_not {ta : TT} {fa : DTT} (ha : RT K W ta fa) : RT K W (tNot ta) (dNot fa) := fun σ H Z A ρ Q R X w o q k x =>
  ha σ H Z A ρ _ _ X w o q (fun c H1 Z1 r1 g1 zo1 => k _ H1 Z1 r1 g1 zo1) x
def dAndV (a b : DTE) : DTE := fun ρ R X => a ρ (fun d => ∃ c, d = .bl c ∧ if c = true then b ρ R X else R (.bl false)) X
def dOrV (a b : DTE) : DTE := fun ρ R X => a ρ (fun d => ∃ c, d = .bl c ∧ if c = true then R (.bl true) else b ρ R X) X
def dNotV (a : DTE) : DTE := fun ρ R X => a ρ (fun d => ∃ c, d = .bl c ∧ R (.bl (!c))) X
theorem rf_andV {ta tb : TE} {fa fb : DTE} (ha : RE K W ta fa) (hb : RF K W tb fb) : RF K W (tAndV ta tb) (dAndV fa fb) := fun σ H Z A ρ Q R X w o q k x => by
  refine ha σ H Z A ρ _ _ X w o q (fun d v H1 Z1 A1 r1 g1 zo1 ad1 ow1 => ?_) x
  obtain ⟨c, rfl, r1⟩ := r1
  unfold Ow at ow1
  refine ⟨c, ow1.1, ?_⟩
  cases c with
  | true =>
    rw [if_pos rfl] at r1 ⊢
    exact hb σ H1 Z1 A ρ Q R X (w.gx g1 zo1) (o.gx w g1) r1 (fun d v H' Z' A2 r g zo fr ow => k d v H' Z' A2 r (g1.trans zo1 g) zo (fr.back g1 zo1) ow) fun C H' Z' xc g' zo' => x C H' Z' xc (g1.trans zo1 g') zo'
  | false =>
    rw [if_neg Bool.false_ne_true] at r1 ⊢
    exact k _ _ H1 Z1 [] r1 g1 zo1 Fr.nil ow_bl
theorem rf_orV {ta tb : TE} {fa fb : DTE} (ha : RE K W ta fa) (hb : RF K W tb fb) : RF K W (tOrV ta tb) (dOrV fa fb) := fun σ H Z A ρ Q R X w o q k x => by
  refine ha σ H Z A ρ _ _ X w o q (fun d v H1 Z1 A1 r1 g1 zo1 ad1 ow1 => ?_) x
  obtain ⟨c, rfl, r1⟩ := r1
  unfold Ow at ow1
  refine ⟨c, ow1.1, ?_⟩
  cases c with
  | false =>
    rw [if_neg Bool.false_ne_true] at r1 ⊢
    exact hb σ H1 Z1 A ρ Q R X (w.gx g1 zo1) (o.gx w g1) r1 (fun d v H' Z' A2 r g zo fr ow => k d v H' Z' A2 r (g1.trans zo1 g) zo (fr.back g1 zo1) ow) fun C H' Z' xc g' zo' => x C H' Z' xc (g1.trans zo1 g') zo'
  | true =>
    rw [if_pos rfl] at r1 ⊢
    exact k _ _ H1 Z1 [] r1 g1 zo1 Fr.nil ow_bl
theorem rf_notV {ta : TE} {fa : DTE} (ha : RE K W ta fa) : RF K W (tNotV ta) (dNotV fa) := fun σ H Z A ρ Q R X w o q k x => by
  refine ha σ H Z A ρ _ _ X w o q (fun d v H1 Z1 A1 r1 g1 zo1 ad1 ow1 => ?_) x
  obtain ⟨c, rfl, r1⟩ := r1
  unfold Ow at ow1
  exact ⟨c, ow1.1, k _ _ H1 Z1 [] r1 g1 zo1 Fr.nil ow_bl⟩
def dIfE (c : DTT) (a b : DTE) : DTE := fun ρ R X => c ρ (fun c => if c = true then a ρ R X else b ρ R X) X
theorem rf_if {tc : TT} {ta tb : TE} {fc : DTT} {fa fb : DTE} (hc : RT K W tc fc) (ha : RF K W ta fa) (hb : RF K W tb fb) : RF K W (tIf tc ta tb) (dIfE fc fa fb) := fun σ H Z A ρ Q R X w o q k x => by
  refine hc σ H Z A ρ _ _ X w o q (fun c H1 Z1 r1 g1 zo1 => ?_) x
  cases c with
  | true =>
    rw [if_pos rfl] at r1 ⊢
    exact ha σ H1 Z1 A ρ Q R X (w.gx g1 zo1) (o.gx w g1) r1 (fun d v H' Z' A2 r g zo fr ow => k d v H' Z' A2 r (g1.trans zo1 g) zo (fr.back g1 zo1) ow) fun C H' Z' xc g' zo' => x C H' Z' xc (g1.trans zo1 g') zo'
  | false =>
    rw [if_neg Bool.false_ne_true] at r1 ⊢
    exact hb σ H1 Z1 A ρ Q R X (w.gx g1 zo1) (o.gx w g1) r1 (fun d v H' Z' A2 r g zo fr ow => k d v H' Z' A2 r (g1.trans zo1 g) zo (fr.back g1 zo1) ow) fun C H' Z' xc g' zo' => x C H' Z' xc (g1.trans zo1 g') zo'

/-! #### argument lists -/
def dNil : DTA := fun _ R _ => R []
def dCons (a : DTE) (r : DTA) : DTA := fun ρ R X => a ρ (fun x => r ρ (fun xs => R (x :: xs)) X) X
theorem ra_nil : RA K W tNil dNil := fun σ H Z A ρ Q R X w o q k x => k [] [] H Z [] q Gx.refl w.zo (fun _ h => nomatch h) (by unfold Ows; exact ⟨rfl, rfl⟩)
theorem raf_nil : RAF K W tNil dNil := fun σ H Z A ρ Q R X w o q k x => k [] [] H Z [] q Gx.refl w.zo Fr.nil (by unfold Ows; exact ⟨rfl, rfl⟩)
theorem ra_cons {ta : TE} {tr : TA} {fa : DTE} {fr : DTA} (ha : RE K W ta fa) (hr : RA K W tr fr) : RA K W (tCons ta tr) (dCons fa fr) := fun σ H Z A ρ Q R X w o q k x => by
  refine ha σ H Z A ρ _ _ X w o q (fun d v H1 Z1 A1 r1 g1 zo1 ad1 ow1 => ?_) x
  refine hr σ H1 Z1 A ρ _ _ X (w.gx g1 zo1) (o.gx w g1) r1 (fun ds vs H2 Z2 A2 r2 g2 zo2 ad2 ow2 => ?_) fun C H' Z' xc g' zo' => x C H' Z' xc (g1.trans zo1 g') zo'
  refine k (d :: ds) (v :: vs) H2 Z2 (A1 ++ A2) r2 (g1.trans zo1 g2) zo2 (fun p hp => ?_) ?_
  · rcases List.mem_append.mp hp with hp | hp
    · exact nd_gx (Ow.mut _ _ _ ow1) ad1 g2 p hp
    · exact ad2 p hp
  · unfold Ows
    exact ⟨v, vs, A1, A2, rfl, rfl, ow1.gx zo1 ad1 g2, ow2⟩
theorem raf_cons {ta : TE} {tr : TA} {fa : DTE} {fr : DTA} (ha : RF K W ta fa) (hr : RAF K W tr fr) : RAF K W (tCons ta tr) (dCons fa fr) := fun σ H Z A ρ Q R X w o q k x => by
  refine ha σ H Z A ρ _ _ X w o q (fun d v H1 Z1 A1 r1 g1 zo1 fr1 ow1 => ?_) x
  refine hr σ H1 Z1 A ρ _ _ X (w.gx g1 zo1) (o.gx w g1) r1 (fun ds vs H2 Z2 A2 r2 g2 zo2 fr2 ow2 => ?_) fun C H' Z' xc g' zo' => x C H' Z' xc (g1.trans zo1 g') zo'
  refine k (d :: ds) (v :: vs) H2 Z2 (A1 ++ A2) r2 (g1.trans zo1 g2) zo2 (fr1.app zo1 g1 g2 zo2 fr2) ?_
  unfold Ows
  exact ⟨v, vs, A1, A2, rfl, rfl, ow1.gx zo1 fr1.ad g2, ow2⟩
end
end DL
set_option Elab.async false
set_option linter.all false
set_option maxRecDepth 100000
namespace DL
open PySem L2

/-! ### data as the library's data -/
mutual
def py : D → PyData
  | .non => .none
  | .bl b => .bool b
  | .int i => .int i
  | .str x => .str x
  | .tup ds => .tuple (pys ds)
  | .lst _ ds => .list (pys ds)
  | .scr xs => .list (xs.map .int)
  | _ => .none
def pys : List D → List PyData
  | [] => []
  | d :: ds => py d :: pys ds
end
mutual
/-- no instance, no dict -/
def plain : D → Bool
  | .tup ds => plains ds
  | .lst _ ds => plains ds
  | .ins _ _ _ _ => false
  | .dic _ _ _ => false
  | .sh _ => false
  | _ => true
def plains : List D → Bool
  | [] => true
  | d :: ds => plain d && plains ds
end
def okd (d : D) : Bool := plain d && SeqAt.shaped (py d)
def deq (a b : D) : Bool := PyData.eqv (py a) (py b)

section
variable {K : PySem.W.Frag} {W : WX} {H H' H1 H2 : Hp} {Z Z' Z1 Z2 : Zn} {A A' A1 A2 B : List Addr}
theorem dpAll_ints {xs : List Int} : DpAll K H (xs.map V.int) (xs.map PyData.int) := by
  induction xs with
  | nil => exact .nil
  | cons x xs ih => exact .cons (.int x) ih
mutual
theorem Ow.dp : ∀ (d : D) (v : V) (A : List Addr), plain d = true → Ow K H Z d v A → Dp K H v (py d)
  | .non, v, A, _, h => by unfold Ow at h; rw [h.1]; unfold py; exact .non
  | .bl b, v, A, _, h => by unfold Ow at h; rw [h.1]; unfold py; exact .bl b
  | .int i, v, A, _, h => by unfold Ow at h; rw [h.1]; unfold py; exact .int i
  | .str x, v, A, _, h => by unfold Ow at h; rw [h.1]; unfold py; exact .str x
  | .tup ds, v, A, f, h => by
    unfold plain at f; unfold Ow at h; unfold py
    obtain ⟨p, vs, e, q, r⟩ := h
    rw [e]; exact .tup q (Ows.dp ds vs A f r)
  | .lst true ds, v, A, f, h => by
    unfold plain at f; unfold Ow at h; unfold py
    obtain ⟨p, vs, A', e, eA, q, r⟩ := h
    rw [e]; exact .lst (SqL.of q) (Ows.dp ds vs A' f r)
  | .lst false ds, v, A, f, h => by
    unfold plain at f; unfold Ow at h; unfold py
    obtain ⟨p, vs, e, eA, q, z, r⟩ := h
    rw [e]; exact .lst (SqL.of q) (Ows.dp ds vs [] f r)
  | .ins _ _ _ _, v, A, f, h => by unfold plain at f; cases f
  | .dic _ _ _, v, A, f, h => by unfold plain at f; cases f
  | .sh _, v, A, f, h => by unfold plain at f; cases f
  | .scr xs, v, A, f, h => by
    unfold Ow at h; unfold py
    obtain ⟨p, e, eA, q⟩ := h
    rw [e]; exact .lst q.seq dpAll_ints
theorem Ows.dp : ∀ (ds : List D) (vs : List V) (A : List Addr), plains ds = true → Ows K H Z ds vs A → DpAll K H vs (pys ds)
  | [], vs, A, _, h => by unfold Ows at h; rw [h.1]; unfold pys; exact .nil
  | d :: ds, vs, A, f, h => by
    unfold plains at f; unfold Ows at h; unfold pys
    obtain ⟨v, vs', A1, A2, e, eA, q, r⟩ := h
    simp only [Bool.and_eq_true] at f
    rw [e]; exact .cons (Ow.dp d v A1 f.1 q) (Ows.dp ds vs' A2 f.2 r)
end
theorem Ows.len : ∀ {ds : List D} {vs : List V} {A : List Addr}, Ows K H Z ds vs A → ds.length = vs.length
  | [], vs, A, h => by unfold Ows at h; rw [h.1]; rfl
  | d :: ds, vs, A, h => by
    unfold Ows at h
    obtain ⟨v, vs', A1, A2, e, eA, q, r⟩ := h
    rw [e]; simp [Ows.len r]
theorem Ows.ints : ∀ {ns : List Int} {vs : List V} {A : List Addr}, Ows K H Z (ns.map D.int) vs A → vs = ns.map V.int ∧ A = []
  | [], vs, A, h => by unfold Ows at h; exact h
  | n :: ns, vs, A, h => by
    rw [List.map_cons] at h
    unfold Ows at h
    obtain ⟨v, vs', A1, A2, e, eA, q, r⟩ := h
    unfold Ow at q
    obtain ⟨e1, e2⟩ := Ows.ints r
    rw [e, q.1, e1, eA, q.2, e2]; exact ⟨rfl, rfl⟩
theorem ows_ints : ∀ (ns : List Int), Ows K H Z (ns.map D.int) (ns.map V.int) []
  | [] => by simp [Ows]
  | n :: ns => by
    rw [List.map_cons, List.map_cons]; unfold Ows
    exact ⟨_, _, [], [], rfl, rfl, ow_int, ows_ints ns⟩
theorem Ows.get : ∀ {ds : List D} {vs : List V} {A : List Addr} {j : Nat} {d : D}, Ows K H Z ds vs A → ds[j]? = some d → ∃ v A1, vs[j]? = some v ∧ Ow K H Z d v A1 ∧ ∀ p ∈ A1, p ∈ A
  | [], vs, A, j, d, h, e => by simp at e
  | x :: ds, vs, A, 0, d, h, e => by
    unfold Ows at h
    obtain ⟨v, vs', A1, A2, e1, eA, q, r⟩ := h
    have e' : x = d := by simpa using e
    subst e' e1 eA
    exact ⟨v, A1, rfl, q, fun p hp => List.mem_append_left _ hp⟩
  | x :: ds, vs, A, j + 1, d, h, e => by
    unfold Ows at h
    obtain ⟨v, vs', A1, A2, e1, eA, q, r⟩ := h
    obtain ⟨u, A3, e2, q2, s2⟩ := Ows.get (j := j) r (by simpa using e)
    subst e1 eA
    exact ⟨u, A3, by simpa using e2, q2, fun p hp => List.mem_append_right _ (s2 p hp)⟩
theorem Ows.atI {ds : List D} {vs : List V} {i : Int} {d : D} (h : Ows K H Z ds vs A) (e : atI ds i = some d) : ∃ v A1, L2.atI vs i = some v ∧ Ow K H Z d v A1 ∧ ∀ p ∈ A1, p ∈ A := by
  unfold L2.atI at e ⊢
  rw [← h.len]
  cases x : ixN ds.length i with
  | none => rw [x] at e; cases e
  | some j =>
    rw [x] at e
    exact h.get e

/-! ### scalar operators -/
def gI (g : Int → Int → D) : G2 := fun x y R => ∃ i j, x = .int i ∧ y = .int j ∧ R (g i j)
def gIc (C : Int → Int → Prop) (g : Int → Int → D) : G2 := fun x y R => ∃ i j, x = .int i ∧ y = .int j ∧ C i j ∧ R (g i j)
theorem Ow.int_of {i : Int} {v : V} (h : Ow K H Z (.int i) v A) : v = .int i := by unfold Ow at h; exact h.1
theorem Ow.bl_of {i : Bool} {v : V} (h : Ow K H Z (.bl i) v A) : v = .bl i := by unfold Ow at h; exact h.1
theorem Ow.str_of {i : Str} {v : V} (h : Ow K H Z (.str i) v A) : v = .str i := by unfold Ow at h; exact h.1
theorem Ow.non_of {v : V} (h : Ow K H Z .non v A) : v = .non := by unfold Ow at h; exact h.1
theorem r2_i0 {gv : Int → Int → V} {gd : Int → Int → D} (hg : ∀ i j H Z, Ow K H Z (gd i j) (gv i j) []) : R2F K (rI0 gv) (gI gd) := fun H Z x y u v A1 A2 Q R zo a1 a2 o1 o2 ⟨i, j, e1, e2, r⟩ k => by
  subst e1 e2
  exact ⟨i, j, o1.int_of, o2.int_of, k _ _ H Z [] r Gx.refl zo Fr.nil (hg i j H Z)⟩
theorem r2_i {C : Int → Int → Prop} {gv : Int → Int → V} {gd : Int → Int → D} (hg : ∀ i j H Z, Ow K H Z (gd i j) (gv i j) []) : R2F K (rI C gv) (gIc C gd) := fun H Z x y u v A1 A2 Q R zo a1 a2 o1 o2 ⟨i, j, e1, e2, c, r⟩ k => by
  subst e1 e2
  exact ⟨i, j, o1.int_of, o2.int_of, c, k _ _ H Z [] r Gx.refl zo Fr.nil (hg i j H Z)⟩
def gAddS : G2 := fun x y R => ∃ i j, x = .str i ∧ y = .str j ∧ i.length + j.length ≤ sizeLine ∧ R (.str (i ++ j))
theorem r2_addS : R2F K (fun x y H Q => ∃ i j, x = V.str i ∧ y = .str j ∧ i.length + j.length ≤ sizeLine ∧ Q (.str (i ++ j)) H) gAddS := fun H Z x y u v A1 A2 Q R zo a1 a2 o1 o2 ⟨i, j, e1, e2, c, r⟩ k => by
  subst e1 e2
  exact ⟨i, j, o1.str_of, o2.str_of, c, k _ _ H Z [] r Gx.refl zo Fr.nil ow_str⟩
def gEq : G2 := fun x y R => okd x = true ∧ okd y = true ∧ R (.bl (deq x y))
def gNe : G2 := fun x y R => okd x = true ∧ okd y = true ∧ R (.bl (!deq x y))
theorem okd_plain {d : D} (h : okd d = true) : plain d = true := by unfold okd at h; simp only [Bool.and_eq_true] at h; exact h.1
theorem okd_shaped {d : D} (h : okd d = true) : SeqAt.shaped (py d) = true := by unfold okd at h; simp only [Bool.and_eq_true] at h; exact h.2
theorem r2_eq : R2F K (rEqD K) gEq := fun H Z x y u v A1 A2 Q R zo a1 a2 o1 o2 ⟨e1, e2, r⟩ k =>
  ⟨_, _, Ow.dp _ _ _ (okd_plain e1) o1, Ow.dp _ _ _ (okd_plain e2) o2, okd_shaped e1, okd_shaped e2, k _ _ H Z [] r Gx.refl zo Fr.nil ow_bl⟩
theorem r2_ne : R2F K (rNeD K) gNe := fun H Z x y u v A1 A2 Q R zo a1 a2 o1 o2 ⟨e1, e2, r⟩ k =>
  ⟨_, _, Ow.dp _ _ _ (okd_plain e1) o1, Ow.dp _ _ _ (okd_plain e2) o2, okd_shaped e1, okd_shaped e2, k _ _ H Z [] r Gx.refl zo Fr.nil ow_bl⟩
/-- in, over a list -/
def gIn (neg : Bool) : G2 := fun x y R => ∃ o ds, y = .lst o ds ∧ okd x = true ∧ okd y = true ∧ R (.bl (if neg then !ds.any (fun z => deq z x) else ds.any (fun z => deq z x)))
theorem any_pys (x : D) : ∀ ds : List D, (pys ds).any (fun z => PyData.eqv z (py x)) = ds.any (fun z => deq z x)
  | [] => rfl
  | d :: ds => by unfold pys; rw [List.any_cons, List.any_cons, any_pys x ds]; rfl
theorem r2_in : R2F K (rInD K) (gIn false) := fun H Z x y u v A1 A2 Q R zo a1 a2 o1 o2 ⟨o, ds, ey, e1, e2, r⟩ k => by
  subst ey
  refine ⟨py x, pys ds, Ow.dp _ _ _ (okd_plain e1) o1, ?_, okd_shaped e1, ?_, k _ _ H Z [] r Gx.refl zo Fr.nil (by rw [any_pys]; exact ow_bl)⟩
  · have := Ow.dp _ _ _ (okd_plain e2) o2; unfold py at this; exact this
  · have := okd_shaped e2; unfold py at this; exact this
theorem r2_notIn : R2F K (rNotInD K) (gIn true) := fun H Z x y u v A1 A2 Q R zo a1 a2 o1 o2 ⟨o, ds, ey, e1, e2, r⟩ k => by
  subst ey
  refine ⟨py x, pys ds, Ow.dp _ _ _ (okd_plain e1) o1, ?_, okd_shaped e1, ?_, k _ _ H Z [] r Gx.refl zo Fr.nil (by rw [any_pys]; exact ow_bl)⟩
  · have := Ow.dp _ _ _ (okd_plain e2) o2; unfold py at this; exact this
  · have := okd_shaped e2; unfold py at this; exact this
/-- in, over a tuple (or list) of flat things -/
def vOf : D → V
  | .non => .non
  | .bl b => .bl b
  | .int i => .int i
  | .str x => .str x
  | _ => .non
def flatD : D → Bool
  | .non => true
  | .bl _ => true
  | .int _ => true
  | .str _ => true
  | _ => false
theorem Ow.flat {d : D} {v : V} (f : flatD d = true) (h : Ow K H Z d v A) : v = vOf d ∧ flatV v = true := by
  cases d <;> (try cases f) <;> (unfold Ow at h; rw [h.1]; exact ⟨rfl, rfl⟩)
theorem Ows.flat : ∀ {ds : List D} {vs : List V} {A : List Addr}, ds.all flatD = true → Ows K H Z ds vs A → vs = ds.map vOf ∧ vs.all flatV = true
  | [], vs, A, _, h => by unfold Ows at h; rw [h.1]; exact ⟨rfl, rfl⟩
  | d :: ds, vs, A, f, h => by
    unfold Ows at h
    obtain ⟨v, vs', A1, A2, e1, eA, q, r⟩ := h
    simp only [List.all_cons, Bool.and_eq_true] at f
    obtain ⟨q1, q2⟩ := Ow.flat f.1 q
    obtain ⟨q3, q4⟩ := Ows.flat f.2 r
    subst e1
    rw [List.all_cons, q2, q4, q1, q3]; exact ⟨rfl, rfl⟩
theorem eqV_flat {a b : D} (ha : flatD a = true) (hb : flatD b = true) : eqV (vOf a) (vOf b) = deq a b := by
  cases a <;> (try cases ha) <;> cases b <;> (try cases hb) <;> rfl
def gInT (neg : Bool) : G2 := fun x y R => ∃ ds, y = .tup ds ∧ flatD x = true ∧ ds.all flatD = true ∧ R (.bl (if neg then !ds.any (fun z => deq z x) else ds.any (fun z => deq z x)))
theorem inV_flat {x : D} (hx : flatD x = true) : ∀ {ds : List D}, ds.all flatD = true → inV (vOf x) (ds.map vOf) = ds.any (fun z => deq z x)
  | [], _ => rfl
  | d :: ds, f => by
    simp only [List.all_cons, Bool.and_eq_true] at f
    have ih := inV_flat hx f.2
    unfold inV at ih ⊢
    rw [List.map_cons, List.any_cons, List.any_cons, ih, eqV_flat f.1 hx]
theorem r2_inT (neg : Bool) : R2F K (rIn K neg) (gInT neg) := fun H Z x y u v A1 A2 Q R zo a1 a2 o1 o2 ⟨ds, ey, e1, e2, r⟩ k => by
  subst ey
  unfold Ow at o2
  obtain ⟨p, vs, e, q, r2⟩ := o2
  obtain ⟨q1, q2⟩ := o1.flat e1
  obtain ⟨q3, q4⟩ := r2.flat e2
  refine ⟨p, vs, e, .inr q, q2, q4, k _ _ H Z [] r Gx.refl zo Fr.nil ?_⟩
  rw [q1, q3, inV_flat e1 e2]; exact ow_bl
def isNonD : D → Bool
  | .non => true
  | _ => false
def gIsN : G2 := fun x y R => y = .non ∧ R (.bl (isNonD x))
theorem isN_v {x : D} {u : V} (o1 : Ow K H Z x u A) : decide (u = V.non) = (isNonD x) := by
  cases x with
  | non => unfold Ow at o1; rw [o1.1]; rfl
  | bl b => unfold Ow at o1; rw [o1.1]; rfl
  | int b => unfold Ow at o1; rw [o1.1]; rfl
  | str b => unfold Ow at o1; rw [o1.1]; rfl
  | tup b => unfold Ow at o1; obtain ⟨p, vs, e, _⟩ := o1; rw [e]; rfl
  | lst o b => cases o <;> (unfold Ow at o1; obtain ⟨p, vs, h⟩ := o1; first | (obtain ⟨e, _⟩ := h; rw [e]; rfl) | (obtain ⟨_, e, _⟩ := h; rw [e]; rfl))
  | ins o C fn b => cases o <;> (unfold Ow at o1; obtain ⟨p, dx, vs, h⟩ := o1; first | (obtain ⟨e, _⟩ := h; rw [e]; rfl) | (obtain ⟨_, e, _⟩ := h; rw [e]; rfl))
  | dic o ks b => cases o <;> (unfold Ow at o1; obtain ⟨p, vs, h⟩ := o1; first | (obtain ⟨e, _⟩ := h; rw [e]; rfl) | (obtain ⟨_, e, _⟩ := h; rw [e]; rfl))
  | sh I => unfold Ow at o1; obtain ⟨p, e, _⟩ := o1; rw [e]; rfl
  | scr xs => unfold Ow at o1; obtain ⟨p, e, _⟩ := o1; rw [e]; rfl
theorem r2_isN : R2F K (fun x y H Q => y = .non ∧ Q (.bl (decide (x = .non))) H) gIsN := fun H Z x y u v A1 A2 Q R zo a1 a2 o1 o2 ⟨ey, r⟩ k => by
  subst ey
  exact ⟨o2.non_of, k _ _ H Z [] r Gx.refl zo Fr.nil (by rw [isN_v o1]; exact ow_bl)⟩
def gNotN : G2 := fun x y R => y = .non ∧ R (.bl (!(isNonD x)))
theorem r2_notN : R2F K (fun x y H Q => y = .non ∧ Q (.bl (!decide (x = .non))) H) gNotN := fun H Z x y u v A1 A2 Q R zo a1 a2 o1 o2 ⟨ey, r⟩ k => by
  subst ey
  exact ⟨o2.non_of, k _ _ H Z [] r Gx.refl zo Fr.nil (by rw [isN_v o1]; exact ow_bl)⟩

/-! ### new objects -/
theorem gx_new {p : Addr} {o : HO} (zo : Zo H Z) (h : H p = none) : Gx H Z (upd H p o) Z ∧ Zo (upd H p o) Z := by
  refine ⟨⟨fun q u e _ => by rw [upd_ne (ne_of_none e h)]; exact e, fun _ h => h, fun _ h => ⟨h, rfl⟩, fun _ h => .inl h, fun _ h => .inl h⟩, zo.zd, fun q z => ?_, fun q z => ?_⟩
  · by_cases e : q = p
    · rw [e, upd_same]; exact fun n => nomatch n
    · rw [upd_ne e]; exact zo.zh q z
  · obtain ⟨a, e, b⟩ := zo.dk q z
    exact ⟨a, by rw [upd_ne (ne_of_none e h)]; exact e, b⟩
theorem fr_new {p : Addr} {vs : List V} (zo : Zo H Z) (h : H p = none) : Fr H (upd H p (.lst vs)) Z [p] := by
  refine ⟨List.nodup_cons.mpr ⟨List.not_mem_nil, List.nodup_nil⟩, fun q hq => ?_, fun q hq => ?_, fun q hq => ?_, fun q hq => ?_⟩ <;> (have e := List.mem_singleton.mp hq; subst e)
  · exact fun z => zo.zh _ z h
  · intro z
    obtain ⟨a, e, b⟩ := zo.dk _ z
    rw [h] at e; cases e
  · rw [upd_same]; trivial
  · exact h
/-- a new tuple -/
theorem new_tup {ds : List D} {vs : List V} {p : Addr} (zo : Zo H Z) (ad : ∀ p ∈ A, ¬ Z.di p) (o : Ows K H Z ds vs A) (h : H p = none) : Ow K (upd H p (.tup vs)) Z (.tup ds) (.ref p) A := by
  unfold Ow
  exact ⟨p, vs, rfl, SqT.of upd_same, o.gx zo ad (gx_new zo h).1⟩
/-- a new list -/
theorem new_lst {ds : List D} {vs : List V} {p : Addr} (zo : Zo H Z) (ad : ∀ p ∈ A, ¬ Z.di p) (o : Ows K H Z ds vs A) (h : H p = none) : Ow K (upd H p (.lst vs)) Z (.lst true ds) (.ref p) (p :: A) := by
  unfold Ow
  exact ⟨p, vs, A, rfl, rfl, upd_same, o.gx zo ad (gx_new zo h).1⟩
def dTup (f : DTA) : DTE := fun ρ R X => f ρ (fun ds => ds.length ≤ sizeLine ∧ R (.tup ds)) X
def dLst (f : DTA) : DTE := fun ρ R X => f ρ (fun ds => ds.length ≤ sizeLine ∧ R (.lst true ds)) X
theorem rf_tup {t : TA} {f : DTA} (h : RAF K W t f) : RF K W (tTup t) (dTup f) := fun σ H Z A ρ Q R X w o q k x => by
  refine h σ H Z A ρ _ _ X w o q (fun ds vs H1 Z1 A1 r1 g1 zo1 fr1 ow1 => ⟨by rw [← ow1.len]; exact r1.1, fun p hp => ?_⟩) x
  obtain ⟨g2, zo2⟩ := gx_new (o := .tup vs) zo1 hp
  exact k _ _ _ Z1 A1 r1.2 (g1.trans zo1 g2) zo2 (fr1.gx zo1 g2 zo2) (new_tup zo1 fr1.ad ow1 hp)
theorem re_tup {t : TA} {f : DTA} (h : RA K W t f) : RE K W (tTup t) (dTup f) := fun σ H Z A ρ Q R X w o q k x => by
  refine h σ H Z A ρ _ _ X w o q (fun ds vs H1 Z1 A1 r1 g1 zo1 fr1 ow1 => ⟨by rw [← ow1.len]; exact r1.1, fun p hp => ?_⟩) x
  obtain ⟨g2, zo2⟩ := gx_new (o := .tup vs) zo1 hp
  exact k _ _ _ Z1 A1 r1.2 (g1.trans zo1 g2) zo2 (nd_gx (Ows.mut _ _ _ ow1) fr1 g2) (new_tup zo1 fr1 ow1 hp)
theorem rf_lst {t : TA} {f : DTA} (h : RAF K W t f) : RF K W (tLst t) (dLst f) := fun σ H Z A ρ Q R X w o q k x => by
  refine h σ H Z A ρ _ _ X w o q (fun ds vs H1 Z1 A1 r1 g1 zo1 fr1 ow1 => ⟨by rw [← ow1.len]; exact r1.1, fun p hp => ?_⟩) x
  obtain ⟨g2, zo2⟩ := gx_new (o := .lst vs) zo1 hp
  have f2 : Fr H1 (upd H1 p (.lst vs)) Z1 [p] := fr_new zo1 hp
  refine k _ _ _ Z1 (p :: A1) r1.2 (g1.trans zo1 g2) zo2 ?_ (new_lst zo1 fr1.ad ow1 hp)
  have fa := fr1.app zo1 g1 g2 zo2 f2
  have np : p ∉ A1 := fun hm => (fr1.ak p hm).some_of hp
  exact ⟨List.nodup_cons.mpr ⟨np, fr1.nd⟩, fun q hq => fa.af q (by simp at hq ⊢; exact hq.symm), fun q hq => fa.ad q (by simp at hq ⊢; exact hq.symm), fun q hq => fa.ak q (by simp at hq ⊢; exact hq.symm), fun q hq => fa.nw q (by simp at hq ⊢; exact hq.symm)⟩
/-- a new list of frozen items -/
theorem new_lst0 {ds : List D} {vs : List V} {p : Addr} (zo : Zo H Z) (o : Ows K H Z ds vs []) (h : H p = none) : Gx H Z (upd H p (.lst vs)) Z ∧ Zo (upd H p (.lst vs)) Z ∧ Fr H (upd H p (.lst vs)) Z [p] ∧ Ow K (upd H p (.lst vs)) Z (.lst true ds) (.ref p) [p] :=
  ⟨(gx_new zo h).1, (gx_new zo h).2, fr_new zo h, new_lst zo (fun _ h => nomatch h) o h⟩

/-! ### what may be read as items -/
/-- the items of a list, a tuple, a script -/
def itemsD : D → Option (List D)
  | .lst _ ds => some ds
  | .tup ds => some ds
  | .scr xs => some (xs.map .int)
  | _ => none
/-- as a list (or script) -/
def lstD : D → Option (List D)
  | .lst _ ds => some ds
  | .scr xs => some (xs.map .int)
  | _ => none
theorem Ow.lstD {d : D} {v : V} {ds : List D} (h : Ow K H Z d v A) (e : lstD d = some ds) : ∃ p vs A', v = .ref p ∧ SqL K H p vs ∧ Ows K H Z ds vs A' ∧ (∀ p ∈ A', p ∈ A) := by
  cases d with
  | lst o ds' =>
    have e' : ds' = ds := Option.some.inj e
    subst e'
    cases o with
    | true =>
      unfold Ow at h
      obtain ⟨p, vs, A', e1, eA, q, r⟩ := h
      subst eA
      exact ⟨p, vs, A', e1, SqL.of q, r, fun p hp => List.mem_cons_of_mem _ hp⟩
    | false =>
      unfold Ow at h
      obtain ⟨p, vs, e1, eA, q, z, r⟩ := h
      exact ⟨p, vs, [], e1, SqL.of q, r, fun p hp => nomatch hp⟩
  | scr xs =>
    have e' : xs.map D.int = ds := Option.some.inj e
    subst e'
    unfold Ow at h
    obtain ⟨p, e1, eA, q⟩ := h
    exact ⟨p, _, [], e1, q.seq, ows_ints xs, fun p hp => nomatch hp⟩
  | _ => cases e
theorem Ow.lstT {ds : List D} {v : V} (h : Ow K H Z (.lst true ds) v A) : ∃ p vs A', v = .ref p ∧ A = p :: A' ∧ H p = some (.lst vs) ∧ Ows K H Z ds vs A' := by unfold Ow at h; exact h
theorem Ow.lstF {ds : List D} {v : V} (h : Ow K H Z (.lst false ds) v A) : ∃ p vs, v = .ref p ∧ A = [] ∧ H p = some (.lst vs) ∧ Z.fz p ∧ Ows K H Z ds vs [] := by unfold Ow at h; exact h
theorem Ow.lst_ {o : Bool} {ds : List D} {v : V} (h : Ow K H Z (.lst o ds) v A) : ∃ p vs A', v = .ref p ∧ H p = some (.lst vs) ∧ Ows K H Z ds vs A' ∧ (∀ q ∈ A', q ∈ A) := by
  cases o with
  | true =>
    obtain ⟨p, vs, A', e, eA, q, r⟩ := h.lstT
    subst eA
    exact ⟨p, vs, A', e, q, r, fun p hp => List.mem_cons_of_mem _ hp⟩
  | false =>
    obtain ⟨p, vs, e, eA, q, z, r⟩ := h.lstF
    exact ⟨p, vs, [], e, q, r, fun p hp => nomatch hp⟩
theorem Ow.tup_ {ds : List D} {v : V} (h : Ow K H Z (.tup ds) v A) : ∃ p vs, v = .ref p ∧ SqT K H p vs ∧ Ows K H Z ds vs A := by unfold Ow at h; exact h
theorem Ow.itemsD {d : D} {v : V} {ds : List D} (h : Ow K H Z d v A) (e : itemsD d = some ds) : ∃ p vs A', v = .ref p ∧ (SqL K H p vs ∨ SqT K H p vs) ∧ Ows K H Z ds vs A' ∧ (∀ p ∈ A', p ∈ A) := by
  cases d with
  | lst o ds' =>
    obtain ⟨p, vs, A', e1, q, r, s⟩ := h.lstD (ds := ds) e
    exact ⟨p, vs, A', e1, .inl q, r, s⟩
  | scr xs =>
    obtain ⟨p, vs, A', e1, q, r, s⟩ := h.lstD (ds := ds) e
    exact ⟨p, vs, A', e1, .inl q, r, s⟩
  | tup ds' =>
    have e' : ds' = ds := Option.some.inj e
    subst e'
    obtain ⟨p, vs, e1, q, r⟩ := h.tup_
    exact ⟨p, vs, A, e1, .inr q, r, fun p hp => hp⟩
  | _ => cases e
/-- an item -/
def gIxL : G2 := fun x y R => ∃ ds i d, DL.lstD x = some ds ∧ y = .int i ∧ L2.atI ds i = some d ∧ R d
def gIxT : G2 := fun x y R => ∃ ds i d, x = .tup ds ∧ y = .int i ∧ L2.atI ds i = some d ∧ R d
theorem r2_ixL : R2E K (rIxL K) gIxL := fun H Z x y u v A1 A2 Q R zo a1 a2 o1 o2 ⟨ds, i, d, ex, ey, ea, r⟩ k => by
  subst ey
  obtain ⟨p, vs, A', e1, q, rs, s⟩ := o1.lstD ex
  obtain ⟨z, A3, ez, oz, sz⟩ := rs.atI ea
  exact ⟨p, vs, i, z, e1, o2.int_of, q, ez, k d z H Z A3 r Gx.refl zo (fun p hp => a1 p (s p (sz p hp))) oz⟩
theorem r2_ixT : R2E K (rIxT K) gIxT := fun H Z x y u v A1 A2 Q R zo a1 a2 o1 o2 ⟨ds, i, d, ex, ey, ea, r⟩ k => by
  subst ey ex
  obtain ⟨p, vs, e1, q, rs⟩ := o1.tup_
  obtain ⟨z, A3, ez, oz, sz⟩ := rs.atI ea
  exact ⟨p, vs, i, z, e1, o2.int_of, q, ez, k d z H Z A3 r Gx.refl zo (fun p hp => a1 p (sz p hp)) oz⟩
/-- an item of what may be a list or a tuple -/
def gIx : G2 := fun x y R => ∃ ds i d, itemsD x = some ds ∧ y = .int i ∧ L2.atI ds i = some d ∧ R d
theorem r2_ix : R2E K (fun x y H Q => rIxL K x y H Q ∨ rIxT K x y H Q) gIx := fun H Z x y u v A1 A2 Q R zo a1 a2 o1 o2 ⟨ds, i, d, ex, ey, ea, r⟩ k => by
  subst ey
  obtain ⟨p, vs, A', e1, q, rs, s⟩ := o1.itemsD ex
  obtain ⟨z, A3, ez, oz, sz⟩ := rs.atI ea
  rcases q with q | q
  · exact .inl ⟨p, vs, i, z, e1, o2.int_of, q, ez, k d z H Z A3 r Gx.refl zo (fun p hp => a1 p (s p (sz p hp))) oz⟩
  · exact .inr ⟨p, vs, i, z, e1, o2.int_of, q, ez, k d z H Z A3 r Gx.refl zo (fun p hp => a1 p (s p (sz p hp))) oz⟩

/-! ### list + list, list * int, tuple + tuple -/
theorem Ows.append : ∀ {ds es : List D} {vs us : List V} {A B : List Addr}, Ows K H Z ds vs A → Ows K H Z es us B → Ows K H Z (ds ++ es) (vs ++ us) (A ++ B)
  | [], es, vs, us, A, B, h, q => by unfold Ows at h; obtain ⟨rfl, rfl⟩ := h; exact q
  | d :: ds, es, vs, us, A, B, h, q => by
    unfold Ows at h
    obtain ⟨v, vs', A1, A2, e1, eA, x, r⟩ := h
    subst e1 eA
    rw [List.cons_append, List.cons_append, List.append_assoc]; unfold Ows
    exact ⟨v, vs' ++ us, A1, A2 ++ B, rfl, rfl, x, Ows.append r q⟩
theorem Ows.nil' {ds : List D} {vs : List V} (h : Ows K H Z ds vs A) (f : frzs ds = true) : Ows K H Z ds vs [] := by
  have e := Ows.nil_of ds vs A h f
  rw [e] at h; exact h
theorem frzs_cons (d : D) (ds : List D) : frzs (d :: ds) = (frz d && frzs ds) := by simp [frzs]
theorem frzs_append : ∀ (ds es : List D), frzs (ds ++ es) = (frzs ds && frzs es)
  | [], es => by simp [frzs]
  | d :: ds, es => by rw [List.cons_append, frzs_cons, frzs_cons, frzs_append ds es, Bool.and_assoc]
def gCat : G2 := fun x y R => ∃ o1 o2 ds es, x = .lst o1 ds ∧ y = .lst o2 es ∧ frzs ds = true ∧ frzs es = true ∧ ds.length + es.length ≤ sizeLine ∧ R (.lst true (ds ++ es))
theorem r2_cat : R2F K rCat gCat := fun H Z x y u v A1 A2 Q R zo a1 a2 o1 o2 ⟨p1, p2, ds, es, ex, ey, f1, f2, hl, r⟩ k => by
  subst ex ey
  obtain ⟨p, vs, A', e1, q1, rs1, s1⟩ := o1.lst_
  obtain ⟨p', us, B', e2, q2, rs2, s2⟩ := o2.lst_
  refine ⟨p, p', vs, us, e1, e2, q1, q2, by rw [← rs1.len, ← rs2.len]; exact hl, fun l hn => ?_⟩
  obtain ⟨g, zo2, fr, ow⟩ := new_lst0 zo ((rs1.nil' f1).append (rs2.nil' f2)) hn
  exact k _ _ _ Z _ r g zo2 fr ow
theorem Ows.rep {ds : List D} {vs : List V} (h : Ows K H Z ds vs []) : ∀ n : Nat, Ows K H Z (List.replicate n ds).flatten (List.replicate n vs).flatten []
  | 0 => by simp [Ows]
  | n + 1 => by
    rw [List.replicate_succ, List.replicate_succ, List.flatten_cons, List.flatten_cons]
    exact h.append (Ows.rep h n)
def gRep : G2 := fun x y R => ∃ o ds k, x = .lst o ds ∧ y = .int k ∧ frzs ds = true ∧ -(2 ^ 63) ≤ k ∧ k < 2 ^ 63 ∧ ds.length * k.toNat ≤ sizeLine ∧ R (.lst true (List.replicate k.toNat ds).flatten)
theorem r2_rep : R2F K rRep gRep := fun H Z x y u v A1 A2 Q R zo a1 a2 o1 o2 ⟨p1, ds, n, ex, ey, f1, h1, h2, hl, r⟩ k => by
  subst ex ey
  obtain ⟨p, vs, A', e1, q1, rs1, s1⟩ := o1.lst_
  refine ⟨p, n, vs, e1, o2.int_of, q1, h1, h2, by rw [← rs1.len]; exact hl, fun l hn => ?_⟩
  obtain ⟨g, zo2, fr, ow⟩ := new_lst0 zo ((rs1.nil' f1).rep n.toNat) hn
  exact k _ _ _ Z _ r g zo2 fr ow
def gCatT : G2 := fun x y R => ∃ ds es, x = .tup ds ∧ y = .tup es ∧ frzs ds = true ∧ frzs es = true ∧ ds.length + es.length ≤ sizeLine ∧ R (.tup (ds ++ es))
theorem r2_catT : R2F K (rCatA K) gCatT := fun H Z x y u v A1 A2 Q R zo a1 a2 o1 o2 ⟨ds, es, ex, ey, f1, f2, hl, r⟩ k => by
  subst ex ey
  obtain ⟨p, vs, e1, q1, rs1⟩ := o1.tup_
  obtain ⟨p', us, e2, q2, rs2⟩ := o2.tup_
  have n1 := rs1.nil' f1
  have n2 := rs2.nil' f2
  refine ⟨p, p', vs, us, e1, e2, q1, q2, by rw [← rs1.len, ← rs2.len]; exact hl, fun e => ?_, fun _ e => ?_, fun _ _ l hn => ?_⟩
  · have ed : ds = [] := List.eq_nil_of_length_eq_zero (by rw [rs1.len, e]; rfl)
    subst ed
    exact k _ _ H Z [] r Gx.refl zo Fr.nil (by unfold Ow; exact ⟨p', us, rfl, q2, n2⟩)
  · have ed : es = [] := List.eq_nil_of_length_eq_zero (by rw [rs2.len, e]; rfl)
    subst ed
    exact k _ _ H Z [] r Gx.refl zo Fr.nil (by rw [List.append_nil]; unfold Ow; exact ⟨p, vs, rfl, q1, n1⟩)
  · obtain ⟨g2, zo2⟩ := gx_new (o := .tup (vs ++ us)) zo hn
    exact k _ _ _ Z [] r g2 zo2 Fr.nil (new_tup zo (fun _ h => nomatch h) (n1.append n2) hn)

/-! ### calls of builtins -/
abbrev G1s := List D → (D → Prop) → Prop
def RCF (K : PySem.W.Frag) (r : List V → Hp → VK → Prop) (g : G1s) : Prop :=
  ∀ (H : Hp) (Z : Zn) (ds : List D) (vs : List V) (A1 : List Addr) (Q : VK) (R : D → Prop), Zo H Z → (∀ p ∈ A1, ¬ Z.di p) → Ows K H Z ds vs A1 → g ds R →
    (∀ d z H' Z' A3, R d → Gx H Z H' Z' → Zo H' Z' → Fr H H' Z' A3 → Ow K H' Z' d z A3 → Q z H') → r vs H Q
def dCB (g : G1s) (f : DTA) : DTE := fun ρ R X => f ρ (fun ds => g ds R) X
theorem rf_cb {r : List V → Hp → VK → Prop} {g : G1s} {t : TA} {f : DTA} (hr : RCF K r g) (ha : RA K W t f) : RF K W (tCB r t) (dCB g f) := fun σ H Z A ρ Q R X w o q k x => by
  refine ha σ H Z A ρ _ _ X w o q (fun ds vs H1 Z1 A1 r1 g1 zo1 ad1 ow1 => ?_) x
  refine hr H1 Z1 ds vs A1 Q R zo1 ad1 ow1 r1 fun d3 z H3 Z3 A3 r3 g3 zo3 fr3 ow3 => ?_
  exact k d3 z H3 Z3 A3 r3 (g1.trans zo1 g3) zo3 (fr3.back g1 zo1) ow3
theorem Ows.one {d : D} {vs : List V} (h : Ows K H Z [d] vs A) : ∃ v, vs = [v] ∧ Ow K H Z d v A := by
  unfold Ows at h
  obtain ⟨v, vs', A1, A2, e1, eA, q, r⟩ := h
  unfold Ows at r
  obtain ⟨rfl, rfl⟩ := r
  subst e1 eA
  rw [List.append_nil]
  exact ⟨v, rfl, q⟩
def gLen : G1s := fun ds R => ∃ d xs, ds = [d] ∧ itemsD d = some xs ∧ R (.int xs.length)
theorem rc_len : RCF K (fun xs H Q => ∃ p ys, xs = [.ref p] ∧ (SqL K H p ys ∨ SqT K H p ys) ∧ Q (.int ys.length) H) gLen := fun H Z ds vs A1 Q R zo ad o ⟨d, xs, ed, ei, r⟩ k => by
  subst ed
  obtain ⟨v, ev, ov⟩ := o.one
  obtain ⟨p, ws, A', e1, q, rs, s⟩ := ov.itemsD ei
  subst ev e1
  exact ⟨p, ws, rfl, q, k _ _ H Z [] r Gx.refl zo Fr.nil (by rw [← rs.len]; exact ow_int)⟩
def gLenS : G1s := fun ds R => ∃ z : Str, ds = [.str z] ∧ z.length ≤ sizeLine ∧ R (.int z.length)
theorem rc_lenS : RCF K (fun xs H Q => ∃ x n, xs = [x] ∧ LenV K x H n ∧ Q (.int n) H) gLenS := fun H Z ds vs A1 Q R zo ad o ⟨z, ed, hz, r⟩ k => by
  subst ed
  obtain ⟨v, ev, ov⟩ := o.one
  have e1 := ov.str_of
  subst ev e1
  exact ⟨.str z, z.length, rfl, ⟨hz, rfl⟩, k _ _ H Z [] r Gx.refl zo Fr.nil ow_int⟩
/-- list(x), tuple(x) of frozen items -/
def gList : G1s := fun ds R => ∃ d xs, ds = [d] ∧ itemsD d = some xs ∧ frzs xs = true ∧ R (.lst true xs)
theorem rc_list : RCF K (fun xs H Q => ∃ p ys, xs = [.ref p] ∧ (SqL K H p ys ∨ SqT K H p ys) ∧ ∀ l, H l = none → Q (.ref l) (upd H l (.lst ys))) gList := fun H Z ds vs A1 Q R zo ad o ⟨d, xs, ed, ei, f, r⟩ k => by
  subst ed
  obtain ⟨v, ev, ov⟩ := o.one
  obtain ⟨p, ws, A', e1, q, rs, s⟩ := ov.itemsD ei
  subst ev e1
  refine ⟨p, ws, rfl, q, fun l hl => ?_⟩
  obtain ⟨g, zo2, fr, ow⟩ := new_lst0 zo (rs.nil' f) hl
  exact k _ _ _ Z _ r g zo2 fr ow
def gTuple : G1s := fun ds R => ∃ d xs, ds = [d] ∧ itemsD d = some xs ∧ frzs xs = true ∧ R (.tup xs)
theorem rc_tuple : RCF K (fun xs H Q => ∃ p ys, xs = [.ref p] ∧ ((SqL K H p ys ∧ ∀ l, H l = none → Q (.ref l) (upd H l (.tup ys))) ∨ (SqT K H p ys ∧ Q (.ref p) H))) gTuple := fun H Z ds vs A1 Q R zo ad o ⟨d, xs, ed, ei, f, r⟩ k => by
  subst ed
  obtain ⟨v, ev, ov⟩ := o.one
  obtain ⟨p, ws, A', e1, q, rs, s⟩ := ov.itemsD ei
  subst ev e1
  have n := rs.nil' f
  refine ⟨p, ws, rfl, ?_⟩
  rcases q with q | q
  · refine .inl ⟨q, fun l hl => ?_⟩
    obtain ⟨g2, zo2⟩ := gx_new (o := .tup ws) zo hl
    exact k _ _ _ Z [] r g2 zo2 Fr.nil (new_tup zo (fun _ h => nomatch h) n hl)
  · exact .inr ⟨q, k _ _ H Z [] r Gx.refl zo Fr.nil (by unfold Ow; exact ⟨p, ws, rfl, q, n⟩)⟩
def gInt1 : G1s := fun ds R => (∃ i, ds = [.int i] ∧ R (.int i)) ∨ ∃ k, ds = [.bl k] ∧ R (.int (if k then 1 else 0))
theorem rc_int1 : RCF K (fun xs H Q => (∃ i, xs = [V.int i] ∧ Q (.int i) H) ∨ ∃ k, xs = [.bl k] ∧ Q (.int (if k then 1 else 0)) H) gInt1 := fun H Z ds vs A1 Q R zo ad o h k => by
  rcases h with ⟨i, ed, r⟩ | ⟨i, ed, r⟩
  · subst ed
    obtain ⟨v, ev, ov⟩ := o.one
    have e := ov.int_of
    subst ev e
    exact .inl ⟨i, rfl, k _ _ H Z [] r Gx.refl zo Fr.nil ow_int⟩
  · subst ed
    obtain ⟨v, ev, ov⟩ := o.one
    have e := ov.bl_of
    subst ev e
    exact .inr ⟨i, rfl, k _ _ H Z [] r Gx.refl zo Fr.nil ow_int⟩
def gSorted : G1s := fun ds R => ∃ (d : D) (ns : List Int), ds = [d] ∧ DL.lstD d = some (ns.map .int) ∧ ∀ ns' : List Int, ns'.Perm ns → ns'.Pairwise (· ≤ ·) → R (.lst true (ns'.map .int))
theorem rc_sortedI : RCF K (rSortedI K) gSorted := fun H Z ds vs A1 Q R zo ad o ⟨d, ns, ed, ei, r⟩ k => by
  subst ed
  obtain ⟨v, ev, ov⟩ := o.one
  obtain ⟨p, ws, A', e1, q, rs, s⟩ := ov.lstD ei
  obtain ⟨ew, _⟩ := rs.ints
  subst ev e1 ew
  refine ⟨p, ns, rfl, q, fun ns' l hp hs hl => ?_⟩
  obtain ⟨g, zo2, fr, ow⟩ := new_lst0 zo (ows_ints (K := K) ns') hl
  exact k _ _ _ Z _ (r ns' hp hs) g zo2 fr ow
def gMin : G1s := fun ds R => ∃ (d : D) (ns : List Int), ds = [d] ∧ DL.lstD d = some (ns.map .int) ∧ 0 < ns.length ∧ ∀ m, m ∈ ns → (∀ y, y ∈ ns → m ≤ y) → R (.int m)
def gMax : G1s := fun ds R => ∃ (d : D) (ns : List Int), ds = [d] ∧ DL.lstD d = some (ns.map .int) ∧ 0 < ns.length ∧ ∀ m, m ∈ ns → (∀ y, y ∈ ns → y ≤ m) → R (.int m)
def gSum : G1s := fun ds R => ∃ (d : D) (ns : List Int), ds = [d] ∧ DL.lstD d = some (ns.map .int) ∧ R (.int ns.sum)
theorem rc_min : RCF K (rMin K) gMin := fun H Z ds vs A1 Q R zo ad o ⟨d, ns, ed, ei, h0, r⟩ k => by
  subst ed
  obtain ⟨v, ev, ov⟩ := o.one
  obtain ⟨p, ws, A', e1, q, rs, s⟩ := ov.lstD ei
  obtain ⟨ew, _⟩ := rs.ints
  subst ev e1 ew
  exact ⟨p, ns, rfl, q, h0, fun m hm hy => k _ _ H Z [] (r m hm hy) Gx.refl zo Fr.nil ow_int⟩
theorem rc_max : RCF K (rMax K) gMax := fun H Z ds vs A1 Q R zo ad o ⟨d, ns, ed, ei, h0, r⟩ k => by
  subst ed
  obtain ⟨v, ev, ov⟩ := o.one
  obtain ⟨p, ws, A', e1, q, rs, s⟩ := ov.lstD ei
  obtain ⟨ew, _⟩ := rs.ints
  subst ev e1 ew
  exact ⟨p, ns, rfl, q, h0, fun m hm hy => k _ _ H Z [] (r m hm hy) Gx.refl zo Fr.nil ow_int⟩
theorem rc_sum : RCF K (rSum K) gSum := fun H Z ds vs A1 Q R zo ad o ⟨d, ns, ed, ei, r⟩ k => by
  subst ed
  obtain ⟨v, ev, ov⟩ := o.one
  obtain ⟨p, ws, A', e1, q, rs, s⟩ := ov.lstD ei
  obtain ⟨ew, _⟩ := rs.ints
  subst ev e1 ew
  exact ⟨p, ns, rfl, q, k _ _ H Z [] r Gx.refl zo Fr.nil ow_int⟩
end
end DL
set_option Elab.async false
set_option linter.all false
set_option maxRecDepth 100000
namespace DL
open PySem L2

/-! ### fields -/
def ixF : List Str → Str → Option Nat
  | [], _ => none
  | g :: r, f => if f = g then some 0 else (ixF r f).map (· + 1)
theorem lookup_ix {α : Type} : ∀ {FN : List Str} {vs : List α} {f : Str} {i : Nat}, FN.length = vs.length → ixF FN f = some i → (FN.zip vs).lookup f = vs[i]?
  | [], _, _, _, _, h => by cases h
  | g :: r, [], f, i, hl, h => by cases hl
  | g :: r, v :: vs, f, i, hl, h => by
    unfold ixF at h
    rw [List.zip_cons_cons, List.lookup_cons]
    by_cases e : f = g
    · rw [if_pos e] at h
      cases h
      rw [beq_iff_eq.mpr e]; rfl
    · rw [if_neg e] at h
      rw [beq_eq_false_iff_ne.mpr e]
      cases x : ixF r f with
      | none => rw [x] at h; cases h
      | some j =>
        rw [x] at h
        cases h
        exact lookup_ix (by simpa using hl) x
theorem lookup_no {α : Type} : ∀ {FN : List Str} {vs : List α} {f : Str}, ixF FN f = none → (FN.zip vs).lookup f = none
  | [], _, _, _ => by simp
  | g :: r, [], f, h => by simp
  | g :: r, v :: vs, f, h => by
    unfold ixF at h
    rw [List.zip_cons_cons, List.lookup_cons]
    by_cases e : f = g
    · rw [if_pos e] at h; cases h
    · rw [if_neg e] at h
      rw [beq_eq_false_iff_ne.mpr e]
      exact lookup_no (by simpa using h)
theorem putF_ix : ∀ {FN : List Str} {vs : List V} {f : Str} {i : Nat} {v : V}, FN.length = vs.length → ixF FN f = some i → putF f v (FN.zip vs) = FN.zip (vs.set i v)
  | [], _, _, _, _, _, h => by cases h
  | g :: r, [], f, i, v, hl, h => by cases hl
  | g :: r, u :: vs, f, i, v, hl, h => by
    unfold ixF at h
    rw [List.zip_cons_cons]
    show (if g = f then (g, v) :: r.zip vs else (g, u) :: putF f v (r.zip vs)) = _
    by_cases e : f = g
    · rw [if_pos e] at h
      cases h
      rw [if_pos e.symm]; rfl
    · rw [if_neg e] at h
      rw [if_neg (fun q => e q.symm)]
      cases x : ixF r f with
      | none => rw [x] at h; cases h
      | some j =>
        rw [x] at h
        cases h
        rw [putF_ix (by simpa using hl) x]; rfl
theorem putF_new : ∀ {FN : List Str} {vs : List V} {f : Str} {v : V}, FN.length = vs.length → ixF FN f = none → putF f v (FN.zip vs) = (FN ++ [f]).zip (vs ++ [v])
  | [], [], _, _, _, _ => rfl
  | [], _ :: _, _, _, h, _ => by cases h
  | g :: r, [], f, v, hl, h => by cases hl
  | g :: r, u :: vs, f, v, hl, h => by
    unfold ixF at h
    rw [List.zip_cons_cons]
    show (if g = f then (g, v) :: r.zip vs else (g, u) :: putF f v (r.zip vs)) = _
    by_cases e : f = g
    · rw [if_pos e] at h; cases h
    · rw [if_neg e] at h
      rw [if_neg (fun q => e q.symm), putF_new (by simpa using hl) (by simpa using h)]; rfl

section
variable {K : PySem.W.Frag} {W : WX} {H H' H1 H2 : Hp} {Z Z' Z1 Z2 : Zn} {A A' A1 A2 B : List Addr}
theorem Ow.ins_ {o : Bool} {C : Addr} {FN : List Str} {ds : List D} {v : V} (h : Ow K H Z (.ins o C FN ds) v A) : ∃ p dx vs A', v = .ref p ∧ H p = some (.ins C dx (FN.zip vs)) ∧ FN.length = vs.length ∧ Ows K H Z ds vs A' ∧ ∀ q ∈ A', q ∈ A := by
  cases o with
  | true =>
    unfold Ow at h
    obtain ⟨p, dx, vs, A', e, eA, q, l, r⟩ := h
    subst eA
    exact ⟨p, dx, vs, A', e, q, l, r, fun p hp => List.mem_cons_of_mem _ hp⟩
  | false =>
    unfold Ow at h
    obtain ⟨p, dx, vs, e, eA, q, z, l, r⟩ := h
    exact ⟨p, dx, vs, [], e, q, l, r, fun p hp => nomatch hp⟩
theorem Ow.insT {C : Addr} {FN : List Str} {ds : List D} {v : V} (h : Ow K H Z (.ins true C FN ds) v A) : ∃ p dx vs A', v = .ref p ∧ A = p :: A' ∧ H p = some (.ins C dx (FN.zip vs)) ∧ FN.length = vs.length ∧ Ows K H Z ds vs A' := by unfold Ow at h; exact h
def dFld (C : Addr) (FN : List Str) (i : Nat) (fo : DTE) : DTE := fun ρ R X => fo ρ (fun d => ∃ o ds x, d = .ins o C FN ds ∧ ds[i]? = some x ∧ R x) X
theorem re_fld {C : Addr} {FN : List Str} {i : Nat} {f : Str} {to : TE} {fo : DTE} (h : RE K W to fo) (hi : ixF FN f = some i) (c : Cls K C) (n : NoAttr K C f) : RE K W (tFld K to f) (dFld C FN i fo) := fun σ H Z A ρ Q R X w o q k x => by
  refine h σ H Z A ρ _ _ X w o q (fun d v H1 Z1 A1 r1 g1 zo1 ad1 ow1 => ?_) x
  obtain ⟨ob, ds, y, ed, ey, r⟩ := r1
  subst ed
  obtain ⟨p, dx, vs, A', ev, hp, hl, rs, s⟩ := ow1.ins_
  obtain ⟨u, A3, eu, ou, su⟩ := rs.get ey
  exact ⟨p, C, dx, _, u, ev, hp, c, n, by rw [lookup_ix hl hi, eu], k y u H1 Z1 A3 r g1 zo1 (fun q hq => ad1 q (s q (su q hq))) ou⟩

/-! ### the promises of defs, by data -/
abbrev DSp := List D → (D → Prop) → XP → Prop
abbrev DSpM := D → List D → (D → D → Prop) → XP → Prop
/-- a def that changes nothing of its arguments -/
def liftP (K : PySem.W.Frag) (sp : DSp) : Sp := fun vs H Q E => ∃ (Z : Zn) (ds : List D) (R : D → Prop) (X : XP), Zo H Z ∧ Ows K H Z ds vs [] ∧ sp ds R X ∧
  (∀ r v H' Z' A1, R r → Gx H Z H' Z' → Zo H' Z' → Fr H H' Z' A1 → Ow K H' Z' r v A1 → Q v H') ∧ (∀ C H' Z', X C → Gx H Z H' Z' → Zo H' Z' → E (.ref C) none H')
/-- a def that may change its first argument -/
def liftM (K : PySem.W.Frag) (sp : DSpM) : Sp := fun vs H Q E => ∃ (Z : Zn) (A : List Addr) (d0 : D) (v0 : V) (ds : List D) (vs' : List V) (R : D → D → Prop) (X : XP), vs = v0 :: vs' ∧ Wo H Z A ∧ Ow K H Z d0 v0 A ∧ Ows K H Z ds vs' [] ∧ sp d0 ds R X ∧
  (∀ r d0' v H' Z' A1 A0', R r d0' → Go H Z A H' Z' (A1 ++ A0') → Wo H' Z' (A1 ++ A0') → Ow K H' Z' r v A1 → Ow K H' Z' d0' v0 A0' → Q v H') ∧ (∀ C H' Z' A', X C → Go H Z A H' Z' A' → Wo H' Z' A' → E (.ref C) none H')

/-- what is handed over is frozen for the call -/
def Zc (Z : Zn) (A : List Addr) : Zn := ⟨fun p => Z.fz p ∨ p ∈ A, Z.di, Z.iv⟩
theorem zo_c (zo : Zo H Z) (ad : ∀ p ∈ A, ¬ Z.di p) (ak : ∀ p ∈ A, MutO (H p)) : Zo H (Zc Z A) :=
  ⟨fun p h => h.elim (zo.zd p) (ad p), fun p h => h.elim (zo.zh p) fun h => (ak p h).some_of, zo.dk⟩
theorem gx_c0 (g : Gx H (Zc Z []) H' Z') : Gx H Z H' Z' := ⟨g.kp, fun p h => g.zf p (.inl h), g.zd, fun p h => (g.nf p h).imp (fun h => h.elim id fun h => nomatch h) id, g.nd⟩
/-- back from a call: only what was frozen ahead of it -/
theorem gx_back (g : Gx H (Zc Z A) H' Z') : Gx H Z H' ⟨Z.fz, Z'.di, Z'.iv⟩ := ⟨g.kp, fun p h => h, g.zd, fun p h => .inl h, g.nd⟩
theorem zo_back (zo : Zo H Z) (zo' : Zo H' Z') (g : Gx H (Zc Z A) H' Z') : Zo H' ⟨Z.fz, Z'.di, Z'.iv⟩ :=
  ⟨fun p h => zo'.zd p (g.zf p (.inl h)), fun p h => g.there zo' (zo.zh p h), zo'.dk⟩
def dCall (sp : DSp) (f : DTA) : DTE := fun ρ R X => f ρ (fun ds => sp (fzs ds) (fun r => (frzs ds = true ∨ noL r = true) ∧ R r) X) X
theorem call_core {sp : DSp} {ds : List D} {vs : List V} {R : D → Prop} {X : XP} {Q : VK} {E : XK} (zo : Zo H Z) (ad : ∀ p ∈ A, ¬ Z.di p) (o : Ows K H Z ds vs A)
    (h : sp (fzs ds) (fun r => (frzs ds = true ∨ noL r = true) ∧ R r) X) (k : ∀ d v H' Z' A1, R d → Gx H Z H' Z' → Zo H' Z' → Fr H H' Z' A1 → Ow K H' Z' d v A1 → Q v H')
    (x : ∀ C H' Z', X C → Gx H Z H' Z' → Zo H' Z' → E (.ref C) none H') : liftP K sp vs H Q E := by
  have ak := Ows.mut _ _ _ o
  refine ⟨Zc Z A, fzs ds, _, X, zo_c zo ad ak, Ows.frozen ds vs A o ⟨fun p h => .inl h, fun p h => ⟨h, rfl⟩, fun p h => .inr h⟩, h, fun r v H' Z' A1 hr g zo' fr ow => ?_, fun C H' Z' hx g zo' => x C H' _ hx (gx_back g) (zo_back zo zo' g)⟩
  rcases hr with ⟨hf | hn, hr⟩
  · have e := Ows.nil_of ds vs A o hf
    subst e
    exact k r v H' Z' A1 hr (gx_c0 g) zo' fr ow
  · refine k r v H' ⟨Z.fz, Z'.di, Z'.iv⟩ A1 hr (gx_back g) (zo_back zo zo' g) ⟨fr.nd, fun p hp h => ?_, fr.ad, fr.ak, fr.nw⟩ (Ow.zone r v A1 hn ow)
    exact zo.zh p h (fr.nw p hp)
theorem rf_call {sp : DSp} {t : TA} {f : DTA} (h : RA K W t f) : RF K W (tCallS (liftP K sp) (WE W) t) (dCall sp f) := fun σ H Z A ρ Q R X w o q k x => by
  refine h σ H Z A ρ _ _ X w o q (fun ds vs H1 Z1 A1 r1 g1 zo1 ad1 ow1 => ?_) x
  refine call_core zo1 ad1 ow1 r1 (fun d v H' Z' A2 r g zo fr ow => k d v H' Z' A2 r (g1.trans zo1 g) zo (fr.back g1 zo1) ow) fun C H' Z' hx g zo => x C H' Z' hx (g1.trans zo1 g) zo
def tCallS0 (sp : Sp) (E : St → XK) : TE := fun σ H Q => sp [] H Q (E σ)
/-- o.m(..), what is raised wished for at the slots -/
def tMethS (C : Addr) (m : Str) (sp : Sp) (E : St → XK) (ta : TE) (t : TA) : TE := fun σ H Q => ta σ H fun x H1 => ∃ a dx fs, x = .ref a ∧ H1 a = some (.ins C dx fs) ∧ fs.lookup m = none ∧ t σ H1 fun vs H2 => sp (x :: vs) H2 Q (E σ)
def tMakeS (C : Addr) (sp : Sp) (E : St → XK) (t : TA) : TE := fun σ H Q => t σ H fun vs H1 => ∀ x dx, H1 x = none → H1 dx = none → dx ≠ x →
  sp (.ref x :: vs) (upd (upd H1 dx (.own x)) x (.ins C dx [])) (fun v H2 => v = .non ∧ Q (.ref x) H2) (E σ)
def dMeth (C : Addr) (FN : List Str) (sp : DSp) (fo : DTE) (f : DTA) : DTE := fun ρ R X => fo ρ (fun d0 => (∃ o ds0, d0 = .ins o C FN ds0) ∧ f ρ (fun ds => sp (fzs (d0 :: ds)) (fun r => (frzs (d0 :: ds) = true ∨ noL r = true) ∧ R r) X) X) X
theorem rf_meth {C : Addr} {FN : List Str} {m : Str} {sp : DSp} {to : TE} {fo : DTE} {t : TA} {f : DTA} (hm : ixF FN m = none) (ho : RE K W to fo) (h : RA K W t f) : RF K W (tMethS C m (liftP K sp) (WE W) to t) (dMeth C FN sp fo f) := fun σ H Z A ρ Q R X w o q k x => by
  refine ho σ H Z A ρ _ _ X w o q (fun d0 v0 H1 Z1 A1 r1 g1 zo1 ad1 ow1 => ?_) x
  obtain ⟨⟨ob, ds0, ed⟩, r1⟩ := r1
  subst ed
  obtain ⟨p, dx, vs, A', ev, hp, hl, rs, s⟩ := ow1.ins_
  refine ⟨p, dx, _, ev, hp, lookup_no hm, ?_⟩
  refine h σ H1 Z1 A ρ _ _ X (w.gx g1 zo1) (o.gx w g1) r1 (fun ds us H2 Z2 A2 r2 g2 zo2 ad2 ow2 => ?_) fun C H' Z' xc g' zo' => x C H' Z' xc (g1.trans zo1 g') zo'
  have g3 := g1.trans zo1 g2
  have oA : Ows K H2 Z2 (D.ins ob C FN ds0 :: ds) (v0 :: us) (A1 ++ A2) := by
    unfold Ows
    exact ⟨v0, us, A1, A2, rfl, rfl, ow1.gx zo1 ad1 g2, ow2⟩
  refine call_core zo2 (fun p hp => ?_) oA r2 (fun d v H' Z' A2 r g zo fr ow => k d v H' Z' A2 r (g3.trans zo2 g) zo (fr.back g3 zo2) ow) fun C H' Z' hx g zo => x C H' Z' hx (g3.trans zo2 g) zo
  rcases List.mem_append.mp hp with hp | hp
  · exact nd_gx (Ow.mut _ _ _ ow1) ad1 g2 p hp
  · exact ad2 p hp
def dMake (C : Addr) (sp : DSpM) (f : DTA) : DTE := fun ρ R X => f ρ (fun ds => frzs ds = true ∧ sp (.ins true C [] []) ds (fun r d0 => r = .non ∧ R d0) X) X
theorem rf_make {C : Addr} {sp : DSpM} {t : TA} {f : DTA} (h : RA K W t f) : RF K W (tMakeS C (liftM K sp) (WE W) t) (dMake C sp f) := fun σ H Z A ρ Q R X w o q k x => by
  refine h σ H Z A ρ _ _ X w o q (fun ds vs H1 Z1 A1 r1 g1 zo1 ad1 ow1 => fun p dx hp hdx ne => ?_) x
  obtain ⟨f1, r1⟩ := r1
  have o1 := ow1.nil' f1
  obtain ⟨ga, zoa⟩ := gx_new (o := .own p) zo1 hdx
  have hp2 : upd H1 dx (.own p) p = none := by rw [upd_ne (Ne.symm ne)]; exact hp
  obtain ⟨gb, zob⟩ := gx_new (o := .ins C dx []) zoa hp2
  have g2 := ga.trans zoa gb
  have frp : Fr H1 (upd (upd H1 dx (.own p)) p (.ins C dx [])) Z1 [p] := by
    refine ⟨List.nodup_cons.mpr ⟨List.not_mem_nil, List.nodup_nil⟩, fun q hq => ?_, fun q hq => ?_, fun q hq => ?_, fun q hq => ?_⟩ <;> (have e := List.mem_singleton.mp hq; subst e)
    · exact fun z => zo1.zh _ z hp
    · intro z
      obtain ⟨a, e, b⟩ := zo1.dk _ z
      rw [hp] at e; cases e
    · rw [upd_same]; trivial
    · exact hp
  have wN := frp.wo zob
  refine ⟨Z1, [p], .ins true C [] [], .ref p, ds, vs, _, X, rfl, wN, ?_, o1.gx zo1 (fun _ h => nomatch h) g2, r1, fun r d0' v H' Z' A2 A0' hr g w' ow ow0 => ?_, fun C' H' Z' A' hx g w' => ?_⟩
  · unfold Ow
    exact ⟨p, dx, [], [], rfl, rfl, upd_same, rfl, by unfold Ows; exact ⟨rfl, rfl⟩⟩
  · obtain ⟨er, hr⟩ := hr
    subst er
    refine ⟨ow.non_of, ?_⟩
    have new : ∀ q, q ∈ [p] → H1 q = none := fun q hq => by rw [List.mem_singleton.mp hq]; exact hp
    have gz : Gx H1 Z1 H' Z' := by
      refine ⟨fun q u e d => ?_, g.zf, g.zd, fun q h => ?_, fun q h => ?_⟩
      · have hq : q ∉ [p] := fun hq => by rw [new q hq] at e; cases e
        exact g.kp q u (g2.kp q u e d) hq d
      · rcases g.nf q h with h | h | h
        · exact .inl h
        · exact .inr (new q h)
        · exact .inr (g2.none_of zob h)
      · rcases g.nd q h with h | h
        · exact .inl h
        · exact .inr (g2.none_of zob h)
    have w0 : Wo H' Z' A0' := w'.sub (List.nodup_append.mp w'.nd).2.1 fun q hq => List.mem_append_right _ hq
    refine k d0' (.ref p) H' Z' A0' hr (g1.trans zo1 gz) w'.zo (Fr.back (w0.fr fun q hq => ?_) g1 zo1) ow0
    rcases g.na q (List.mem_append_right _ hq) with h | h
    · exact new q h
    · exact g2.none_of zob h
  · refine x C' H' Z' hx (g1.trans zo1 ⟨fun q u e d => ?_, g.zf, g.zd, fun q h => ?_, fun q h => ?_⟩) w'.zo
    · have hq : q ∉ [p] := fun hq => by rw [List.mem_singleton.mp hq, hp] at e; cases e
      exact g.kp q u (g2.kp q u e d) hq d
    · rcases g.nf q h with h | h | h
      · exact .inl h
      · rw [List.mem_singleton.mp h]; exact .inr hp
      · exact .inr (g2.none_of zob h)
    · rcases g.nd q h with h | h
      · exact .inl h
      · exact .inr (g2.none_of zob h)

/-! ### slices -/
abbrev DTO := DEnv → (Option Int → Prop) → XP → Prop
def RO (K : PySem.W.Frag) (W : WX) (t : TO) (f : DTO) : Prop :=
  ∀ (σ : St) (H : Hp) (Z : Zn) (A : List Addr) (ρ : DEnv) (Q : Option Int → Hp → Prop) (R : Option Int → Prop) (X : XP), Wo H Z A → Os K H Z ρ σ A → f ρ R X →
    (∀ b H' Z', R b → Gx H Z H' Z' → Zo H' Z' → Q b H') → (∀ C H' Z', X C → Gx H Z H' Z' → Zo H' Z' → W (.ref C) none σ H') → t σ H Q
def dNoPart : DTO := fun _ R _ => R none
def dPart (f : DTE) : DTO := fun ρ R X => f ρ (fun d => ∃ i, d = .int i ∧ R (some i)) X
theorem ro_none : RO K W tNoPart dNoPart := fun σ H Z A ρ Q R X w o q k _ => k none H Z q Gx.refl w.zo
theorem ro_some {t : TE} {f : DTE} (h : RE K W t f) : RO K W (tPart t) (dPart f) := fun σ H Z A ρ Q R X w o q k x => by
  refine h σ H Z A ρ _ _ X w o q (fun d v H1 Z1 A1 r1 g1 zo1 ad1 ow1 => ?_) x
  obtain ⟨i, rfl, r⟩ := r1
  exact ⟨i, ow1.int_of, k _ H1 Z1 r g1 zo1⟩
def cutA {α : Type} (xs : List α) (lo hi : Option Int) : List α := (xs.drop (HT.sIx xs.length 0 lo)).take (HT.sIx xs.length xs.length hi - HT.sIx xs.length 0 lo)
theorem Ows.drop : ∀ {ds : List D} {vs : List V} (n : Nat), Ows K H Z ds vs [] → Ows K H Z (ds.drop n) (vs.drop n) []
  | ds, vs, 0, h => h
  | [], vs, n + 1, h => by unfold Ows at h; rw [h.1]; simp [Ows]
  | d :: ds, vs, n + 1, h => by
    unfold Ows at h
    obtain ⟨v, vs', A1, A2, e1, eA, q, r⟩ := h
    obtain ⟨rfl, rfl⟩ := List.append_eq_nil_iff.mp eA.symm
    subst e1
    exact Ows.drop n r
theorem Ows.take : ∀ {ds : List D} {vs : List V} (n : Nat), Ows K H Z ds vs [] → Ows K H Z (ds.take n) (vs.take n) []
  | ds, vs, 0, h => by simp [Ows]
  | [], vs, n + 1, h => by unfold Ows at h; rw [h.1]; simp [Ows]
  | d :: ds, vs, n + 1, h => by
    unfold Ows at h
    obtain ⟨v, vs', A1, A2, e1, eA, q, r⟩ := h
    obtain ⟨rfl, rfl⟩ := List.append_eq_nil_iff.mp eA.symm
    subst e1
    rw [List.take_succ_cons, List.take_succ_cons]; unfold Ows
    exact ⟨v, _, [], [], rfl, rfl, q, Ows.take n r⟩
theorem Ows.cut {ds : List D} {vs : List V} (h : Ows K H Z ds vs []) (lo hi : Option Int) : Ows K H Z (cutA ds lo hi) (cutV vs lo hi) [] := by
  unfold cutA cutV
  rw [← h.len]
  exact (h.drop _).take _
def dSlL (fe : DTE) (fl fh : DTO) : DTE := fun ρ R X => fe ρ (fun d => ∃ ds, DL.lstD d = some ds ∧ frzs ds = true ∧ fl ρ (fun lo => fh ρ (fun hi => R (.lst true (cutA ds lo hi))) X) X) X
theorem rf_slL {te : TE} {tl th : TO} {fe : DTE} {fl fh : DTO} (he : RE K W te fe) (hl : RO K W tl fl) (hh : RO K W th fh) : RF K W (tSl (rSlL K) te tl th) (dSlL fe fl fh) := fun σ H Z A ρ Q R X w o q k x => by
  refine he σ H Z A ρ _ _ X w o q (fun d v H1 Z1 A1 r1 g1 zo1 ad1 ow1 => ?_) x
  obtain ⟨ds, ed, f, r1⟩ := r1
  have w1 := w.gx g1 zo1
  refine hl σ H1 Z1 A ρ _ _ X w1 (o.gx w g1) r1 (fun lo H2 Z2 r2 g2 zo2 => ?_) fun C H' Z' xc g' zo' => x C H' Z' xc (g1.trans zo1 g') zo'
  refine hh σ H2 Z2 A ρ _ _ X (w1.gx g2 zo2) ((o.gx w g1).gx w1 g2) r2 (fun hi H3 Z3 r3 g3 zo3 => ?_) fun C H' Z' xc g' zo' => x C H' Z' xc ((g1.trans zo1 g2).trans zo2 g') zo'
  obtain ⟨p, vs, A', e1, q1, rs, s⟩ := ((ow1.gx zo1 ad1 g2).gx zo2 (nd_gx (Ow.mut _ _ _ ow1) ad1 g2) g3).lstD ed
  refine ⟨p, vs, e1, q1, fun l hn => ?_⟩
  obtain ⟨g, zo4, fr, ow⟩ := new_lst0 zo3 ((rs.nil' f).cut lo hi) hn
  have g0 := (g1.trans zo1 g2).trans zo2 g3
  exact k _ _ _ Z3 _ r3 (g0.trans zo3 g) zo4 (fr.back g0 zo3) ow
def dSlT (fe : DTE) (fl fh : DTO) : DTE := fun ρ R X => fe ρ (fun d => ∃ ds, d = .tup ds ∧ frzs ds = true ∧ fl ρ (fun lo => fh ρ (fun hi => R (.tup (cutA ds lo hi))) X) X) X
theorem rf_slT {te : TE} {tl th : TO} {fe : DTE} {fl fh : DTO} (he : RE K W te fe) (hl : RO K W tl fl) (hh : RO K W th fh) : RF K W (tSl (rSlA K) te tl th) (dSlT fe fl fh) := fun σ H Z A ρ Q R X w o q k x => by
  refine he σ H Z A ρ _ _ X w o q (fun d v H1 Z1 A1 r1 g1 zo1 ad1 ow1 => ?_) x
  obtain ⟨ds, ed, f, r1⟩ := r1
  subst ed
  have w1 := w.gx g1 zo1
  refine hl σ H1 Z1 A ρ _ _ X w1 (o.gx w g1) r1 (fun lo H2 Z2 r2 g2 zo2 => ?_) fun C H' Z' xc g' zo' => x C H' Z' xc (g1.trans zo1 g') zo'
  refine hh σ H2 Z2 A ρ _ _ X (w1.gx g2 zo2) ((o.gx w g1).gx w1 g2) r2 (fun hi H3 Z3 r3 g3 zo3 => ?_) fun C H' Z' xc g' zo' => x C H' Z' xc ((g1.trans zo1 g2).trans zo2 g') zo'
  obtain ⟨p, vs, e1, q1, rs⟩ := ((ow1.gx zo1 ad1 g2).gx zo2 (nd_gx (Ow.mut _ _ _ ow1) ad1 g2) g3).tup_
  have n := rs.nil' f
  have g0 := (g1.trans zo1 g2).trans zo2 g3
  refine ⟨p, vs, e1, q1, fun e => ?_, fun _ l hn => ?_⟩
  · have ec : cutA ds lo hi = ds := by
      rw [← n.len] at e
      unfold cutA
      rw [e.1, e.2]; simp
    rw [ec] at r3
    exact k _ _ H3 Z3 [] r3 g0 zo3 Fr.nil (by unfold Ow; exact ⟨p, vs, rfl, q1, n⟩)
  · obtain ⟨g2', zo4⟩ := gx_new (o := .tup (cutV vs lo hi)) zo3 hn
    exact k _ _ _ Z3 [] r3 (g0.trans zo3 g2') zo4 Fr.nil (new_tup zo3 (fun _ h => nomatch h) (n.cut lo hi) hn)
end

/-! ### calls whose errors are wished for at the slots -/
section
variable {X : Cx} {CX : CXT} {k : Nat} {f C : Addr} {fd : FuncData} {ps : List Str} {sp : Sp} {E : St → XK} {x m : Str} {p pos apos : Pos} {e o : Expr} {es : List Expr} {ta : TE} {t : TA}
theorem pe_methSx {pl : Sem Bool} (he : PE X o ta) (c : Cls X.K C) (hm : Meth X.K C m f) (F : FnOk X.prog X.w X.K X.mg X.base CX k f fd ps sp) (hr : Room k X.A) (hb : Binds X.K fd ps []) (hx : ∀ σ, PassesAt CX X σ (E σ)) (ha : PA X (e :: es) t)
    (hst : starEach (e :: es) X.env = (false, eval e X.env) :: starEach es X.env := by rfl) (hpl : (backTo pos (starEach es X.env)).any (·.1) = false := by rfl)
    (ht : eval (.Call (.Attribute o m apos) (e :: es) [] pos) X.env = (do
      let ov ← eval o X.env
      standAt apos.atName
      let (f, first) ← holding [ov] (getMethod ov m pl)
      callWith pos f first (backTo pos (starEach (e :: es) X.env)) (backToKw pos (keywordEach [] X.env))) := by rfl) :
    PE X (.Call (.Attribute o m apos) (e :: es) [] pos) (tMethS C m sp E ta t) := by
  refine ⟨fun pins s σ H Q I h => ?_⟩
  refine PySem.W.methodCall_KW (pl := pl) (thn (he.run pins s σ H _ I h) fun u s1 ⟨x, H1, I1, rx, a, dx, fs, ex, ea, l, q⟩ => ?_) ht
  subst ex
  obtain rfl : u = Value.ref a := rx
  refine getmeth_ok I1 ea c hm l ?_
  refine PySem.W.callWith_K (first := [.ref a]) (h₀ := X.base) I.ok.mod.kin hm.kp (thn (ha.run pos pins s1 σ H1 _ I1 q) fun us s2 ⟨vs, H2, I2, r, q2⟩ => ⟨I2.kIn, ?_⟩) hst hpl
  exact run_fnS (us := .ref a :: us) (vs := .ref a :: vs) F hr hb (hx σ) I2 (.cons rfl r) q2
theorem pe_methSx0 {pl : Sem Bool} (he : PE X o ta) (c : Cls X.K C) (hm : Meth X.K C m f) (F : FnOk X.prog X.w X.K X.mg X.base CX k f fd ps sp) (hr : Room k X.A) (hb : Binds X.K fd ps []) (hx : ∀ σ, PassesAt CX X σ (E σ))
    (ht : eval (.Call (.Attribute o m apos) [] [] pos) X.env = (do
      let ov ← eval o X.env
      standAt apos.atName
      let (f, first) ← holding [ov] (getMethod ov m pl)
      callWith pos f first (backTo pos (starEach [] X.env)) (backToKw pos (keywordEach [] X.env))) := by rfl) :
    PE X (.Call (.Attribute o m apos) [] [] pos) (tMethS C m sp E ta tNil) := by
  refine ⟨fun pins s σ H Q I h => ?_⟩
  refine PySem.W.methodCall_KW (pl := pl) (thn (he.run pins s σ H _ I h) fun u s1 ⟨x, H1, I1, rx, a, dx, fs, ex, ea, l, q⟩ => ?_) ht
  subst ex
  obtain rfl : u = Value.ref a := rx
  refine getmeth_ok I1 ea c hm l ?_
  exact PySem.W.callWith_K0 (first := [.ref a]) I1.kIn hm.kp (run_fnS (us := [.ref a]) (vs := [.ref a]) F hr hb (hx σ) I1 (.cons rfl .nil) q)
theorem pe_callS0 (F : FnOk X.prog X.w X.K X.mg X.base CX k f fd ps sp) (hr : Room k X.A) (hg : Gl X x) (hm : X.mg x = some (.ref f)) (hk : PySem.W.keepIn X.K (.ref f) = true) (hb : Binds X.K fd ps []) (hx : ∀ σ, PassesAt CX X σ (E σ))
    (hdb : (x == ("__debug__" : Str)) = false := by decide) : PE X (.Call (.Name x p) [] [] pos) (tCallS sp E tNil) := by
  refine ⟨fun pins s σ H Q I h => ?_⟩
  refine wpAny_Call_Name_kw (ld_glob I hg hm ?_ hdb)
  exact PySem.W.callWith_K0 I.kIn hk (run_fnS (us := []) F hr hb (hx σ) I .nil h)
theorem run_makeSx {pins : List (Addr × Obj)} {σ : St} {H : Hp} {s : Shared} {Q : VK} {us : List Value} {vs : List V} (M : Mk X.K C f) (F : FnOk X.prog X.w X.K X.mg X.base CX k f fd ps sp) (hr : Room (k + 1) X.A) (hb : Binds X.K fd ps [])
    (hx : PassesAt CX X σ (E σ)) (I : Inv X pins σ H s) (r : Vals vs us)
    (h : ∀ x dx, H x = none → H dx = none → dx ≠ x → sp (.ref x :: vs) (upd (upd H dx (.own x)) x (.ins C dx [])) (fun v H2 => v = .non ∧ Q (.ref x) H2) (E σ)) :
    wpAny (model X.prog X.w) X.A (call (.ref C) us) (EP X pins σ Q) X.xe s := by
  have hq := h (s.heap.objs.size + 1) s.heap.objs.size (I.hok.fresh (Nat.le_succ _)) (I.hok.fresh (Nat.le_refl _)) (Nat.ne_of_lt (Nat.lt_succ_self _))
  have I2 := Inv.made (C := C) I
  have r2 : Vals (V.ref (s.heap.objs.size + 1) :: vs) (Value.ref (s.heap.objs.size + 1) :: us) := .cons rfl r
  have hl : (Value.ref (s.heap.objs.size + 1) :: us).length = ps.length := by
    have e := r2.length
    rw [F.len _ _ _ _ hq] at e
    exact e.symm
  have bb := hb _ (Value.ref (s.heap.objs.size + 1) :: us) I2.kIn (by rw [List.append_nil]; exact hl)
  rw [List.append_nil] at bb
  refine wpAny_call (make_map (f := f) I.kIn M.makes M.init (beq_iff_eq.mp M.fn) (codeAny_mono (F.run _ X.stack _ _ ⟨Value.ref (s.heap.objs.size + 1) :: us, []⟩ (Value.ref (s.heap.objs.size + 1) :: us) _ _ (E σ) (hr.make C us [])
    (I2.env0.make C us []) bb r2 hq) fun r s' hq' => ?_))
  cases r with
  | error e => exact hx pins _ _ e s' I2 hq'
  | ok fl =>
    cases fl with
    | ret u =>
      obtain ⟨v, H', I3, rv, ev, q3⟩ := I2.after hq'
      subst ev
      exact ⟨rv, ⟨V.ref (s.heap.objs.size + 1), H', I3, rfl, q3⟩⟩
    | next => exact False.elim hq'
    | brk => exact False.elim hq'
    | cont => exact False.elim hq'
theorem pe_makeSx (M : Mk X.K C f) (F : FnOk X.prog X.w X.K X.mg X.base CX k f fd ps sp) (hr : Room (k + 1) X.A) (hg : Gl X x) (hm : X.mg x = some (.ref C)) (hb : Binds X.K fd ps []) (hx : ∀ σ, PassesAt CX X σ (E σ))
    (ha : PA X (e :: es) t) (hdb : (x == ("__debug__" : Str)) = false := by decide) (he : starEach (e :: es) X.env = (false, eval e X.env) :: starEach es X.env := by rfl) (hpl : (backTo pos (starEach es X.env)).any (·.1) = false := by rfl) :
    PE X (.Call (.Name x p) (e :: es) [] pos) (tMakeS C sp E t) := by
  refine ⟨fun pins s σ H Q I h => ?_⟩
  refine wpAny_Call_Name_kw (ld_glob I hg hm ?_ hdb)
  refine PySem.W.callWith_K (h₀ := X.base) I.ok.mod.kin M.kp (thn (ha.run pos pins s σ H _ I h) fun us s1 ⟨vs, H1, I1, r, q⟩ => ⟨I1.kIn, ?_⟩) he hpl
  exact run_makeSx M F hr hb (hx σ) I1 r q
end
end DL
set_option Elab.async false
set_option linter.all false
set_option maxRecDepth 100000
namespace DL
open PySem L2

/-! ### statements -/
structure DEnds where
  nx : DEnv → Prop
  rt : D → DEnv → Prop
  bk : DEnv → Prop := fun _ => False
  ct : DEnv → Prop := fun _ => False
  ex : Addr → DEnv → Prop := fun _ _ => False
abbrev DTS := DEnds → DEnv → Prop
/-- slot 0 holds what it held at the entry -/
def Pin (pn : Bool) (v0 : V) (σ : St) : Prop := pn = true → σ[0]? = some (some v0)
structure EndsOk (K : PySem.W.Frag) (W : WX) (pn : Bool) (v0 : V) (H : Hp) (Z : Zn) (A : List Addr) (Dn : Ends) (E : DEnds) : Prop where
  nx : ∀ ρ' σ' H' Z' A', E.nx ρ' → Go H Z A H' Z' A' → Wo H' Z' A' → Os K H' Z' ρ' σ' A' → Pin pn v0 σ' → Dn.nx σ' H'
  bk : ∀ ρ' σ' H' Z' A', E.bk ρ' → Go H Z A H' Z' A' → Wo H' Z' A' → Os K H' Z' ρ' σ' A' → Pin pn v0 σ' → Dn.bk σ' H'
  ct : ∀ ρ' σ' H' Z' A', E.ct ρ' → Go H Z A H' Z' A' → Wo H' Z' A' → Os K H' Z' ρ' σ' A' → Pin pn v0 σ' → Dn.ct σ' H'
  rt : ∀ d ρ' σ' v H' Z' A1 A', E.rt d ρ' → Go H Z A H' Z' (A1 ++ A') → Wo H' Z' (A1 ++ A') → Ow K H' Z' d v A1 → Os K H' Z' ρ' σ' A' → Pin pn v0 σ' → Dn.rt v H'
  ex : ∀ C ρ' σ' H' Z' A', E.ex C ρ' → Go H Z A H' Z' A' → Wo H' Z' A' → Os K H' Z' ρ' σ' A' → Pin pn v0 σ' → W (.ref C) none σ' H'
def RS (K : PySem.W.Frag) (W : WX) (pn : Bool) (t : TS) (g : DTS) : Prop :=
  ∀ (σ : St) (H : Hp) (Z : Zn) (A : List Addr) (ρ : DEnv) (Dn : Ends) (E : DEnds) (v0 : V), Wo H Z A → Os K H Z ρ σ A → Pin pn v0 σ → g E ρ → EndsOk K W pn v0 H Z A Dn E → t Dn σ H
structure DS (X : Cx) (W : WX) (pn : Bool) (s : Stmt) (t : TS) (g : DTS) : Prop where
  pe : PS X s t
  re : RS X.K W pn t g
structure DSs (X : Cx) (W : WX) (pn : Bool) (s : List Stmt) (t : TS) (g : DTS) : Prop where
  pe : PSs X s t
  re : RS X.K W pn t g

section
variable {K : PySem.W.Frag} {W : WX} {pn : Bool} {v0 : V} {H H' H1 H2 H3 : Hp} {Z Z' Z1 Z2 : Zn} {A A' A1 A2 B : List Addr} {Dn : Ends} {E : DEnds}
theorem EndsOk.shift (h : EndsOk K W pn v0 H Z A Dn E) (g : Go H Z A H1 Z1 A1) : EndsOk K W pn v0 H1 Z1 A1 Dn E where
  nx := fun ρ' σ' H' Z' A' r g' => h.nx ρ' σ' H' Z' A' r (g.trans g')
  bk := fun ρ' σ' H' Z' A' r g' => h.bk ρ' σ' H' Z' A' r (g.trans g')
  ct := fun ρ' σ' H' Z' A' r g' => h.ct ρ' σ' H' Z' A' r (g.trans g')
  rt := fun d ρ' σ' v H' Z' A2 A' r g' => h.rt d ρ' σ' v H' Z' A2 A' r (g.trans g')
  ex := fun C ρ' σ' H' Z' A' r g' => h.ex C ρ' σ' H' Z' A' r (g.trans g')
/-- the errors of an expression within a statement -/
theorem EndsOk.xp {ρ : DEnv} {σ : St} (h : EndsOk K W pn v0 H Z A Dn E) (w : Wo H Z A) (o : Os K H Z ρ σ A) (p : Pin pn v0 σ) : ∀ C H' Z', E.ex C ρ → Gx H Z H' Z' → Zo H' Z' → W (.ref C) none σ H' :=
  fun C H' Z' x g zo => h.ex C ρ σ H' Z' A x (g.go0 w zo) (w.gx g zo) (o.gx w g) p
def dSkip : DTS := fun E ρ => E.nx ρ
theorem rs_next : RS K W pn tNext dSkip := fun σ H Z A ρ Dn E v0 w o p r k => k.nx ρ σ H Z A r Go.refl w o p
theorem rs_break : RS K W pn tBreak (fun E ρ => E.bk ρ) := fun σ H Z A ρ Dn E v0 w o p r k => k.bk ρ σ H Z A r Go.refl w o p
theorem rs_cont : RS K W pn tCont (fun E ρ => E.ct ρ) := fun σ H Z A ρ Dn E v0 w o p r k => k.ct ρ σ H Z A r Go.refl w o p
theorem rs_never : RS K W pn tNever (fun _ _ => False) := fun σ H Z A ρ Dn E v0 w o p r k => r
def dSeq (a b : DTS) : DTS := fun E ρ => a { E with nx := b E } ρ
theorem rs_seq {t u : TS} {a b : DTS} (ha : RS K W pn t a) (hb : RS K W pn u b) : RS K W pn (tSeq t u) (dSeq a b) := fun σ H Z A ρ Dn E v0 w o p r k => by
  refine ha σ H Z A ρ { Dn with nx := u Dn } { E with nx := b E } v0 w o p r ⟨fun ρ' σ' H' Z' A' r' g w' o' p' => ?_, k.bk, k.ct, k.rt, k.ex⟩
  exact hb σ' H' Z' A' ρ' Dn E v0 w' o' p' r' (k.shift g)
def dIf (c : DTT) (a b : DTS) : DTS := fun E ρ => c ρ (fun b' => if b' = true then a E ρ else b E ρ) (fun C => E.ex C ρ)
theorem rs_if {tc : TT} {t u : TS} {c : DTT} {a b : DTS} (hc : RT K W tc c) (ha : RS K W pn t a) (hb : RS K W pn u b) : RS K W pn (tIfS tc t u) (dIf c a b) := fun σ H Z A ρ Dn E v0 w o p r k => by
  refine hc σ H Z A ρ _ _ _ w o r (fun b' H1 Z1 r1 g1 zo1 => ?_) (k.xp w o p)
  cases b' with
  | true =>
    rw [if_pos rfl] at r1 ⊢
    exact ha σ H1 Z1 A ρ Dn E v0 (w.gx g1 zo1) (o.gx w g1) p r1 (k.shift (g1.go0 w zo1))
  | false =>
    rw [if_neg Bool.false_ne_true] at r1 ⊢
    exact hb σ H1 Z1 A ρ Dn E v0 (w.gx g1 zo1) (o.gx w g1) p r1 (k.shift (g1.go0 w zo1))
def dRet (f : DTE) : DTS := fun E ρ => f ρ (fun d => E.rt d ρ) (fun C => E.ex C ρ)
theorem rs_ret {t : TE} {f : DTE} (h : RF K W t f) : RS K W pn (tRet t) (dRet f) := fun σ H Z A ρ Dn E v0 w o p r k => by
  refine h σ H Z A ρ _ _ _ w o r (fun d v H1 Z1 A1 r1 g1 zo1 fr1 ow1 => ?_) (k.xp w o p)
  exact k.rt d ρ σ v H1 Z1 A1 A r1 (g1.go w zo1 fr1) (w.frame g1 zo1 fr1) ow1 (o.gx w g1) p
def dRetN : DTS := fun E ρ => E.rt .non ρ
theorem rs_retN : RS K W pn tRetN dRetN := fun σ H Z A ρ Dn E v0 w o p r k => k.rt .non ρ σ .non H Z [] A r Go.refl w ow_non o p
theorem go_sub (g : Go H Z A H1 Z1 A1) (h : ∀ p ∈ B, p ∈ A1) : Go H Z A H1 Z1 B := ⟨g.kp, g.al, g.zf, g.zd, g.nf, g.nd, fun p hp => g.na p (h p hp)⟩
theorem nd_mid {C1 An C2 : List Addr} (h : (C1 ++ (An ++ C2)).Nodup) : (An ++ (C1 ++ C2)).Nodup := by
  have p : (An ++ (C1 ++ C2)).Perm (C1 ++ (An ++ C2)) := by
    rw [← List.append_assoc, ← List.append_assoc]
    exact List.Perm.append_right C2 List.perm_append_comm
  exact p.nodup_iff.mpr h
/-- an owned name is given back -/
def dRetV (i : Nat) : DTS := fun E ρ => ∃ d, ρ[i]? = some (some d) ∧ E.rt d (ρ.set i none)
theorem rs_retV {i : Nat} : RS K W pn (tRet (tVar i)) (dRetV i) := fun σ H Z A ρ Dn E v0 w o p ⟨d, e, r⟩ k => by
  obtain ⟨B1, Ai, B2, oi, eA, e3, ⟨v, e4, q1⟩, f⟩ := o.at e
  subst eA e4
  have nd := nd_mid w.nd
  have o2 := f none (some v) [] H Z rfl ((Gx.refl (H := H) (Z := Z)).kpZ w.zo fun p hp => w.ad p (by simp at hp ⊢; rcases hp with hp | hp <;> simp [hp]))
  have es : σ.set i (some v) = σ := by
    have h1 := (List.getElem?_eq_some_iff.mp e3).1
    have h2 := (List.getElem?_eq_some_iff.mp e3).2
    rw [← h2]; exact List.set_getElem_self h1
  rw [es] at o2
  refine ⟨v, e3, k.rt d _ σ v H Z Ai (B1 ++ B2) r (go_sub Go.refl fun p hp => ?_) (w.sub nd fun p hp => ?_) q1 (by simpa using o2) p⟩ <;>
    (simp at hp ⊢; rcases hp with hp | hp | hp <;> simp [hp])
def dDrop (f : DTE) : DTS := fun E ρ => f ρ (fun _ => E.nx ρ) (fun C => E.ex C ρ)
theorem rs_drop {t : TE} {f : DTE} (h : RE K W t f) : RS K W pn (tDrop t) (dDrop f) := fun σ H Z A ρ Dn E v0 w o p r k => by
  refine h σ H Z A ρ _ _ _ w o r (fun d v H1 Z1 A1 r1 g1 zo1 ad1 ow1 => ?_) (k.xp w o p)
  exact k.nx ρ σ H1 Z1 A r1 (g1.go0 w zo1) (w.gx g1 zo1) (o.gx w g1) p

/-! #### names set -/
def dSet (i : Nat) (f : DTE) : DTS := fun E ρ => f ρ (fun d => i < ρ.length ∧ E.nx (ρ.set i (some d))) (fun C => E.ex C ρ)
theorem pin_set {i : Nat} {σ : St} {o : Option V} (p : Pin pn v0 σ) (h : pn = false ∨ i ≠ 0) : Pin pn v0 (σ.set i o) := fun e => by
  rcases h with h | h
  · rw [h] at e; cases e
  · rw [List.getElem?_set_ne h]; exact p e
theorem set_slot {ρ : DEnv} {σ : St} {i : Nat} {d : D} {v : V} (hi : i < ρ.length) (w : Wo H' Z' (A1 ++ A)) (o : Os K H' Z' ρ σ A) (q : Ow K H' Z' d v A1) :
    ∃ A', Os K H' Z' (ρ.set i (some d)) (σ.set i (some v)) A' ∧ Wo H' Z' A' ∧ ∀ p ∈ A', p ∈ A1 ++ A := by
  obtain ⟨B1, Ai, B2, oi, eA, e3, q1, f⟩ := o.at (List.getElem?_eq_getElem hi)
  subst eA
  have kk : Kp H' Z' (B1 ++ B2) H' Z' := (Gx.refl (H := H') (Z := Z')).kpZ w.zo fun p hp => w.ad p (by simp at hp ⊢; rcases hp with hp | hp <;> simp [hp])
  have nd : (B1 ++ (A1 ++ B2)).Nodup := by
    have h1 : (A1 ++ (B1 ++ B2)).Nodup := by
      refine w.nd.sublist (List.Sublist.append_left ?_ A1)
      exact List.Sublist.append_left (List.sublist_append_right _ _) _
    have p : (B1 ++ (A1 ++ B2)).Perm (A1 ++ (B1 ++ B2)) := by
      rw [← List.append_assoc, ← List.append_assoc]
      exact List.Perm.append_right B2 List.perm_append_comm
    exact p.nodup_iff.mpr h1
  have sub : ∀ p ∈ B1 ++ (A1 ++ B2), p ∈ A1 ++ (B1 ++ (Ai ++ B2)) := fun p hp => by
    simp at hp ⊢; rcases hp with hp | hp | hp <;> simp [hp]
  exact ⟨B1 ++ (A1 ++ B2), f (some d) (some v) A1 H' Z' ⟨v, rfl, q⟩ kk, w.sub nd sub, sub⟩
theorem rs_set {i : Nat} {t : TE} {f : DTE} (h : RF K W t f) (hp : pn = false ∨ i ≠ 0) : RS K W pn (tAsg t (gName i)) (dSet i f) := fun σ H Z A ρ Dn E v0 w o p r k => by
  refine h σ H Z A ρ _ _ _ w o r (fun d v H1 Z1 A1 r1 g1 zo1 fr1 ow1 => ?_) (k.xp w o p)
  obtain ⟨A', o', w', s⟩ := set_slot r1.1 (w.frame g1 zo1 fr1) (o.gx w g1) ow1
  exact k.nx _ _ H1 Z1 A' r1.2 (go_sub (g1.go w zo1 fr1) s) w' o' (pin_set p hp)
/-- a ghost: an owned slot is frozen ahead of a statement -/
def dGhost (i : Nat) (g : DTS) : DTS := fun E ρ => ∃ d, ρ[i]? = some (some d) ∧ g E (ρ.set i (some (fz d)))
theorem rs_ghost {t : TS} {g : DTS} (i : Nat) (h : RS K W pn t g) : RS K W pn t (dGhost i g) := fun σ H Z A ρ Dn E v0 w o p ⟨d, e, r⟩ k => by
  obtain ⟨B1, Ai, B2, oi, eA, e3, ⟨v, e4, q1⟩, f⟩ := o.at e
  subst eA e4
  have ad : ∀ p ∈ Ai, ¬ Z.di p := fun p hp => w.ad p (by simp [hp])
  have zo := zo_c w.zo ad (Ow.mut _ _ _ q1)
  have kk : Kp H Z (B1 ++ B2) H (Zc Z Ai) := ⟨fun _ _ e _ => e, fun _ _ _ e => e, fun _ _ _ e => e, fun _ h => .inl h, fun _ h => ⟨h, rfl⟩⟩
  have o2 := f (some (fz d)) (some v) [] H (Zc Z Ai) ⟨v, rfl, Ow.frozen d v Ai q1 ⟨fun p h => .inl h, fun p h => ⟨h, rfl⟩, fun p h => .inr h⟩⟩ kk
  have es : σ.set i (some v) = σ := by
    have h1 := (List.getElem?_eq_some_iff.mp e3).1
    have h2 := (List.getElem?_eq_some_iff.mp e3).2
    rw [← h2]; exact List.set_getElem_self h1
  rw [es] at o2
  have nd := nd_mid w.nd
  have nd2 := List.nodup_append.mp nd
  have w2 : Wo H (Zc Z Ai) (B1 ++ B2) := by
    refine ⟨zo, nd2.2.1, fun p hp h => ?_, fun p hp => w.ad p ?_, fun p hp => w.ak p ?_⟩
    · rcases h with h | h
      · exact w.af p (by simp at hp ⊢; rcases hp with hp | hp <;> simp [hp]) h
      · exact nd2.2.2 p h p hp rfl
    · simp at hp ⊢; rcases hp with hp | hp <;> simp [hp]
    · simp at hp ⊢; rcases hp with hp | hp <;> simp [hp]
  have g2 : Go H Z (B1 ++ (Ai ++ B2)) H (Zc Z Ai) (B1 ++ B2) := by
    refine ⟨fun _ _ e _ _ => e, fun _ h => h, fun _ h => .inl h, fun _ h => ⟨h, rfl⟩, fun p h => ?_, fun _ h => .inl h, fun p hp => .inl ?_⟩
    · rcases h with h | h
      · exact .inl h
      · exact .inr (.inl (by simp [h]))
    · simp at hp ⊢; rcases hp with hp | hp <;> simp [hp]
  exact h σ H (Zc Z Ai) (B1 ++ B2) _ Dn E v0 w2 (by simpa using o2) p r (k.shift g2)

/-! #### places that may be changed -/
abbrev DTP := DEnv → ((D → DEnv) → D → Prop) → XP → Prop
/-- a node of what is owned, and the slots with another one there -/
def ZipS (K : PySem.W.Frag) (H : Hp) (Z : Zn) (c : D → DEnv) (σ : St) (A : List Addr) (dn : D) (vn : V) : Prop :=
  ∃ C1 An C2, A = C1 ++ (An ++ C2) ∧ Ow K H Z dn vn An ∧ ∀ H' Z' dn' An', Ow K H' Z' dn' vn An' → Kp H Z (C1 ++ C2) H' Z' → Os K H' Z' (c dn') σ (C1 ++ (An' ++ C2))
theorem Kp.trans (a : Kp H Z A H1 Z1) (b : Kp H1 Z1 A H2 Z2) : Kp H Z A H2 Z2 :=
  ⟨fun p o e s => b.st p o (a.st p o e s) s, fun p o hp e => b.ow p o hp (a.ow p o hp e), fun p o z e => b.zk p o (a.zf p z) (a.zk p o z e), fun p z => b.zf p (a.zf p z), fun p z => ⟨(b.zd p (a.zd p z).1).1, (b.zd p (a.zd p z).1).2.trans (a.zd p z).2⟩⟩
theorem ZipS.gx {c : D → DEnv} {σ : St} {dn : D} {vn : V} (h : ZipS K H Z c σ A dn vn) (w : Wo H Z A) (g : Gx H Z H1 Z1) : ZipS K H1 Z1 c σ A dn vn := by
  obtain ⟨C1, An, C2, eA, q, f⟩ := h
  subst eA
  refine ⟨C1, An, C2, rfl, q.gx w.zo (fun p hp => w.ad p (by simp [hp])) g, fun H' Z' dn' An' q' k => f H' Z' dn' An' q' (Kp.trans (g.kpZ w.zo fun p hp => w.ad p ?_) k)⟩
  simp at hp ⊢; rcases hp with hp | hp <;> simp [hp]
def RP (K : PySem.W.Frag) (W : WX) (t : TE) (f : DTP) : Prop :=
  ∀ (σ : St) (H : Hp) (Z : Zn) (A : List Addr) (ρ : DEnv) (Q : VK) (R : (D → DEnv) → D → Prop) (X : XP), Wo H Z A → Os K H Z ρ σ A → f ρ R X →
    (∀ c dn vn H' Z', R c dn → Gx H Z H' Z' → Zo H' Z' → ZipS K H' Z' c σ A dn vn → Q vn H') → (∀ C H' Z', X C → Gx H Z H' Z' → Zo H' Z' → W (.ref C) none σ H') → t σ H Q
def pVar (i : Nat) : DTP := fun ρ R _ => ∃ d, ρ[i]? = some (some d) ∧ R (fun d' => ρ.set i (some d')) d
theorem rp_var {i : Nat} : RP K W (tVar i) (pVar i) := fun σ H Z A ρ Q R X w o ⟨d, e, r⟩ k _ => by
  obtain ⟨B1, Ai, B2, oi, eA, e3, ⟨v, e4, q1⟩, f⟩ := o.at e
  subst e4
  have es : σ.set i (some v) = σ := by
    have h1 := (List.getElem?_eq_some_iff.mp e3).1
    have h2 := (List.getElem?_eq_some_iff.mp e3).2
    rw [← h2]; exact List.set_getElem_self h1
  refine ⟨v, e3, k _ d v H Z r Gx.refl w.zo ⟨B1, Ai, B2, eA, q1, fun H' Z' dn' An' q' kk => ?_⟩⟩
  have o2 := f (some dn') (some v) An' H' Z' ⟨v, rfl, q'⟩ kk
  rw [es] at o2
  exact o2
/-- one of several, and the others -/
theorem Ows.at : ∀ {ds : List D} {vs : List V} {A : List Addr} {i : Nat} {x : D}, Ows K H Z ds vs A → ds[i]? = some x → ∃ B1 Ai B2 v, A = B1 ++ (Ai ++ B2) ∧ vs[i]? = some v ∧ Ow K H Z x v Ai ∧
    ∀ x' v' Ai' H' Z', Ow K H' Z' x' v' Ai' → Kp H Z (B1 ++ B2) H' Z' → Ows K H' Z' (ds.set i x') (vs.set i v') (B1 ++ (Ai' ++ B2))
  | [], vs, A, i, x, h, e => by simp at e
  | y :: ds, vs, A, 0, x, h, e => by
    unfold Ows at h
    obtain ⟨v, vs', A1, A2, e1, eA, q, r⟩ := h
    have e' : y = x := by simpa using e
    subst e' e1 eA
    refine ⟨[], A1, A2, v, rfl, rfl, q, fun x' o' Ai' H' Z' q' k => ?_⟩
    show Ows K H' Z' (x' :: ds) (o' :: vs') _
    unfold Ows
    exact ⟨o', vs', Ai', A2, rfl, rfl, q', Ows.keep _ _ _ r (by simpa using k)⟩
  | y :: ds, vs, A, i + 1, x, h, e => by
    unfold Ows at h
    obtain ⟨v, vs', A1, A2, e1, eA, q, r⟩ := h
    obtain ⟨B1, Ai, B2, oi, e2, e3, q1, f⟩ := Ows.at (i := i) r (by simpa using e)
    subst e1 eA e2
    refine ⟨A1 ++ B1, Ai, B2, oi, by simp, by simpa using e3, q1, fun x' o' Ai' H' Z' q' k => ?_⟩
    show Ows K H' Z' (y :: ds.set i x') (v :: vs'.set i o') _
    unfold Ows
    refine ⟨v, vs'.set i o', A1, B1 ++ (Ai' ++ B2), rfl, by simp, Ow.keep _ _ _ q (k.sub fun p hp => ?_), f x' o' Ai' H' Z' q' (k.sub fun p hp => ?_)⟩
    · simp [hp]
    · rcases List.mem_append.mp hp with hp | hp <;> simp [hp]
theorem set_same {α : Type} {l : List α} {i : Nat} {x : α} (h : l[i]? = some x) : l.set i x = l := by
  have h1 := (List.getElem?_eq_some_iff.mp h).1
  have h2 := (List.getElem?_eq_some_iff.mp h).2
  rw [← h2]; exact List.set_getElem_self h1
/-- down to a child, the node staying as it is: pre is what of the node itself is owned -/
theorem zip_down {c : D → DEnv} {σ : St} {vn : V} {mk : List D → D} {ds : List D} {vs : List V} {C1 An C2 A' pre : List Addr} {j : Nat} {x : D}
    (f : ∀ H' Z' dn' An', Ow K H' Z' dn' vn An' → Kp H Z (C1 ++ C2) H' Z' → Os K H' Z' (c dn') σ (C1 ++ (An' ++ C2))) (eAn : An = pre ++ A') (rs : Ows K H Z ds vs A') (ex : ds[j]? = some x)
    (up : ∀ H' Z' ds' B, Ows K H' Z' ds' vs B → Kp H Z pre H' Z' → Ow K H' Z' (mk ds') vn (pre ++ B)) :
    ∃ u, vs[j]? = some u ∧ ZipS K H Z (fun d' => c (mk (ds.set j d'))) σ (C1 ++ (An ++ C2)) x u := by
  obtain ⟨B1, Ai, B2, u, e2, e3, q1, fo⟩ := rs.at ex
  subst e2 eAn
  refine ⟨u, e3, C1 ++ (pre ++ B1), Ai, B2 ++ C2, by simp, q1, fun H' Z' dn' An' q' k => ?_⟩
  have k1 : Kp H Z (B1 ++ B2) H' Z' := k.sub fun p hp => by simp at hp ⊢; rcases hp with hp | hp <;> simp [hp]
  have k2 : Kp H Z pre H' Z' := k.sub fun p hp => by simp [hp]
  have k3 : Kp H Z (C1 ++ C2) H' Z' := k.sub fun p hp => by simp at hp ⊢; rcases hp with hp | hp <;> simp [hp]
  have o1 := fo dn' u An' H' Z' q' k1
  rw [set_same e3] at o1
  have o2 := f H' Z' _ _ (up H' Z' _ _ o1 k2) k3
  simpa using o2
def pFld (C : Addr) (FN : List Str) (j : Nat) (p : DTP) : DTP := fun ρ R X => p ρ (fun c d => ∃ ds x, d = .ins true C FN ds ∧ ds[j]? = some x ∧ R (fun d' => c (.ins true C FN (ds.set j d'))) x) X
theorem rp_fld {C : Addr} {FN : List Str} {i : Nat} {f : Str} {to : TE} {po : DTP} (h : RP K W to po) (hi : ixF FN f = some i) (cl : Cls K C) (n : NoAttr K C f) : RP K W (tFld K to f) (pFld C FN i po) := fun σ H Z A ρ Q R X w o q k x => by
  refine h σ H Z A ρ _ _ X w o q (fun c dn vn H1 Z1 r1 g1 zo1 z1 => ?_) x
  obtain ⟨ds, y, ed, ey, r⟩ := r1
  subst ed
  obtain ⟨C1, An, C2, eA, q1, f1⟩ := z1
  obtain ⟨p, dx, vs, A', ev, eAn, hp, hl, rs⟩ := q1.insT
  obtain ⟨u, eu, zz⟩ := zip_down (mk := fun ds' => .ins true C FN ds') (pre := [p]) f1 eAn rs ey (fun H' Z' ds' B o' kk => by
    unfold Ow
    exact ⟨p, dx, vs, B, ev, rfl, kk.ow p _ List.mem_cons_self hp, hl, o'⟩)
  refine ⟨p, C, dx, _, u, ev, hp, cl, n, by rw [lookup_ix hl hi, eu], k _ y u H1 Z1 r g1 zo1 (by rw [eA]; exact zz)⟩
/-- an item of an owned list -/
def pIx (p : DTP) (i : DTE) : DTP := fun ρ R X => p ρ (fun c d => i ρ (fun k => ∃ ds kk j x, d = .lst true ds ∧ k = .int kk ∧ ixN ds.length kk = some j ∧ ds[j]? = some x ∧ R (fun d' => c (.lst true (ds.set j d'))) x) X) X
theorem rp_ix {to ti : TE} {po : DTP} {fi : DTE} (h : RP K W to po) (hi : RE K W ti fi) : RP K W (tOp (rIxL K) to ti) (pIx po fi) := fun σ H Z A ρ Q R X w o q k x => by
  refine h σ H Z A ρ _ _ X w o q (fun c dn vn H1 Z1 r1 g1 zo1 z1 => ?_) x
  refine hi σ H1 Z1 A ρ _ _ X (w.gx g1 zo1) (o.gx w g1) r1 (fun dk vk H2 Z2 A2 r2 g2 zo2 ad2 ow2 => ?_) fun C H' Z' xc g' zo' => x C H' Z' xc (g1.trans zo1 g') zo'
  obtain ⟨ds, kk, j, y, ed, ek, hj, ey, r⟩ := r2
  subst ed ek
  obtain ⟨C1, An, C2, eA, q1, f1⟩ := z1.gx (w.gx g1 zo1) g2
  obtain ⟨p, vs, A', ev, eAn, hp, rs⟩ := q1.lstT
  obtain ⟨u, eu, zz⟩ := zip_down (mk := fun ds' => .lst true ds') (pre := [p]) f1 eAn rs ey (fun H' Z' ds' B o' kk => by
    unfold Ow
    exact ⟨p, vs, B, ev, rfl, kk.ow p _ List.mem_cons_self hp, o'⟩)
  refine ⟨p, vs, kk, u, ev, ow2.int_of, SqL.of hp, ?_, k _ y u H2 Z2 r (g1.trans zo1 g2) zo2 (by rw [eA]; exact zz)⟩
  unfold L2.atI
  rw [← rs.len, hj]
  exact eu
/-- an item of a tuple that holds what is owned -/
def pIxT (p : DTP) (i : DTE) : DTP := fun ρ R X => p ρ (fun c d => i ρ (fun k => ∃ ds kk j x, d = .tup ds ∧ k = .int kk ∧ ixN ds.length kk = some j ∧ ds[j]? = some x ∧ R (fun d' => c (.tup (ds.set j d'))) x) X) X
theorem rp_ixT {to ti : TE} {po : DTP} {fi : DTE} (h : RP K W to po) (hi : RE K W ti fi) : RP K W (tOp (rIxT K) to ti) (pIxT po fi) := fun σ H Z A ρ Q R X w o q k x => by
  refine h σ H Z A ρ _ _ X w o q (fun c dn vn H1 Z1 r1 g1 zo1 z1 => ?_) x
  refine hi σ H1 Z1 A ρ _ _ X (w.gx g1 zo1) (o.gx w g1) r1 (fun dk vk H2 Z2 A2 r2 g2 zo2 ad2 ow2 => ?_) fun C H' Z' xc g' zo' => x C H' Z' xc (g1.trans zo1 g') zo'
  obtain ⟨ds, kk, j, y, ed, ek, hj, ey, r⟩ := r2
  subst ed ek
  obtain ⟨C1, An, C2, eA, q1, f1⟩ := z1.gx (w.gx g1 zo1) g2
  obtain ⟨p, vs, ev, hp, rs⟩ := q1.tup_
  obtain ⟨u, eu, zz⟩ := zip_down (mk := fun ds' => .tup ds') (pre := []) f1 (List.nil_append _).symm rs ey (fun H' Z' ds' B o' kk => by
    unfold Ow
    exact ⟨p, vs, ev, sqT_keep kk.st hp, o'⟩)
  refine ⟨p, vs, kk, u, ev, ow2.int_of, hp, ?_, k _ y u H2 Z2 r (g1.trans zo1 g2) zo2 (by rw [eA]; exact zz)⟩
  unfold L2.atI
  rw [← rs.len, hj]
  exact eu

/-- behind a change at p, one of the owned -/
theorem mut_fin {p : Addr} {o : HO} {B : List Addr} (w : Wo H Z A) (g : Gx H Z H2 Z2) (zo2 : Zo H2 Z2) (w2 : Wo H2 Z2 (A1 ++ A)) (n1 : ∀ q ∈ A1, H q = none) (hp : p ∈ A) (mo : MutO (some o)) (nd : B.Nodup) (s : ∀ q ∈ B, q ∈ A1 ++ A) :
    Go H Z A (upd H2 p o) Z2 B ∧ Wo (upd H2 p o) Z2 B := by
  have nz : ¬ Z2.fz p := w2.af p (List.mem_append_right _ hp)
  have ndi : ¬ Z2.di p := w2.ad p (List.mem_append_right _ hp)
  constructor
  · refine ⟨fun q u e hq d => ?_, fun q h => ?_, g.zf, g.zd, fun q h => (g.nf q h).imp id .inr, g.nd, fun q hq => ?_⟩
    · have ne : q ≠ p := fun e => hq (e ▸ hp)
      rw [upd_ne ne]; exact g.kp q u e d
    · by_cases e : q = p
      · rw [e, upd_same]; exact fun n => nomatch n
      · rw [upd_ne e]; exact g.there zo2 h
    · exact (List.mem_append.mp (s q hq)).elim (fun h => .inr (n1 q h)) .inl
  · refine ⟨⟨zo2.zd, fun q z => ?_, fun q z => ?_⟩, nd, fun q hq => w2.af q (s q hq), fun q hq => w2.ad q (s q hq), fun q hq => ?_⟩
    · have ne : q ≠ p := fun e => nz (e ▸ z)
      rw [upd_ne ne]; exact zo2.zh q z
    · have ne : q ≠ p := fun e => ndi (e ▸ z)
      obtain ⟨a, e, b⟩ := zo2.dk q z
      exact ⟨a, by rw [upd_ne ne]; exact e, b⟩
    · by_cases e : q = p
      · rw [e, upd_same]; exact mo
      · rw [upd_ne e]; exact w2.ak q (s q hq)
theorem kp_upd {p : Addr} {o : HO} {B : List Addr} (nz : ¬ Z.fz p) (mu : MutO (H p)) (nb : p ∉ B) : Kp H Z B (upd H p o) Z := by
  refine ⟨fun q u e s => ?_, fun q u hq e => ?_, fun q u z e => ?_, fun _ h => h, fun _ h => ⟨h, rfl⟩⟩
  · have ne : q ≠ p := fun h => by
      subst h
      rw [e] at mu
      cases u <;> first | exact mu | exact s
    rw [upd_ne ne]; exact e
  · have ne : q ≠ p := fun h => nb (h ▸ hq)
    rw [upd_ne ne]; exact e
  · have ne : q ≠ p := fun h => nz (h ▸ z)
    rw [upd_ne ne]; exact e
/-- the parts of a place's addresses -/
theorem nd_parts {C1 A' C2 A1 : List Addr} {p : Addr} (h : (A1 ++ (C1 ++ ((p :: A') ++ C2))).Nodup) :
    (C1 ++ ((p :: (A' ++ A1)) ++ C2)).Nodup ∧ p ∉ C1 ++ C2 ∧ p ∉ A' ∧ p ∉ A1 := by
  simp only [List.nodup_append, List.nodup_cons, List.mem_append, List.mem_cons, List.cons_append] at h ⊢
  grind
def sAppend (p : DTP) (e : DTE) : DTS := fun E ρ => p ρ (fun c d => ∃ ds, d = .lst true ds ∧ e ρ (fun y => ds.length < sizeLine ∧ E.nx (c (.lst true (ds ++ [y])))) (fun C => E.ex C ρ)) (fun C => E.ex C ρ)
theorem rs_append {to te : TE} {po : DTP} {fe : DTE} (ho : RP K W to po) (he : RF K W te fe) : RS K W pn (tDrop (tBM K "list" rAppend to (tCons te tNil))) (sAppend po fe) := fun σ H Z A ρ Dn E v0 w o p r k => by
  refine ho σ H Z A ρ _ _ _ w o r (fun c dn vn H1 Z1 r1 g1 zo1 z1 => ?_) (k.xp w o p)
  have w1 := w.gx g1 zo1
  obtain ⟨ds, ed, r1⟩ := r1
  subst ed
  refine ⟨?_, ?_⟩
  · obtain ⟨C1, An, C2, eA, q1, f1⟩ := z1
    obtain ⟨l, vs, A', ev, eAn, hp, rs⟩ := q1.lstT
    subst ev
    exact .inl ⟨rfl, _, SqL.of hp⟩
  refine he σ H1 Z1 A ρ _ _ _ w1 (o.gx w g1) r1 (fun y vy H2 Z2 A1 r2 g2 zo2 fr2 ow2 => ?_) fun C H' Z' xc g' zo' => k.xp w o p C H' Z' xc (g1.trans zo1 g') zo'
  obtain ⟨C1, An, C2, eA, q1, f1⟩ := z1.gx w1 g2
  obtain ⟨l, vs, A', ev, eAn, hp, rs⟩ := q1.lstT
  subst eAn eA ev
  have w2 := w1.frame g2 zo2 fr2
  obtain ⟨nd, np, npA, np1⟩ := nd_parts w2.nd
  refine ⟨l, vs, vy, rfl, rfl, hp, by rw [← rs.len]; exact r2.1, ?_⟩
  have mu : MutO (H2 l) := by rw [hp]; trivial
  have nz : ¬ Z2.fz l := w2.af l (by simp)
  have sub : ∀ q ∈ C1 ++ ((l :: (A' ++ A1)) ++ C2), q ∈ A1 ++ (C1 ++ ((l :: A') ++ C2)) := fun q hq => by
    simp only [List.mem_append, List.mem_cons] at hq ⊢; grind
  obtain ⟨gg, ww⟩ := mut_fin (o := .lst (vs ++ [vy])) w (g1.trans zo1 g2) zo2 w2 (fun q hq => g1.none_of zo1 (fr2.nw q hq)) (p := l) (by simp) trivial nd sub
  have kA : Kp H2 Z2 (A' ++ A1) (upd H2 l (.lst (vs ++ [vy]))) Z2 := kp_upd nz mu (by simp [npA, np1])
  have o1 : Ows K (upd H2 l (.lst (vs ++ [vy]))) Z2 (ds ++ [y]) (vs ++ [vy]) (A' ++ A1) := by
    refine (Ows.keep _ _ _ rs (kA.sub fun q hq => List.mem_append_left _ hq)).append ?_
    unfold Ows
    exact ⟨vy, [], A1, [], rfl, by simp, Ow.keep _ _ _ ow2 (kA.sub fun q hq => List.mem_append_right _ hq), by unfold Ows; exact ⟨rfl, rfl⟩⟩
  refine k.nx _ σ _ Z2 _ r2.2 gg ww (f1 _ Z2 (.lst true (ds ++ [y])) (l :: (A' ++ A1)) ?_ (kp_upd nz mu np)) p
  unfold Ow
  exact ⟨l, _, _, rfl, rfl, upd_same, o1⟩
end
end DL
set_option Elab.async false
set_option linter.all false
set_option maxRecDepth 100000
namespace DL
open PySem L2
section
variable {K : PySem.W.Frag} {W : WX} {pn : Bool} {v0 : V} {H H' H1 H2 H3 : Hp} {Z Z' Z1 Z2 : Zn} {A A' A1 A2 B : List Addr} {Dn : Ends} {E : DEnds}

/-! #### an owned list's item set -/
theorem nd_parts2 {C1 B1 Ai B2 C2 A1 : List Addr} {p : Addr} (h : (A1 ++ (C1 ++ ((p :: (B1 ++ (Ai ++ B2))) ++ C2))).Nodup) :
    (C1 ++ ((p :: (B1 ++ (A1 ++ B2))) ++ C2)).Nodup ∧ p ∉ C1 ++ C2 ∧ p ∉ B1 ∧ p ∉ B2 ∧ p ∉ A1 := by
  simp only [List.nodup_append, List.nodup_cons, List.mem_append, List.mem_cons, List.cons_append] at h ⊢
  grind
def sSetItem (e : DTE) (p : DTP) (i : DTE) : DTS := fun E ρ => e ρ (fun y => p ρ (fun c d => i ρ (fun k => ∃ ds kk j, d = .lst true ds ∧ k = .int kk ∧ ixN ds.length kk = some j ∧ E.nx (c (.lst true (ds.set j y)))) (fun C => E.ex C ρ)) (fun C => E.ex C ρ)) (fun C => E.ex C ρ)
theorem rs_setItem {te to ti : TE} {fe : DTE} {po : DTP} {fi : DTE} (he : RF K W te fe) (ho : RP K W to po) (hi : RE K W ti fi) : RS K W pn (tAsg te (gSub to ti rSetL)) (sSetItem fe po fi) := fun σ H Z A ρ Dn E v0 w o p r k => by
  refine he σ H Z A ρ _ _ _ w o r (fun y vy H1 Z1 A1 r1 g1 zo1 fr1 ow1 => ?_) (k.xp w o p)
  have w1 := w.gx g1 zo1
  refine ho σ H1 Z1 A ρ _ _ _ w1 (o.gx w g1) r1 (fun c dn vn H2 Z2 r2 g2 zo2 z2 => ?_) fun C H' Z' xc g' zo' => k.xp w o p C H' Z' xc (g1.trans zo1 g') zo'
  have w2 := w1.gx g2 zo2
  refine hi σ H2 Z2 A ρ _ _ _ w2 ((o.gx w g1).gx w1 g2) r2 (fun dk vk H3 Z3 A3 r3 g3 zo3 ad3 ow3 => ?_) fun C H' Z' xc g' zo' => k.xp w o p C H' Z' xc ((g1.trans zo1 g2).trans zo2 g') zo'
  obtain ⟨ds, kk, j, ed, ek, hj, r3⟩ := r3
  subst ed ek
  obtain ⟨C1, An, C2, eA, q1, f1⟩ := z2.gx w2 g3
  obtain ⟨l, vs, A', ev, eAn, hp, rs⟩ := q1.lstT
  have g13 := g2.trans zo2 g3
  have wf := (w.frame g1 zo1 fr1).gx g13 zo3
  have hjl : j < ds.length := (ixN_seq hj).2.1
  obtain ⟨B1, Ai, B2, u, eB, eu, qj, fo⟩ := rs.at (List.getElem?_eq_getElem hjl)
  subst eB eAn eA ev
  have fr3 := fr1.gx zo1 g13 zo3
  obtain ⟨nd, np, npB1, npB2, np1⟩ := nd_parts2 wf.nd
  refine ⟨l, vs, kk, j, rfl, ow3.int_of, hp, by rw [← rs.len]; exact hj, ?_⟩
  have mu : MutO (H3 l) := by rw [hp]; trivial
  have nz : ¬ Z3.fz l := wf.af l (by simp)
  have sub : ∀ q ∈ C1 ++ ((l :: (B1 ++ (A1 ++ B2))) ++ C2), q ∈ A1 ++ (C1 ++ ((l :: (B1 ++ (Ai ++ B2))) ++ C2)) := fun q hq => by
    simp only [List.mem_append, List.mem_cons] at hq ⊢; grind
  obtain ⟨gg, ww⟩ := mut_fin (o := .lst (vs.set j vy)) w (g1.trans zo1 g13) zo3 wf (fun q hq => fr3.nw q hq) (p := l) (by simp) trivial nd sub
  have k12 : Kp H3 Z3 (B1 ++ B2) (upd H3 l (.lst (vs.set j vy))) Z3 := kp_upd nz mu (by simp [npB1, npB2])
  have kA1 : Kp H3 Z3 A1 (upd H3 l (.lst (vs.set j vy))) Z3 := kp_upd nz mu np1
  have oy := Ow.keep _ _ _ (ow1.gx zo1 fr1.ad g13) kA1
  refine k.nx _ σ _ Z3 _ r3 gg ww (f1 _ Z3 (.lst true (ds.set j y)) (l :: (B1 ++ (A1 ++ B2))) ?_ (kp_upd nz mu np)) p
  unfold Ow
  exact ⟨l, _, _, rfl, rfl, upd_same, fo y vy A1 _ Z3 oy k12⟩

/-! #### a field set -/
def sSetFld (C : Addr) (FN : List Str) (j : Nat) (e : DTE) (p : DTP) : DTS := fun E ρ => e ρ (fun y => p ρ (fun c d => ∃ ds, d = .ins true C FN ds ∧ j < ds.length ∧ E.nx (c (.ins true C FN (ds.set j y)))) (fun C => E.ex C ρ)) (fun C => E.ex C ρ)
theorem rs_setFld {C : Addr} {FN : List Str} {j : Nat} {f : Str} {te to : TE} {fe : DTE} {po : DTP} (he : RF K W te fe) (ho : RP K W to po) (hf : ixF FN f = some j) (hl : FN.length < 1000) (cl : Cls K C) (n : NoAttr K C f) :
    RS K W pn (sFld K to te f) (sSetFld C FN j fe po) := fun σ H Z A ρ Dn E v0 w o p r k => by
  refine he σ H Z A ρ _ _ _ w o r (fun y vy H1 Z1 A1 r1 g1 zo1 fr1 ow1 => ?_) (k.xp w o p)
  have w1 := w.gx g1 zo1
  refine ho σ H1 Z1 A ρ _ _ _ w1 (o.gx w g1) r1 (fun c dn vn H2 Z2 r2 g2 zo2 z2 => ?_) fun C H' Z' xc g' zo' => k.xp w o p C H' Z' xc (g1.trans zo1 g') zo'
  obtain ⟨ds, ed, hjl, r3⟩ := r2
  subst ed
  obtain ⟨C1, An, C2, eA, q1, f1⟩ := z2
  obtain ⟨l, dx, vs, A', ev, eAn, hp, hll, rs⟩ := q1.insT
  have wf := (w.frame g1 zo1 fr1).gx g2 zo2
  obtain ⟨B1, Ai, B2, u, eB, eu, qj, fo⟩ := rs.at (List.getElem?_eq_getElem hjl)
  subst eB eAn eA ev
  have fr3 := fr1.gx zo1 g2 zo2
  obtain ⟨nd, np, npB1, npB2, np1⟩ := nd_parts2 wf.nd
  refine ⟨l, C, dx, _, rfl, hp, cl, n, by rw [List.length_zip, ← hll]; omega, ?_⟩
  rw [putF_ix hll hf]
  have mu : MutO (H2 l) := by rw [hp]; trivial
  have nz : ¬ Z2.fz l := wf.af l (by simp)
  have sub : ∀ q ∈ C1 ++ ((l :: (B1 ++ (A1 ++ B2))) ++ C2), q ∈ A1 ++ (C1 ++ ((l :: (B1 ++ (Ai ++ B2))) ++ C2)) := fun q hq => by
    simp only [List.mem_append, List.mem_cons] at hq ⊢; grind
  obtain ⟨gg, ww⟩ := mut_fin (o := .ins C dx (FN.zip (vs.set j vy))) w (g1.trans zo1 g2) zo2 wf (fun q hq => fr3.nw q hq) (p := l) (by simp) trivial nd sub
  have k12 : Kp H2 Z2 (B1 ++ B2) (upd H2 l (.ins C dx (FN.zip (vs.set j vy)))) Z2 := kp_upd nz mu (by simp [npB1, npB2])
  have kA1 : Kp H2 Z2 A1 (upd H2 l (.ins C dx (FN.zip (vs.set j vy)))) Z2 := kp_upd nz mu np1
  have oy := Ow.keep _ _ _ (ow1.gx zo1 fr1.ad g2) kA1
  refine k.nx _ σ _ Z2 _ r3 gg ww (f1 _ Z2 (.ins true C FN (ds.set j y)) (l :: (B1 ++ (A1 ++ B2))) ?_ (kp_upd nz mu np)) p
  unfold Ow
  exact ⟨l, dx, _, _, rfl, rfl, upd_same, by rw [List.length_set]; exact hll, fo y vy A1 _ Z2 oy k12⟩
def sNewFld (C : Addr) (FN : List Str) (f : Str) (e : DTE) (p : DTP) : DTS := fun E ρ => e ρ (fun y => p ρ (fun c d => ∃ ds, d = .ins true C FN ds ∧ E.nx (c (.ins true C (FN ++ [f]) (ds ++ [y])))) (fun C => E.ex C ρ)) (fun C => E.ex C ρ)
theorem rs_newFld {C : Addr} {FN : List Str} {f : Str} {te to : TE} {fe : DTE} {po : DTP} (he : RF K W te fe) (ho : RP K W to po) (hf : ixF FN f = none) (hl : FN.length < 1000) (cl : Cls K C) (n : NoAttr K C f) :
    RS K W pn (sFld K to te f) (sNewFld C FN f fe po) := fun σ H Z A ρ Dn E v0 w o p r k => by
  refine he σ H Z A ρ _ _ _ w o r (fun y vy H1 Z1 A1 r1 g1 zo1 fr1 ow1 => ?_) (k.xp w o p)
  have w1 := w.gx g1 zo1
  refine ho σ H1 Z1 A ρ _ _ _ w1 (o.gx w g1) r1 (fun c dn vn H2 Z2 r2 g2 zo2 z2 => ?_) fun C H' Z' xc g' zo' => k.xp w o p C H' Z' xc (g1.trans zo1 g') zo'
  obtain ⟨ds, ed, r3⟩ := r2
  subst ed
  obtain ⟨C1, An, C2, eA, q1, f1⟩ := z2
  obtain ⟨l, dx, vs, A', ev, eAn, hp, hll, rs⟩ := q1.insT
  have wf := (w.frame g1 zo1 fr1).gx g2 zo2
  subst eAn eA ev
  have fr3 := fr1.gx zo1 g2 zo2
  obtain ⟨nd, np, npA, np1⟩ := nd_parts wf.nd
  refine ⟨l, C, dx, _, rfl, hp, cl, n, by rw [List.length_zip, ← hll]; omega, ?_⟩
  rw [putF_new hll hf]
  have mu : MutO (H2 l) := by rw [hp]; trivial
  have nz : ¬ Z2.fz l := wf.af l (by simp)
  have sub : ∀ q ∈ C1 ++ ((l :: (A' ++ A1)) ++ C2), q ∈ A1 ++ (C1 ++ ((l :: A') ++ C2)) := fun q hq => by
    simp only [List.mem_append, List.mem_cons] at hq ⊢; grind
  obtain ⟨gg, ww⟩ := mut_fin (o := .ins C dx ((FN ++ [f]).zip (vs ++ [vy]))) w (g1.trans zo1 g2) zo2 wf (fun q hq => fr3.nw q hq) (p := l) (by simp) trivial nd sub
  have kA : Kp H2 Z2 (A' ++ A1) (upd H2 l (.ins C dx ((FN ++ [f]).zip (vs ++ [vy])))) Z2 := kp_upd nz mu (by simp [npA, np1])
  have o1 : Ows K (upd H2 l (.ins C dx ((FN ++ [f]).zip (vs ++ [vy])))) Z2 (ds ++ [y]) (vs ++ [vy]) (A' ++ A1) := by
    refine (Ows.keep _ _ _ rs (kA.sub fun q hq => List.mem_append_left _ hq)).append ?_
    unfold Ows
    exact ⟨vy, [], A1, [], rfl, by simp, Ow.keep _ _ _ (ow1.gx zo1 fr1.ad g2) (kA.sub fun q hq => List.mem_append_right _ hq), by unfold Ows; exact ⟨rfl, rfl⟩⟩
  refine k.nx _ σ _ Z2 _ r3 gg ww (f1 _ Z2 (.ins true C (FN ++ [f]) (ds ++ [y])) (l :: (A' ++ A1)) ?_ (kp_upd nz mu np)) p
  unfold Ow
  exact ⟨l, dx, _, _, rfl, rfl, upd_same, by simp [hll], o1⟩

/-! #### an owned list rewritten: its items are a part of what they were -/
theorem Ows.fr_nil {ds : List D} {vs : List V} (h : Ows K H Z ds vs A) (f : frzs ds = true) : A = [] := Ows.nil_of ds vs A h f
/-- the list at l is rewritten by frozen items -/
theorem rewrite_fin {c : D → DEnv} {σ : St} {ds es : List D} {vn : V} {us : List V} (w : Wo H Z A) (g : Gx H Z H2 Z2) (zo2 : Zo H2 Z2) (z : ZipS K H2 Z2 c σ A (.lst true ds) vn) (fd : frzs ds = true)
    (hu : Ows K H2 Z2 es us []) {l : Addr} {vs : List V} (el : vn = .ref l) (hl : H2 l = some (.lst vs)) :
    ∃ B, Go H Z A (upd H2 l (.lst us)) Z2 B ∧ Wo (upd H2 l (.lst us)) Z2 B ∧ Os K (upd H2 l (.lst us)) Z2 (c (.lst true es)) σ B := by
  obtain ⟨C1, An, C2, eA, q1, f1⟩ := z
  obtain ⟨l', vs', A', ev, eAn, hp, rs⟩ := q1.lstT
  have e : l' = l := by rw [el] at ev; cases ev; rfl
  subst e
  have en := Ows.nil_of _ _ _ rs fd
  subst en eAn eA
  have w2 := w.gx g zo2
  have nd : (C1 ++ (([l'] : List Addr) ++ C2)).Nodup := w2.nd
  have np : l' ∉ C1 ++ C2 := by
    simp only [List.nodup_append, List.nodup_cons, List.mem_append, List.mem_cons, List.cons_append] at nd ⊢
    grind
  have mu : MutO (H2 l') := by rw [hp]; trivial
  have nz : ¬ Z2.fz l' := w2.af l' (by simp)
  obtain ⟨gg, ww⟩ := mut_fin (o := .lst us) (A1 := []) w g zo2 w2 (fun q hq => nomatch hq) (p := l') (B := C1 ++ (([l'] : List Addr) ++ C2)) (by simp) trivial nd (fun q hq => hq)
  refine ⟨_, gg, ww, f1 _ Z2 (.lst true es) [l'] ?_ (kp_upd nz mu np)⟩
  unfold Ow
  exact ⟨l', us, [], el, rfl, upd_same, Ows.keep _ _ _ hu (kp_upd nz mu (fun h => nomatch h))⟩
theorem Ows.dropLast {ds : List D} {vs : List V} (h : Ows K H Z ds vs []) : Ows K H Z ds.dropLast vs.dropLast [] := by
  rw [List.dropLast_eq_take, List.dropLast_eq_take, ← h.len]
  exact h.take _
theorem Ows.erase {ds : List D} {vs : List V} (h : Ows K H Z ds vs []) (k : Nat) : Ows K H Z (ds.eraseIdx k) (vs.eraseIdx k) [] := by
  rw [List.eraseIdx_eq_take_drop_succ, List.eraseIdx_eq_take_drop_succ]
  exact (h.take _).append (h.drop _)
/-- x = place.pop() -/
def sSetPop (i : Nat) (p : DTP) : DTS := fun E ρ => p ρ (fun c d => ∃ ds y, d = .lst true ds ∧ frzs ds = true ∧ ds[ds.length - 1]? = some y ∧ i < (c (.lst true ds.dropLast)).length ∧ E.nx ((c (.lst true ds.dropLast)).set i (some y))) (fun C => E.ex C ρ)
theorem rs_setPop {i : Nat} {to : TE} {po : DTP} (ho : RP K W to po) (hp : pn = false ∨ i ≠ 0) : RS K W pn (tAsg (tBM0 K "list" rPop to) (gName i)) (sSetPop i po) := fun σ H Z A ρ Dn E v0 w o p r k => by
  refine ho σ H Z A ρ _ _ _ w o r (fun c dn vn H1 Z1 r1 g1 zo1 z1 => ?_) (k.xp w o p)
  obtain ⟨ds, y, ed, fd, ey, hi, r1⟩ := r1
  subst ed
  obtain ⟨C1, An, C2, eA, q1, f1⟩ := id z1
  obtain ⟨l, vs, A', ev, eAn, hl, rs⟩ := q1.lstT
  have rs0 := rs.nil' fd
  obtain ⟨u, A3, eu, ou, su⟩ := rs0.get ey
  have eA3 : A3 = [] := List.eq_nil_iff_forall_not_mem.mpr fun q hq => nomatch su q hq
  subst eA3
  refine ⟨by rw [ev]; exact .inl ⟨rfl, _, SqL.of hl⟩, l, vs, u, ev, rfl, hl, by rw [← rs.len]; exact eu, ?_⟩
  obtain ⟨B, gg, ww, oo⟩ := rewrite_fin w g1 zo1 z1 fd (es := ds.dropLast) (us := vs.dropLast) rs0.dropLast ev hl
  have ou' : Ow K (upd H1 l (.lst vs.dropLast)) Z1 y u [] := Ow.keep _ _ _ ou (kp_upd ((w.gx g1 zo1).af l (by rw [eA, eAn]; simp)) (by rw [hl]; trivial) fun h => nomatch h)
  obtain ⟨A', o', w', s⟩ := set_slot (A1 := []) hi ww oo ou'
  exact k.nx _ _ _ Z1 A' r1 (go_sub gg s) w' o' (pin_set p hp)
/-- x = place.pop(k) -/
def sSetPopAt (i : Nat) (p : DTP) (e : DTE) : DTS := fun E ρ => p ρ (fun c d => ∃ ds, d = .lst true ds ∧ frzs ds = true ∧ e ρ (fun k => ∃ kk j y, k = .int kk ∧ -(2 ^ 63) ≤ kk ∧ kk < 2 ^ 63 ∧ ixN ds.length kk = some j ∧ ds[j]? = some y ∧ i < (c (.lst true (ds.eraseIdx j))).length ∧ E.nx ((c (.lst true (ds.eraseIdx j))).set i (some y))) (fun C => E.ex C ρ)) (fun C => E.ex C ρ)
theorem rs_setPopAt {i : Nat} {to te : TE} {po : DTP} {fe : DTE} (ho : RP K W to po) (he : RE K W te fe) (hp : pn = false ∨ i ≠ 0) : RS K W pn (tAsg (tBM K "list" rPopAt to (tCons te tNil)) (gName i)) (sSetPopAt i po fe) := fun σ H Z A ρ Dn E v0 w o p r k => by
  refine ho σ H Z A ρ _ _ _ w o r (fun c dn vn H1 Z1 r1 g1 zo1 z1 => ?_) (k.xp w o p)
  have w1 := w.gx g1 zo1
  obtain ⟨ds, ed, fd, r1⟩ := r1
  subst ed
  refine ⟨?_, ?_⟩
  · obtain ⟨C1, An, C2, eA, q1, f1⟩ := id z1
    obtain ⟨l, vs, A', ev, eAn, hl, rs⟩ := q1.lstT
    rw [ev]; exact .inl ⟨rfl, _, SqL.of hl⟩
  refine he σ H1 Z1 A ρ _ _ _ w1 (o.gx w g1) r1 (fun dk vk H2 Z2 A3 r2 g2 zo2 ad2 ow2 => ?_) fun C H' Z' xc g' zo' => k.xp w o p C H' Z' xc (g1.trans zo1 g') zo'
  obtain ⟨kk, j, y, ek, k1, k2, hj, ey, hi, r2⟩ := r2
  subst ek
  have z2 := z1.gx w1 g2
  obtain ⟨C1, An, C2, eA, q1, f1⟩ := id z2
  obtain ⟨l, vs, A', ev, eAn, hl, rs⟩ := q1.lstT
  have rs0 := rs.nil' fd
  obtain ⟨u, A4, eu, ou, su⟩ := rs0.get ey
  have eA3 : A4 = [] := List.eq_nil_iff_forall_not_mem.mpr fun q hq => nomatch su q hq
  subst eA3
  refine ⟨l, vs, kk, j, u, ev, by rw [ow2.int_of], hl, k1, k2, by rw [← rs.len]; exact (ixN_seq hj).1, eu, ?_⟩
  obtain ⟨B, gg, ww, oo⟩ := rewrite_fin w (g1.trans zo1 g2) zo2 z2 fd (es := ds.eraseIdx j) (us := vs.eraseIdx j) (rs0.erase j) ev hl
  have ou' : Ow K (upd H2 l (.lst (vs.eraseIdx j))) Z2 y u [] := Ow.keep _ _ _ ou (kp_upd ((w1.gx g2 zo2).af l (by rw [eA, eAn]; simp)) (by rw [hl]; trivial) fun h => nomatch h)
  obtain ⟨A', o', w', s⟩ := set_slot (A1 := []) hi ww oo ou'
  exact k.nx _ _ _ Z2 A' r2 (go_sub gg s) w' o' (pin_set p hp)
/-- place.remove(k), of ints -/
def sRemove (p : DTP) (e : DTE) : DTS := fun E ρ => p ρ (fun c d => ∃ ns : List Int, d = .lst true (ns.map .int) ∧ e ρ (fun k => ∃ (kk : Int) (j : Nat), k = .int kk ∧ ns[j]? = some kk ∧ (∀ m : Nat, m < j → ns[m]? ≠ some kk) ∧ E.nx (c (.lst true ((ns.eraseIdx j).map .int)))) (fun C => E.ex C ρ)) (fun C => E.ex C ρ)
theorem frzs_ints : ∀ ns : List Int, frzs (ns.map D.int) = true
  | [] => rfl
  | n :: ns => by rw [List.map_cons, frzs_cons, frzs_ints ns]; rfl
theorem rs_remove {to te : TE} {po : DTP} {fe : DTE} (ho : RP K W to po) (he : RE K W te fe) : RS K W pn (tDrop (tBM K "list" rRemI to (tCons te tNil))) (sRemove po fe) := fun σ H Z A ρ Dn E v0 w o p r k => by
  refine ho σ H Z A ρ _ _ _ w o r (fun c dn vn H1 Z1 r1 g1 zo1 z1 => ?_) (k.xp w o p)
  have w1 := w.gx g1 zo1
  obtain ⟨ns, ed, r1⟩ := r1
  subst ed
  refine ⟨?_, ?_⟩
  · obtain ⟨C1, An, C2, eA, q1, f1⟩ := id z1
    obtain ⟨l, vs, A', ev, eAn, hl, rs⟩ := q1.lstT
    rw [ev]; exact .inl ⟨rfl, _, SqL.of hl⟩
  refine he σ H1 Z1 A ρ _ _ _ w1 (o.gx w g1) r1 (fun dk vk H2 Z2 A3 r2 g2 zo2 ad2 ow2 => ?_) fun C H' Z' xc g' zo' => k.xp w o p C H' Z' xc (g1.trans zo1 g') zo'
  obtain ⟨kk, j, ek, ey, hno, r2⟩ := r2
  subst ek
  have z2 := z1.gx w1 g2
  obtain ⟨C1, An, C2, eA, q1, f1⟩ := id z2
  obtain ⟨l, vs, A', ev, eAn, hl, rs⟩ := q1.lstT
  obtain ⟨evs, _⟩ := rs.ints
  subst evs
  refine ⟨l, ns, kk, j, ev, by rw [ow2.int_of], hl, ey, hno, ?_⟩
  obtain ⟨B, gg, ww, oo⟩ := rewrite_fin w (g1.trans zo1 g2) zo2 z2 (frzs_ints ns) (es := (ns.eraseIdx j).map .int) (us := (ns.eraseIdx j).map V.int) (ows_ints _) ev hl
  exact k.nx _ _ _ Z2 B r2 gg ww oo p

/-! #### a method that changes its object -/
def sMeth (C : Addr) (FN : List Str) (sp : DSpM) (p : DTP) (f : DTA) : DTS := fun E ρ => p ρ (fun c d0 => (∃ ds0, d0 = .ins true C FN ds0) ∧ f ρ (fun ds => frzs ds = true ∧ sp d0 ds (fun _ d0' => E.nx (c d0')) (fun _ => False)) (fun C => E.ex C ρ)) (fun C => E.ex C ρ)
theorem rs_meth {C : Addr} {FN : List Str} {m : Str} {sp : DSpM} {to : TE} {po : DTP} {t : TA} {f : DTA} (hm : ixF FN m = none) (ho : RP K W to po) (ha : RA K W t f) : RS K W pn (tDrop (tMethS C m (liftM K sp) (WE W) to t)) (sMeth C FN sp po f) := fun σ H Z A ρ Dn E v0 w o p r k => by
  refine ho σ H Z A ρ _ _ _ w o r (fun c dn vn H1 Z1 r1 g1 zo1 z1 => ?_) (k.xp w o p)
  have w1 := w.gx g1 zo1
  obtain ⟨⟨ds0, ed⟩, r1⟩ := r1
  subst ed
  obtain ⟨C1, An, C2, eA, q1, f1⟩ := id z1
  obtain ⟨l, dx, vs, A', ev, eAn, hp, hll, rs⟩ := q1.insT
  refine ⟨l, dx, _, ev, hp, lookup_no hm, ?_⟩
  refine ha σ H1 Z1 A ρ _ _ _ w1 (o.gx w g1) r1 (fun ds us H2 Z2 A3 r2 g2 zo2 ad2 ow2 => ?_) fun C H' Z' xc g' zo' => k.xp w o p C H' Z' xc (g1.trans zo1 g') zo'
  obtain ⟨fd, r2⟩ := r2
  have z2 := z1.gx w1 g2
  have w2 := w1.gx g2 zo2
  obtain ⟨D1, Bn, D2, eA2, q2, f2⟩ := z2
  have ndA : (D1 ++ (Bn ++ D2)).Nodup := by rw [← eA2]; exact w2.nd
  have inA : ∀ q ∈ Bn, q ∈ A := fun q hq => by rw [eA2]; simp [hq]
  have wB : Wo H2 Z2 Bn := w2.sub (List.nodup_append.mp (List.nodup_append.mp ndA).2.1).1 inA
  refine ⟨Z2, Bn, _, vn, ds, us, _, _, by rw [ev], wB, q2, ow2.nil' fd, r2, fun r' d0' v H' Z' A1 A0' hr g w' ow ow0 => ?_, fun C H' Z' A' hx => hx.elim⟩
  have gz := g1.trans zo1 g2
  -- the others stay
  have out : ∀ q ∈ D1 ++ D2, q ∉ Bn := fun q hq hb => by
    simp only [List.nodup_append, List.mem_append] at ndA hq
    grind
  have inA2 : ∀ q ∈ D1 ++ D2, q ∈ A := fun q hq => by rw [eA2]; simp at hq ⊢; rcases hq with hq | hq <;> simp [hq]
  have kk : Kp H2 Z2 (D1 ++ D2) H' Z' := by
    refine ⟨fun q u e s => g.kp q u e (fun hb => ?_) fun d => ?_, fun q u hq e => g.kp q u e (out q hq) (w2.ad q (inA2 q hq)), fun q u z e => g.kp q u e (fun hb => w2.af q (inA q hb) z) (zo2.zd q z), g.zf, g.zd⟩
    · have mu := wB.ak q hb
      rw [e] at mu
      cases u <;> first | exact mu | exact s
    · obtain ⟨a, x, b⟩ := zo2.dk q d
      rw [e] at x; cases x; exact s
  have oo := f2 H' Z' d0' A0' ow0 kk
  have w0 : Wo H' Z' A0' := w'.sub (List.nodup_append.mp w'.nd).2.1 fun q hq => List.mem_append_right _ hq
  have na : ∀ q ∈ A0', q ∈ Bn ∨ H2 q = none := fun q hq => g.na q (List.mem_append_right _ hq)
  have aD : ∀ q ∈ D1 ++ D2, MutO (H' q) ∧ ¬ Z'.fz q ∧ ¬ Z'.di q := fun q hq => by
    have mu := w2.ak q (inA2 q hq)
    refine ⟨?_, fun z => ?_, fun z => ?_⟩
    · cases e : H2 q with
      | none => rw [e] at mu; exact mu.elim
      | some u => rw [kk.ow q u hq e]; rw [e] at mu; exact mu
    · rcases g.nf q z with z | z | z
      · exact w2.af q (inA2 q hq) z
      · exact out q hq z
      · exact mu.some_of z
    · rcases g.nd q z with z | z
      · exact w2.ad q (inA2 q hq) z
      · exact mu.some_of z
  have nd' : (D1 ++ (A0' ++ D2)).Nodup := by
    have dis : ∀ q ∈ A0', q ∉ D1 ++ D2 := fun q hq hd => by
      rcases na q hq with h | h
      · exact out q hd h
      · exact (w2.ak q (inA2 q hd)).some_of h
    have n0 := w0.nd
    simp only [List.nodup_append, List.mem_append] at ndA ⊢ dis
    grind
  have ww : Wo H' Z' (D1 ++ (A0' ++ D2)) := by
    refine ⟨w'.zo, nd', fun q hq => ?_, fun q hq => ?_, fun q hq => ?_⟩ <;>
      (simp only [List.mem_append] at hq
       have h3 : q ∈ A0' ∨ q ∈ D1 ++ D2 := by simp only [List.mem_append]; grind
       rcases h3 with h | h)
    · exact w0.af q h
    · exact (aD q h).2.1
    · exact w0.ad q h
    · exact (aD q h).2.2
    · exact w0.ak q h
    · exact (aD q h).1
  refine k.nx _ σ H' Z' _ hr ((gz.go0 w zo2).trans ?_) ww oo p
  refine ⟨fun q u e ha d => g.kp q u e (fun hb => ha (inA q hb)) d, g.al, g.zf, g.zd, fun q z => ?_, g.nd, fun q hq => ?_⟩
  · rcases g.nf q z with z | z | z
    · exact .inl z
    · exact .inr (.inl (inA q z))
    · exact .inr (.inr z)
  · have h3 : q ∈ A0' ∨ q ∈ D1 ++ D2 := by simp only [List.mem_append] at hq ⊢; grind
    rcases h3 with h | h
    · exact (na q h).imp (inA q) id
    · exact .inl (inA2 q h)
end
end DL
set_option Elab.async false
set_option linter.all false
set_option maxRecDepth 100000
namespace DL
open PySem L2
section
variable {K : PySem.W.Frag} {W : WX} {pn : Bool} {v0 : V} {H H' H1 H2 H3 : Hp} {Z Z' Z1 Z2 : Zn} {A A' A1 A2 B : List Addr} {Dn : Ends} {E : DEnds}

/-! ### targets -/
abbrev DTG := D → DEnv → (DEnv → Prop) → Prop
/-- a target that sets the slots at js -/
def RG (K : PySem.W.Frag) (pn : Bool) (js : List Nat) (t : TG) (f : DTG) : Prop :=
  ∀ (d : D) (v : V) (σ : St) (H : Hp) (Z : Zn) (A : List Addr) (ρ : DEnv) (Q : St → Hp → Prop) (R : DEnv → Prop) (v0 : V), Wo H Z A → Os K H Z ρ σ A → Pin pn v0 σ → Ow K H Z d v [] → f d ρ R →
    (∀ ρ' σ' A', R ρ' → Os K H Z ρ' σ' A' → Wo H Z A' → (∀ p ∈ A', p ∈ A) → Pin pn v0 σ' → σ'.length = σ.length → (∀ j, j ∉ js → σ'[j]? = σ[j]?) → Q σ' H) → t v σ H Q
structure DG (X : Cx) (pn : Bool) (js : List Nat) (e : Expr) (t : TG) (f : DTG) : Prop where
  pe : PG X e t
  re : RG X.K pn js t f
def tgName (i : Nat) : DTG := fun d ρ R => i < ρ.length ∧ R (ρ.set i (some d))
theorem rg_name {i : Nat} (hp : pn = false ∨ i ≠ 0) : RG K pn [i] (gName i) (tgName i) := fun d v σ H Z A ρ Q R v0 w o p ow ⟨hi, r⟩ k => by
  obtain ⟨A', o', w', s⟩ := set_slot (A1 := []) hi w o ow
  refine k _ _ A' r o' w' s (pin_set p hp) (by simp) fun j hj => ?_
  rw [List.getElem?_set_ne (fun e => hj (by simp [e]))]
/-- a, b = a tuple of two frozen things -/
def tgTup2 (i j : Nat) : DTG := fun d ρ R => ∃ x y, d = .tup [x, y] ∧ frz x = true ∧ frz y = true ∧ i < ρ.length ∧ j < ρ.length ∧ R ((ρ.set i (some x)).set j (some y))
theorem rg_tup2 {i j : Nat} (hi : pn = false ∨ i ≠ 0) (hj : pn = false ∨ j ≠ 0) : RG K pn [i, j] (gTup K 2 (gCons (gName i) (gCons (gName j) gNil))) (tgTup2 i j) := fun d v σ H Z A ρ Q R v0 w o p ow ⟨x, y, ed, fx, fy, h1, h2, r⟩ k => by
  subst ed
  obtain ⟨q, vs, ev, hq, rs⟩ := ow.tup_
  unfold Ows at rs
  obtain ⟨u, us, B1, B2, e1, eB, ou, rs⟩ := rs
  unfold Ows at rs
  obtain ⟨u2, us2, B3, B4, e2, eB2, ou2, rs⟩ := rs
  unfold Ows at rs
  obtain ⟨e3, _⟩ := rs
  subst e3 e2 e1
  have n1 := Ow.nil_of _ _ _ ou fx
  have n2 := Ow.nil_of _ _ _ ou2 fy
  subst n1 n2
  obtain ⟨A', o', w', s⟩ := set_slot (A1 := []) h1 w o ou
  obtain ⟨A'', o'', w'', s'⟩ := set_slot (A1 := []) (i := j) (by simpa using h2) w' o' ou2
  refine ⟨q, _, ev, hq, rfl, u, _, rfl, u2, _, rfl, rfl, k _ _ A'' r o'' w'' (fun p hp => s p (s' p hp)) (pin_set (pin_set p hi) hj) (by simp) fun m hm => ?_⟩
  rw [List.getElem?_set_ne (fun e => hm (by simp [e])), List.getElem?_set_ne (fun e => hm (by simp [e]))]
def tgTup3 (i j l : Nat) : DTG := fun d ρ R => ∃ x y z, d = .tup [x, y, z] ∧ frz x = true ∧ frz y = true ∧ frz z = true ∧ i < ρ.length ∧ j < ρ.length ∧ l < ρ.length ∧ R (((ρ.set i (some x)).set j (some y)).set l (some z))
theorem rg_tup3 {i j l : Nat} (hi : pn = false ∨ i ≠ 0) (hj : pn = false ∨ j ≠ 0) (hl : pn = false ∨ l ≠ 0) : RG K pn [i, j, l] (gTup K 3 (gCons (gName i) (gCons (gName j) (gCons (gName l) gNil)))) (tgTup3 i j l) := fun d v σ H Z A ρ Q R v0 w o p ow ⟨x, y, z, ed, fx, fy, fz', h1, h2, h3, r⟩ k => by
  subst ed
  obtain ⟨q, vs, ev, hq, rs⟩ := ow.tup_
  unfold Ows at rs
  obtain ⟨u, us, B1, B2, e1, eB, ou, rs⟩ := rs
  unfold Ows at rs
  obtain ⟨u2, us2, B3, B4, e2, eB2, ou2, rs⟩ := rs
  unfold Ows at rs
  obtain ⟨u3, us3, B5, B6, e3, eB3, ou3, rs⟩ := rs
  unfold Ows at rs
  obtain ⟨e4, _⟩ := rs
  subst e4 e3 e2 e1
  have n1 := Ow.nil_of _ _ _ ou fx
  have n2 := Ow.nil_of _ _ _ ou2 fy
  have n3 := Ow.nil_of _ _ _ ou3 fz'
  subst n1 n2 n3
  obtain ⟨A', o', w', s⟩ := set_slot (A1 := []) h1 w o ou
  obtain ⟨A'', o'', w'', s'⟩ := set_slot (A1 := []) (i := j) (by simpa using h2) w' o' ou2
  obtain ⟨A3, o3, w3, s3⟩ := set_slot (A1 := []) (i := l) (by simpa using h3) w'' o'' ou3
  refine ⟨q, _, ev, hq, rfl, u, _, rfl, u2, _, rfl, u3, _, rfl, rfl, k _ _ A3 r o3 w3 (fun p hp => s p (s' p (s3 p hp))) (pin_set (pin_set (pin_set p hi) hj) hl) (by simp) fun m hm => ?_⟩
  rw [List.getElem?_set_ne (fun e => hm (by simp [e])), List.getElem?_set_ne (fun e => hm (by simp [e])), List.getElem?_set_ne (fun e => hm (by simp [e]))]
/-- a, b = value, as a statement -/
def dAsg (f : DTE) (g : DTG) : DTS := fun E ρ => f ρ (fun d => frz d = true ∧ g d ρ E.nx) (fun C => E.ex C ρ)
theorem rs_asg {t : TE} {f : DTE} {g : TG} {dg : DTG} {js : List Nat} (h : RE K W t f) (hg : RG K pn js g dg) : RS K W pn (tAsg t g) (dAsg f dg) := fun σ H Z A ρ Dn E v0 w o p r k => by
  refine h σ H Z A ρ _ _ _ w o r (fun d v H1 Z1 A1 r1 g1 zo1 ad1 ow1 => ?_) (k.xp w o p)
  have e := Ow.nil_of _ _ _ ow1 r1.1
  subst e
  refine hg d v σ H1 Z1 A ρ _ _ v0 (w.gx g1 zo1) (o.gx w g1) p ow1 r1.2 fun ρ' σ' A' r' o' w' s p' _ _ => ?_
  exact k.nx ρ' σ' H1 Z1 A' r' (go_sub (g1.go0 w zo1) s) w' o' p'

/-! ### for -/
/-- the turns of a loop over items -/
def Turns (xs : List D) (tg : DTG) (b : DTS) (E : DEnds) (ρ : DEnv) : Prop :=
  ∃ Pv : Nat → DEnv → Prop, Pv 0 ρ ∧ (∀ k x ρ', xs[k]? = some x → Pv k ρ' → tg x ρ' fun ρ2 => b { E with nx := Pv (k + 1), ct := Pv (k + 1), bk := E.nx } ρ2) ∧ ∀ ρ', Pv xs.length ρ' → E.nx ρ'
/-- one turn, from where the iterator stands -/
theorem turn_core {g : TG} {tb : TS} {dg : DTG} {b : DTS} {js : List Nat} {x : D} {v : V} {σ : St} {ρ : DEnv} {N : DEnv → Prop} {Nn : St → Hp → Prop} (hg : RG K pn js g dg) (hb : RS K W pn tb b)
    (k : EndsOk K W pn v0 H Z A Dn E) (go : Go H Z A H1 Z1 A1) (w1 : Wo H1 Z1 A1) (o1 : Os K H1 Z1 ρ σ A1) (p1 : Pin pn v0 σ) (ox : Ow K H1 Z1 x v [])
    (d : dg x ρ fun ρ2 => b { E with nx := N, ct := N, bk := E.nx } ρ2)
    (hN : ∀ ρ' σ' H' Z' A', N ρ' → Go H Z A H' Z' A' → Wo H' Z' A' → Os K H' Z' ρ' σ' A' → Pin pn v0 σ' → Nn σ' H') :
    g v σ H1 fun σ2 H2 => tb { Dn with nx := Nn, ct := Nn, bk := Dn.nx } σ2 H2 := by
  refine hg x v σ H1 Z1 A1 ρ _ _ v0 w1 o1 p1 ox d fun ρ2 σ2 A2 r2 o2 w2 s2 p2 _ _ => ?_
  have go2 : Go H Z A H1 Z1 A2 := go_sub go s2
  refine hb σ2 H1 Z1 A2 ρ2 _ _ v0 w2 o2 p2 r2 ?_
  have k2 := k.shift go2
  exact ⟨fun ρ' σ' H' Z' A' r g' w' o' p' => hN ρ' σ' H' Z' A' r (go2.trans g') w' o' p', k2.nx, fun ρ' σ' H' Z' A' r g' w' o' p' => hN ρ' σ' H' Z' A' r (go2.trans g') w' o' p', k2.rt, k2.ex⟩
/-- what is frozen stays, whatever is changed -/
theorem Go.kp0 (g : Go H Z A H' Z' A') (w : Wo H Z A) : Kp H Z [] H' Z' := by
  refine ⟨fun q u e s => g.kp q u e (fun hb => ?_) fun d => ?_, fun q u hq e => (nomatch hq), fun q u z e => g.kp q u e (fun hb => w.af q hb z) (w.zo.zd q z), g.zf, g.zd⟩
  · have mu := w.ak q hb
    rw [e] at mu
    cases u <;> first | exact mu | exact s
  · obtain ⟨a, x, b⟩ := w.zo.dk q d
    rw [e] at x; cases x; exact s
def dForL (fi : DTE) (tg : DTG) (b : DTS) : DTS := fun E ρ => fi ρ (fun d => ∃ o ds, d = .lst o ds ∧ frzs ds = true ∧ Turns ds tg b E ρ) (fun C => E.ex C ρ)
theorem rs_forL {ti : TE} {g : TG} {tb : TS} {fi : DTE} {dg : DTG} {b : DTS} {js : List Nat} (hi : RF K W ti fi) (hg : RG K pn js g dg) (hb : RS K W pn tb b) : RS K W pn (tFor (iList K ti) g tb) (dForL fi dg b) := fun σ H Z A ρ Dn E v0 w o p r k => by
  refine hi σ H Z A ρ _ _ _ w o r (fun d v H1 Z0 A1 r1 g0 zo0 fr0 ow0 => ?_) (k.xp w o p)
  obtain ⟨o', ds, ed, fd, Pv, h0, hs, hd⟩ := r1
  obtain ⟨Z1, g1, zo1, ow1⟩ := frozen_step ow0 zo0 fr0 g0
  subst ed
  unfold fz at ow1
  rw [fzs_of_frzs ds fd] at ow1
  obtain ⟨a, vs, ev, _, hl, hz, rs⟩ := ow1.lstF
  refine ⟨a, ev, ⟨vs, SqL.of hl⟩, ?_⟩
  have w1 := w.gx g1 zo1
  have k1 := k.shift (g1.go0 w zo1)
  refine for_list (K := K) (a := a) (xs := vs) (fun i σ' H' => ∃ ρ' Z' A', Pv i ρ' ∧ Go H1 Z1 A H' Z' A' ∧ Wo H' Z' A' ∧ Os K H' Z' ρ' σ' A' ∧ Pin pn v0 σ')
    ⟨ρ, Z1, A, h0, Go.refl, w1, o.gx w g1, p⟩ (fun i σ' H' _ ⟨_, _, _, _, go, _⟩ => SqL.of ((go.kp0 w1).zk _ _ hz hl)) ?_ ?_
  · rintro i x σ' H' hx ⟨ρ', Z', A', pv, go, w', o', p'⟩
    have hi' : i < ds.length := by
      have := (List.getElem?_eq_some_iff.mp hx).1
      rw [rs.len]; exact this
    obtain ⟨u, A3, eu, ou, su⟩ := (Ows.keep _ _ _ rs (go.kp0 w1)).get (List.getElem?_eq_getElem hi')
    have eA3 : A3 = [] := List.eq_nil_iff_forall_not_mem.mpr fun q hq => nomatch su q hq
    subst eA3
    rw [hx] at eu
    cases eu
    exact turn_core hg hb k1 go w' o' p' ou (hs i _ ρ' (List.getElem?_eq_getElem hi') pv) fun ρ2 σ2 H2 Z2 A2 r2 go2 w2 o2 p2 => ⟨ρ2, Z2, A2, r2, go2, w2, o2, p2⟩
  · rintro σ' H' ⟨ρ', Z', A', pv, go, w', o', p'⟩
    rw [← rs.len] at pv
    exact k1.nx ρ' σ' H' Z' A' (hd ρ' pv) go w' o' p'
def dForT (fi : DTE) (tg : DTG) (b : DTS) : DTS := fun E ρ => fi ρ (fun d => ∃ ds, d = .tup ds ∧ frzs ds = true ∧ Turns ds tg b E ρ) (fun C => E.ex C ρ)
theorem rs_forT {ti : TE} {g : TG} {tb : TS} {fi : DTE} {dg : DTG} {b : DTS} {js : List Nat} (hi : RE K W ti fi) (hg : RG K pn js g dg) (hb : RS K W pn tb b) : RS K W pn (tFor (iTup K ti) g tb) (dForT fi dg b) := fun σ H Z A ρ Dn E v0 w o p r k => by
  refine hi σ H Z A ρ _ _ _ w o r (fun d v H1 Z1 A1 r1 g1 zo1 ad1 ow1 => ?_) (k.xp w o p)
  obtain ⟨ds, ed, fd, Pv, h0, hs, hd⟩ := r1
  subst ed
  obtain ⟨a, vs, ev, hl, rs0⟩ := ow1.tup_
  have rs := rs0.nil' fd
  refine ⟨a, ev, ⟨vs, hl⟩, ?_⟩
  have w1 := w.gx g1 zo1
  have k1 := k.shift (g1.go0 w zo1)
  refine for_tup (K := K) (a := a) (xs := vs) (fun i σ' H' => ∃ ρ' Z' A', Pv i ρ' ∧ Go H1 Z1 A H' Z' A' ∧ Wo H' Z' A' ∧ Os K H' Z' ρ' σ' A' ∧ Pin pn v0 σ')
    ⟨ρ, Z1, A, h0, Go.refl, w1, o.gx w g1, p⟩ (fun i σ' H' _ ⟨_, _, _, _, go, _⟩ => sqT_keep (go.kp0 w1).st hl) ?_ ?_
  · rintro i x σ' H' hx ⟨ρ', Z', A', pv, go, w', o', p'⟩
    have hi' : i < ds.length := by
      have := (List.getElem?_eq_some_iff.mp hx).1
      rw [rs.len]; exact this
    obtain ⟨u, A3, eu, ou, su⟩ := (Ows.keep _ _ _ rs (go.kp0 w1)).get (List.getElem?_eq_getElem hi')
    have eA3 : A3 = [] := List.eq_nil_iff_forall_not_mem.mpr fun q hq => nomatch su q hq
    subst eA3
    rw [hx] at eu
    cases eu
    exact turn_core hg hb k1 go w' o' p' ou (hs i _ ρ' (List.getElem?_eq_getElem hi') pv) fun ρ2 σ2 H2 Z2 A2 r2 go2 w2 o2 p2 => ⟨ρ2, Z2, A2, r2, go2, w2, o2, p2⟩
  · rintro σ' H' ⟨ρ', Z', A', pv, go, w', o', p'⟩
    rw [← rs.len] at pv
    exact k1.nx ρ' σ' H' Z' A' (hd ρ' pv) go w' o' p'
/-- the turns of a loop over range(n) -/
def TurnsR (n : Nat) (tg : DTG) (b : DTS) (E : DEnds) (ρ : DEnv) : Prop :=
  ∃ Pv : Nat → DEnv → Prop, Pv 0 ρ ∧ (∀ (k : Nat) ρ', k < n → Pv k ρ' → tg (.int k) ρ' fun ρ2 => b { E with nx := Pv (k + 1), ct := Pv (k + 1), bk := E.nx } ρ2) ∧ ∀ ρ', Pv n ρ' → E.nx ρ'
def dForR (fa : DTA) (tg : DTG) (b : DTS) : DTS := fun E ρ => fa ρ (fun ds => ∃ j : Int, ds = [.int j] ∧ -(2 ^ 62) ≤ j ∧ j < 2 ^ 62 ∧ TurnsR j.toNat tg b E ρ) (fun C => E.ex C ρ)
theorem rs_forR {ta : TA} {g : TG} {tb : TS} {fa : DTA} {dg : DTG} {b : DTS} {js : List Nat} (ha : RA K W ta fa) (hg : RG K pn js g dg) (hb : RS K W pn tb b) : RS K W pn (tFor (iRng1 ta) g tb) (dForR fa dg b) := fun σ H Z A ρ Dn E v0 w o p r k => by
  refine ha σ H Z A ρ _ _ _ w o r (fun ds us H1 Z1 A1 r1 g1 zo1 ad1 ow1 => ?_) (k.xp w o p)
  obtain ⟨j, ed, j1, j2, Pv, h0, hs, hd⟩ := r1
  subst ed
  obtain ⟨v, ev, ov⟩ := ow1.one
  have e := ov.int_of
  subst ev e
  refine ⟨j, rfl, j1, j2, ?_⟩
  have w1 := w.gx g1 zo1
  have k1 := k.shift (g1.go0 w zo1)
  refine for_range (lo := 0) (n := j.toNat) (fun i σ' H' => ∃ ρ' Z' A', Pv i ρ' ∧ Go H1 Z1 A H' Z' A' ∧ Wo H' Z' A' ∧ Os K H' Z' ρ' σ' A' ∧ Pin pn v0 σ')
    ⟨ρ, Z1, A, h0, Go.refl, w1, o.gx w g1, p⟩ ?_ ?_
  · rintro i σ' H' hi ⟨ρ', Z', A', pv, go, w', o', p'⟩
    have e0 : (0 : Int) + (i : Int) = (i : Int) := by omega
    rw [e0]
    exact turn_core hg hb k1 go w' o' p' ow_int (hs i ρ' hi pv) fun ρ2 σ2 H2 Z2 A2 r2 go2 w2 o2 p2 => ⟨ρ2, Z2, A2, r2, go2, w2, o2, p2⟩
  · rintro σ' H' ⟨ρ', Z', A', pv, go, w', o', p'⟩
    exact k1.nx ρ' σ' H' Z' A' (hd ρ' pv) go w' o' p'

/-! ### while -/
def dWhile (c : DTT) (b : DTS) : DTS := fun E ρ => ∃ Pv : Nat → DEnv → Prop, (∃ m, Pv m ρ) ∧ ∀ m ρ', Pv m ρ' → c ρ' (fun x => if x = true then b { E with nx := fun ρ2 => ∃ m', m' < m ∧ Pv m' ρ2, ct := fun ρ2 => ∃ m', m' < m ∧ Pv m' ρ2, bk := E.nx } ρ' else E.nx ρ') (fun C => E.ex C ρ')
theorem rs_while {tc : TT} {tb : TS} {c : DTT} {b : DTS} (hc : RT K W tc c) (hb : RS K W pn tb b) : RS K W pn (tWhile tc tb) (dWhile c b) := fun σ H Z A ρ Dn E v0 w o p ⟨Pv, ⟨m0, h0⟩, hs⟩ k => by
  refine ⟨fun m σ' H' => ∃ ρ' Z' A', Pv m ρ' ∧ Go H Z A H' Z' A' ∧ Wo H' Z' A' ∧ Os K H' Z' ρ' σ' A' ∧ Pin pn v0 σ', ⟨m0, ρ, Z, A, h0, Go.refl, w, o, p⟩, ?_⟩
  rintro m σ' H' ⟨ρ', Z', A', pv, go, w', o', p'⟩
  have k' := k.shift go
  refine hc σ' H' Z' A' ρ' _ _ _ w' o' (hs m ρ' pv) (fun x H1 Z1 r1 g1 zo1 => ?_) (k'.xp w' o' p')
  have w1 := w'.gx g1 zo1
  have go1 := go.trans (g1.go0 w' zo1)
  cases x with
  | true =>
    rw [if_pos rfl] at r1 ⊢
    refine ⟨fun σ2 H2 => ∃ m', m' < m ∧ ∃ ρ2 Z2 A2, Pv m' ρ2 ∧ Go H Z A H2 Z2 A2 ∧ Wo H2 Z2 A2 ∧ Os K H2 Z2 ρ2 σ2 A2 ∧ Pin pn v0 σ2, fun σ2 H2 h => h, ?_⟩
    have k1 := k.shift go1
    exact hb σ' H1 Z1 A' ρ' _ _ v0 w1 (o'.gx w' g1) p' r1 ⟨fun ρ2 σ2 H2 Z2 A2 ⟨m', hm, r⟩ g' w2 o2 p2 => ⟨m', hm, ρ2, Z2, A2, r, go1.trans g', w2, o2, p2⟩, k1.nx, fun ρ2 σ2 H2 Z2 A2 ⟨m', hm, r⟩ g' w2 o2 p2 => ⟨m', hm, ρ2, Z2, A2, r, go1.trans g', w2, o2, p2⟩, k1.rt, k1.ex⟩
  | false =>
    rw [if_neg Bool.false_ne_true] at r1 ⊢
    exact k.nx ρ' σ' H1 Z1 A' r1 go1 w1 (o'.gx w' g1) p'
end
end DL
set_option Elab.async false
set_option linter.all false
set_option maxRecDepth 100000
namespace DL
open PySem L2

/-! ### list comprehensions -/
abbrev WNo : WX := fun _ _ _ _ => False
def wipeD (ρ : DEnv) : List Nat → DEnv
  | [] => ρ
  | v :: vs => (wipeD ρ vs).set v none
section
variable {K : PySem.W.Frag} {W : WX} {pn : Bool} {v0 : V} {H H' H1 H2 H3 : Hp} {Z Z' Z1 Z2 Z3 : Zn} {A A' A1 A2 B : List Addr} {Dn : Ends} {E : DEnds}
theorem wipeD_length (ρ : DEnv) : ∀ vs : List Nat, (wipeD ρ vs).length = ρ.length
  | [] => rfl
  | v :: vs => by unfold wipeD; rw [List.length_set, wipeD_length ρ vs]
theorem os_wipe {ρ : DEnv} {σ : St} (w : Wo H Z A) (o : Os K H Z ρ σ A) : ∀ vs : List Nat, ∃ A', Os K H Z (wipeD ρ vs) (wipe σ vs) A' ∧ Wo H Z A' ∧ ∀ p ∈ A', p ∈ A
  | [] => ⟨A, o, w, fun _ h => h⟩
  | v :: vs => by
    obtain ⟨A', o', w', s⟩ := os_wipe w o vs
    unfold wipeD wipe
    by_cases hv : v < (wipeD ρ vs).length
    · obtain ⟨B1, Ai, B2, oi, eA, e3, q1, f⟩ := o'.at (List.getElem?_eq_getElem hv)
      subst eA
      have kk : Kp H Z (B1 ++ B2) H Z := ⟨fun _ _ e _ => e, fun _ _ _ e => e, fun _ _ _ e => e, fun _ h => h, fun _ h => ⟨h, rfl⟩⟩
      have o2 := f none none [] H Z rfl kk
      have nd := (List.nodup_append.mp (nd_mid w'.nd)).2.1
      have sub : ∀ p ∈ B1 ++ ([] ++ B2), p ∈ B1 ++ (Ai ++ B2) := fun p hp => by simp at hp ⊢; rcases hp with hp | hp <;> simp [hp]
      exact ⟨_, o2, w'.sub (by simpa using nd) sub, fun p hp => s p (sub p hp)⟩
    · rw [List.set_eq_of_length_le (by omega), List.set_eq_of_length_le (by rw [← o'.len]; omega)]
      exact ⟨A', o', w', s⟩
theorem wipe_get (σ : St) {j : Nat} : ∀ vs : List Nat, j < σ.length → j ∈ vs → (wipe σ vs)[j]? = some none
  | [], _, h => nomatch h
  | v :: vs, hl, h => by
    unfold wipe
    by_cases e : v = j
    · subst e
      rw [List.getElem?_set_self (by rw [wipe_length]; exact hl)]
    · rw [List.getElem?_set_ne e]
      exact wipe_get σ vs hl (by rcases List.mem_cons.mp h with h | h; exact absurd h.symm e; exact h)
theorem wipe_out' (σ : St) {j : Nat} : ∀ vs : List Nat, j ∉ vs → (wipe σ vs)[j]? = σ[j]?
  | [], _ => rfl
  | v :: vs, h => by
    unfold wipe
    rw [List.getElem?_set_ne (fun e => h (by simp [e]))]
    exact wipe_out' σ vs fun q => h (List.mem_cons_of_mem _ q)
theorem wipe_same {σ σ2 : St} {vs js : List Nat} (hl : σ2.length = σ.length) (h : ∀ j, j ∉ js → σ2[j]? = (wipe σ vs)[j]?) (hs : ∀ j ∈ js, j ∈ vs) : wipe σ2 vs = wipe σ vs := by
  refine List.ext_getElem? fun j => ?_
  by_cases hj : j ∈ vs
  · by_cases hjl : j < σ.length
    · rw [wipe_get σ2 vs (by omega) hj, wipe_get σ vs hjl hj]
    · rw [List.getElem?_eq_none (by rw [wipe_length]; omega), List.getElem?_eq_none (by rw [wipe_length]; omega)]
  · rw [wipe_out' σ2 vs hj]
    exact h j fun q => hj (hs j q)

/-- the turns of a comprehension -/
def LTurns (xs : List D) (tg : DTG) (tt : DTT) (te : DTE) (own : List Nat) (ρ : DEnv) (R : D → Prop) : Prop :=
  ∃ Pv : Nat → List D → Prop, Pv 0 [] ∧ (∀ k x acc, xs[k]? = some x → Pv k acc → tg x (wipeD ρ own) fun ρ2 => tt ρ2 (fun b => if b = true then te ρ2 (fun y => acc.length < sizeLine ∧ Pv (k + 1) (acc ++ [y])) (fun _ => False) else Pv (k + 1) acc) fun _ => False) ∧
    ∀ acc, Pv xs.length acc → R (.lst true acc)
/-- what has been made so far, at the new list D -/
def CI (K : PySem.W.Frag) (H1 : Hp) (Z1 : Zn) (L : Addr) (Pv : Nat → List D → Prop) (i : Nat) (H' : Hp) : Prop :=
  ∃ (Z' : Zn) (Aa : List Addr) (vs : List V) (acc : List D), Pv i acc ∧ Gx H1 Z1 H' Z' ∧ Zo H' Z' ∧ Fr H1 H' Z' (L :: Aa) ∧ H' L = some (.lst vs) ∧ Ows K H' Z' acc vs Aa
theorem ci_start {L : Addr} {Pv : Nat → List D → Prop} (zo : Zo H1 Z1) (h : H1 L = none) (p : Pv 0 []) : CI K H1 Z1 L Pv 0 (upd H1 L (.lst [])) :=
  ⟨Z1, [], [], [], p, (gx_new zo h).1, (gx_new zo h).2, fr_new zo h, upd_same, by unfold Ows; exact ⟨rfl, rfl⟩⟩
theorem ci_end {L : Addr} {Pv : Nat → List D → Prop} {n : Nat} {Q : VK} (g : Gx H Z H1 Z1) (zo1 : Zo H1 Z1) (c : CI K H1 Z1 L Pv n H')
    (k : ∀ acc Z' Aa, Pv n acc → Gx H Z H' Z' → Zo H' Z' → Fr H H' Z' (L :: Aa) → Ow K H' Z' (.lst true acc) (.ref L) (L :: Aa) → Q (.ref L) H') : Q (.ref L) H' := by
  obtain ⟨Z', Aa, vs, acc, p, g', zo', fr, hl, o⟩ := c
  exact k acc Z' Aa p (g.trans zo1 g') zo' (fr.back g zo1) (by unfold Ow; exact ⟨L, vs, Aa, rfl, rfl, hl, o⟩)
theorem ci_put {L : Addr} {acc : List D} {vs : List V} {Aa : List Addr} {y : D} {vy : V} (g : Gx H1 Z1 H2 Z2) (zo2 : Zo H2 Z2) (fr : Fr H1 H2 Z2 (L :: Aa)) (hl : H2 L = some (.lst vs)) (o : Ows K H2 Z2 acc vs Aa)
    (g3 : Gx H2 Z2 H3 Z3) (zo3 : Zo H3 Z3) (fr3 : Fr H2 H3 Z3 A1) (oy : Ow K H3 Z3 y vy A1) :
    H3 L = some (.lst vs) ∧ Gx H1 Z1 (upd H3 L (.lst (vs ++ [vy]))) Z3 ∧ Zo (upd H3 L (.lst (vs ++ [vy]))) Z3 ∧ Fr H1 (upd H3 L (.lst (vs ++ [vy]))) Z3 (L :: (Aa ++ A1)) ∧
      Ows K (upd H3 L (.lst (vs ++ [vy]))) Z3 (acc ++ [y]) (vs ++ [vy]) (Aa ++ A1) := by
  have hL : H3 L = some (.lst vs) := g3.kp L _ hl (fr.ad L List.mem_cons_self)
  have frA := fr.app zo2 g g3 zo3 fr3
  have nLz : ¬ Z3.fz L := frA.af L (by simp)
  have nLd : ¬ Z3.di L := frA.ad L (by simp)
  have n1 : H1 L = none := fr.nw L List.mem_cons_self
  have g13 := g.trans zo2 g3
  have ndA := frA.nd
  have nLA : L ∉ Aa ++ A1 := by
    rw [List.cons_append] at ndA
    exact (List.nodup_cons.mp ndA).1
  have kk : Kp H3 Z3 (Aa ++ A1) (upd H3 L (.lst (vs ++ [vy]))) Z3 := kp_upd nLz (by rw [hL]; trivial) nLA
  refine ⟨hL, ⟨fun q u e d => ?_, g13.zf, g13.zd, g13.nf, g13.nd⟩, ⟨zo3.zd, fun q z => ?_, fun q z => ?_⟩, ⟨?_, fun q hq => frA.af q ?_, fun q hq => frA.ad q ?_, fun q hq => ?_, fun q hq => frA.nw q ?_⟩, ?_⟩
  · have ne : q ≠ L := fun e' => by rw [e', n1] at e; cases e
    rw [upd_ne ne]; exact g13.kp q u e d
  · by_cases e : q = L
    · rw [e, upd_same]; exact fun n => nomatch n
    · rw [upd_ne e]; exact zo3.zh q z
  · have ne : q ≠ L := fun e' => nLd (e' ▸ z)
    obtain ⟨a, e, b⟩ := zo3.dk q z
    exact ⟨a, by rw [upd_ne ne]; exact e, b⟩
  · rw [List.cons_append] at ndA; exact ndA
  · rw [List.cons_append]; exact hq
  · rw [List.cons_append]; exact hq
  · by_cases e : q = L
    · rw [e, upd_same]; trivial
    · rw [upd_ne e]; exact frA.ak q (by rw [List.cons_append]; exact hq)
  · rw [List.cons_append]; exact hq
  · refine (Ows.keep _ _ _ (o.gx zo2 (fun q hq => fr.ad q (List.mem_cons_of_mem _ hq)) g3) (kk.sub fun q hq => List.mem_append_left _ hq)).append ?_
    unfold Ows
    exact ⟨vy, [], A1, [], rfl, by simp, Ow.keep _ _ _ oy (kk.sub fun q hq => List.mem_append_right _ hq), by unfold Ows; exact ⟨rfl, rfl⟩⟩
/-- a turn -/
theorem ci_turn {g : TG} {tt : TT} {te : TE} {dg : DTG} {dt : DTT} {de : DTE} {js own : List Nat} {σ : St} {ρ : DEnv} {L : Addr} {Pv : Nat → List D → Prop} {i : Nat} {x : D} {v : V} (hg : RG K false js g dg) (ht : RT K WNo tt dt) (he : RF K WNo te de)
    (hs : ∀ j ∈ js, j ∈ own) (w1 : Wo H1 Z1 A) (o1 : Os K H1 Z1 ρ σ A) (c : CI K H1 Z1 L Pv i H') (ox : Ow K H1 Z1 x v [])
    (d : ∀ acc, Pv i acc → dg x (wipeD ρ own) fun ρ2 => dt ρ2 (fun b => if b = true then de ρ2 (fun y => acc.length < sizeLine ∧ Pv (i + 1) (acc ++ [y])) (fun _ => False) else Pv (i + 1) acc) fun _ => False) :
    g v (wipe σ own) H' fun σ2 H2 => wipe σ2 own = wipe σ own ∧ tt σ2 H2 fun b H3 =>
      if b = true then te σ2 H3 fun y H4 => ∃ acc, H4 L = some (.lst acc) ∧ acc.length < sizeLine ∧ CI K H1 Z1 L Pv (i + 1) (upd H4 L (.lst (acc ++ [y]))) else CI K H1 Z1 L Pv (i + 1) H3 := by
  obtain ⟨Z', Aa, vs, acc, p, g', zo', fr, hl, oa⟩ := c
  have w' := w1.gx g' zo'
  obtain ⟨A2, o2, w2, s2⟩ := os_wipe w' (o1.gx w1 g') own
  refine hg x v (wipe σ own) H' Z' A2 (wipeD ρ own) _ _ v w2 o2 (fun e => nomatch e) (ox.gx w1.zo (fun _ h => nomatch h) g') (d acc p) fun ρ3 σ3 A3 r3 o3 w3 s3 _ hl3 hj3 => ?_
  refine ⟨wipe_same (by rw [hl3, wipe_length]) hj3 hs, ?_⟩
  refine ht σ3 H' Z' A3 ρ3 _ _ _ w3 o3 r3 (fun b H2 Z2 r4 g4 zo4 => ?_) fun C H' Z' xc => xc.elim
  have fr4 := fr.gx zo' g4 zo4
  have hl4 : H2 L = some (.lst vs) := g4.kp L _ hl (fr.ad L List.mem_cons_self)
  have oa4 := oa.gx zo' (fun q hq => fr.ad q (List.mem_cons_of_mem _ hq)) g4
  have g14 := g'.trans zo' g4
  cases b with
  | false =>
    rw [if_neg Bool.false_ne_true] at r4 ⊢
    exact ⟨Z2, Aa, vs, acc, r4, g14, zo4, fr4, hl4, oa4⟩
  | true =>
    rw [if_pos rfl] at r4 ⊢
    refine he σ3 H2 Z2 A3 ρ3 _ _ _ (w3.gx g4 zo4) (o3.gx w3 g4) r4 (fun y vy H3 Z3 A1 r5 g5 zo5 fr5 oy => ?_) fun C H' Z' xc => xc.elim
    obtain ⟨hL, gg, zz, ff, oo⟩ := ci_put g14 zo4 fr4 hl4 oa4 g5 zo5 fr5 oy
    exact ⟨vs, hL, by rw [← oa.len]; exact r5.1, Z3, Aa ++ A1, _, _, r5.2, gg, zz, ff, upd_same, oo⟩
def dLcL (fi : DTE) (tg : DTG) (tt : DTT) (te : DTE) (own : List Nat) : DTE := fun ρ R X => fi ρ (fun d => ∃ o ds, d = .lst o ds ∧ frzs ds = true ∧ LTurns ds tg tt te own ρ R) X
theorem rf_lcL {ti : TE} {g : TG} {tt : TT} {te : TE} {fi : DTE} {dg : DTG} {dt : DTT} {de : DTE} {js own : List Nat} (hi : RF K W ti fi) (hg : RG K false js g dg) (ht : RT K WNo tt dt) (he : RF K WNo te de) (hs : ∀ j ∈ js, j ∈ own) :
    RF K W (tLc (iList K ti) g tt te own) (dLcL fi dg dt de own) := fun σ H Z A ρ Q R X w o q k x => by
  refine hi σ H Z A ρ _ _ X w o q (fun d v H1 Z0 A1 r1 g0 zo0 fr0 ow0 => ?_) x
  obtain ⟨o', ds, ed, fd, Pv, h0, hst, hd⟩ := r1
  obtain ⟨Z1, g1, zo1, ow1⟩ := frozen_step ow0 zo0 fr0 g0
  subst ed
  unfold fz at ow1
  rw [fzs_of_frzs ds fd] at ow1
  obtain ⟨a, vs, ev, _, hl, hz, rs⟩ := ow1.lstF
  refine ⟨a, ev, ⟨vs, SqL.of hl⟩, fun L hL => ?_⟩
  have w1 := w.gx g1 zo1
  refine lc_list (K := K) (a := a) (xs := vs) (fun i H' => CI K H1 Z1 L Pv i H') (ci_start zo1 hL h0) (fun i H' _ c => ?_) (fun i x H' hx c => ?_) fun H' c => ?_
  · obtain ⟨Z', Aa, us, acc, p, g', zo', _⟩ := c
    exact SqL.of (g'.kp _ _ hl (zo1.zd _ hz))
  · have hi' : i < ds.length := by
      have := (List.getElem?_eq_some_iff.mp hx).1
      rw [rs.len]; exact this
    obtain ⟨u, A3, eu, ou, su⟩ := rs.get (List.getElem?_eq_getElem hi')
    have eA3 : A3 = [] := List.eq_nil_iff_forall_not_mem.mpr fun q hq => nomatch su q hq
    subst eA3
    rw [hx] at eu
    cases eu
    exact ci_turn hg ht he hs w1 (o.gx w g1) c ou fun acc p => hst i _ acc (List.getElem?_eq_getElem hi') p
  · rw [← rs.len] at c
    exact ci_end g1 zo1 c fun acc Z' Aa p g zo fr ow => k _ _ _ Z' _ (hd acc p) g zo fr ow
def dLcT (fi : DTE) (tg : DTG) (tt : DTT) (te : DTE) (own : List Nat) : DTE := fun ρ R X => fi ρ (fun d => ∃ ds, d = .tup ds ∧ frzs ds = true ∧ LTurns ds tg tt te own ρ R) X
theorem rf_lcT {ti : TE} {g : TG} {tt : TT} {te : TE} {fi : DTE} {dg : DTG} {dt : DTT} {de : DTE} {js own : List Nat} (hi : RE K W ti fi) (hg : RG K false js g dg) (ht : RT K WNo tt dt) (he : RF K WNo te de) (hs : ∀ j ∈ js, j ∈ own) :
    RF K W (tLc (iTup K ti) g tt te own) (dLcT fi dg dt de own) := fun σ H Z A ρ Q R X w o q k x => by
  refine hi σ H Z A ρ _ _ X w o q (fun d v H1 Z1 A1 r1 g1 zo1 ad1 ow1 => ?_) x
  obtain ⟨ds, ed, fd, Pv, h0, hst, hd⟩ := r1
  subst ed
  obtain ⟨a, vs, ev, hl, rs0⟩ := ow1.tup_
  have rs := rs0.nil' fd
  refine ⟨a, ev, ⟨vs, hl⟩, fun L hL => ?_⟩
  have w1 := w.gx g1 zo1
  refine lc_tup (K := K) (a := a) (xs := vs) (fun i H' => CI K H1 Z1 L Pv i H') (ci_start zo1 hL h0) (fun i H' _ c => ?_) (fun i x H' hx c => ?_) fun H' c => ?_
  · obtain ⟨Z', Aa, us, acc, p, g', zo', _⟩ := c
    exact sqT_keep (g'.kpZ (A := []) zo1 fun _ h => nomatch h).st hl
  · have hi' : i < ds.length := by
      have := (List.getElem?_eq_some_iff.mp hx).1
      rw [rs.len]; exact this
    obtain ⟨u, A3, eu, ou, su⟩ := rs.get (List.getElem?_eq_getElem hi')
    have eA3 : A3 = [] := List.eq_nil_iff_forall_not_mem.mpr fun q hq => nomatch su q hq
    subst eA3
    rw [hx] at eu
    cases eu
    exact ci_turn hg ht he hs w1 (o.gx w g1) c ou fun acc p => hst i _ acc (List.getElem?_eq_getElem hi') p
  · rw [← rs.len] at c
    exact ci_end g1 zo1 c fun acc Z' Aa p g zo fr ow => k _ _ _ Z' _ (hd acc p) g zo fr ow
def ranD (n : Nat) : List D := (List.range n).map fun k => .int (k : Nat)
def dLcR (fa : DTA) (tg : DTG) (tt : DTT) (te : DTE) (own : List Nat) : DTE := fun ρ R X => fa ρ (fun ds => ∃ j : Int, ds = [.int j] ∧ -(2 ^ 62) ≤ j ∧ j < 2 ^ 62 ∧ LTurns (ranD j.toNat) tg tt te own ρ R) X
theorem rf_lcR {ta : TA} {g : TG} {tt : TT} {te : TE} {fa : DTA} {dg : DTG} {dt : DTT} {de : DTE} {js own : List Nat} (ha : RA K W ta fa) (hg : RG K false js g dg) (ht : RT K WNo tt dt) (he : RF K WNo te de) (hs : ∀ j ∈ js, j ∈ own) :
    RF K W (tLc (iRng1 ta) g tt te own) (dLcR fa dg dt de own) := fun σ H Z A ρ Q R X w o q k x => by
  refine ha σ H Z A ρ _ _ X w o q (fun ds us H1 Z1 A1 r1 g1 zo1 ad1 ow1 => ?_) x
  obtain ⟨j, ed, j1, j2, Pv, h0, hst, hd⟩ := r1
  subst ed
  obtain ⟨v, ev, ov⟩ := ow1.one
  have e := ov.int_of
  subst ev e
  refine ⟨j, rfl, j1, j2, fun L hL => ?_⟩
  have w1 := w.gx g1 zo1
  have el : (ranD j.toNat).length = j.toNat := by simp [ranD]
  refine lc_range (lo := 0) (n := j.toNat) (fun i H' => CI K H1 Z1 L Pv i H') (ci_start zo1 hL h0) (fun i H' hi c => ?_) fun H' c => ?_
  · have e0 : (0 : Int) + (i : Int) = (i : Int) := by omega
    rw [e0]
    exact ci_turn hg ht he hs w1 (o.gx w g1) c ow_int fun acc p => hst i (.int (i : Nat)) acc (by simp [ranD, hi]) p
  · exact ci_end g1 zo1 c fun acc Z' Aa p g zo fr ow => k _ _ _ Z' _ (hd acc (by rw [el]; exact p)) g zo fr ow

/-! ### defs -/
theorem os_start {ds : List D} : ∀ {vs : List V} {n : Nat} {A : List Addr}, Ows K H Z ds vs A → Os K H Z (ds.map some ++ List.replicate n none) (vs.map some ++ List.replicate n none) A := by
  induction ds with
  | nil =>
    intro vs n A h
    unfold Ows at h
    obtain ⟨rfl, rfl⟩ := h
    induction n with
    | zero => exact ⟨rfl, rfl⟩
    | succ n ih => exact ⟨none, _, [], [], rfl, rfl, rfl, ih⟩
  | cons d ds ih =>
    intro vs n A h
    unfold Ows at h
    obtain ⟨v, vs', A1, A2, e, eA, q, r⟩ := h
    subst e eA
    exact ⟨some v, _, A1, A2, rfl, rfl, ⟨v, rfl, q⟩, ih r⟩
end
section
variable {P : Program} {w : World} {K : PySem.W.Frag} {mg : Str → Option Value} {base : Heap}
/-- the wish about errors in a def's body -/
abbrev WTop (E : XK) : WX := fun cls d _ H => E cls d H
def startD (N : List Str) (ds : List D) : DEnv := ds.map some ++ List.replicate (N.length - ds.length) none
/-- a def that changes nothing of its arguments keeps its promise -/
theorem okP {x qual : Str} {st : Stmt} {f : Addr} {fd : FuncData} {N ps : List Str} {k : Nat} {sp : DSp} (F : Fun K x qual st f fd) (S : FnScope N ps (defScope st)) (len : ∀ ds R X, sp ds R X → ds.length = ps.length) {g : DTS}
    (body : ∀ (cdv : Value) (A : Around) (outer : List Env) (s : Shared) (H : Hp) (E : XK), Room k (A.deeper (PyProof.Rows.envOfC qual (defScope st) s.heap.objs.size f cdv)) →
      Takes (cxOf (L2.CX P w) P w K mg base N qual (defScope st) f cdv A outer s H E) (WTop E) →
      ∃ t, DSs (cxOf (L2.CX P w) P w K mg base N qual (defScope st) f cdv A outer s H E) (WTop E) false (defBody st) t g)
    (law : ∀ ds R X, sp ds R X → g { nx := fun _ => R .non, rt := fun d _ => R d, ex := fun C _ => X C } (startD N ds)) : FnOk P w K mg base (L2.CX P w) (k + 1) f fd ps (liftP K sp) := by
  refine F.okX S (fun vs H Q E h => ?_) (fun cdv A outer s H vs Q E hr h => ?_)
  · obtain ⟨Z, ds, R, X, zo, o, hs, _⟩ := h
    rw [← o.len]; exact len _ _ _ hs
  · obtain ⟨Z, ds, R, X, zo, o, hs, hq, hx⟩ := h
    obtain ⟨t, hb⟩ := body cdv A outer s H E hr (takes_of rfl rfl rfl rfl)
    refine ⟨t, hb.pe, ?_⟩
    have eN : (start N vs) = vs.map some ++ List.replicate (N.length - ds.length) none := by rw [o.len]; rfl
    have os : Os K H Z (startD N ds) (start N vs) [] := by rw [eN]; exact os_start o
    refine hb.re (start N vs) H Z [] (startD N ds) _ _ .non (Wo.nil zo) os (fun e => nomatch e) (law ds R X hs) ⟨fun ρ' σ' H' Z' A' r go wo os' _ => ?_, fun _ _ _ _ _ h => h.elim, fun _ _ _ _ _ h => h.elim, fun d ρ' σ' v H' Z' A1 A' r go wo ow os' _ => ?_, fun C ρ' σ' H' Z' A' r go wo os' _ => ?_⟩
    · exact hq .non .non H' Z' [] r (gxOf go) wo.zo Fr.nil ow_non
    · refine hq d v H' Z' A1 r (gxOf go) wo.zo ?_ ow
      have w1 : Wo H' Z' A1 := wo.sub (List.nodup_append.mp wo.nd).1 fun q hq => List.mem_append_left _ hq
      exact w1.fr fun q hq => (go.na q (List.mem_append_left _ hq)).elim (fun h => nomatch h) id
    · exact hx C H' Z' r (gxOf go) wo.zo
where
  gxOf {H : Hp} {Z : Zn} {H' : Hp} {Z' : Zn} {A' : List Addr} (go : Go H Z [] H' Z' A') : Gx H Z H' Z' :=
    ⟨fun p o e d => go.kp p o e (fun h => nomatch h) d, go.zf, go.zd, fun p h => (go.nf p h).imp id fun h => h.elim (fun h => nomatch h) id, go.nd⟩
/-- a def that may change its first argument -/
theorem okM {x qual : Str} {st : Stmt} {f : Addr} {fd : FuncData} {N ps : List Str} {k : Nat} {sp : DSpM} (F : Fun K x qual st f fd) (S : FnScope N ps (defScope st)) (len : ∀ d0 ds R X, sp d0 ds R X → ds.length + 1 = ps.length) {g : DTS}
    (body : ∀ (cdv : Value) (A : Around) (outer : List Env) (s : Shared) (H : Hp) (E : XK), Room k (A.deeper (PyProof.Rows.envOfC qual (defScope st) s.heap.objs.size f cdv)) →
      Takes (cxOf (L2.CX P w) P w K mg base N qual (defScope st) f cdv A outer s H E) (WTop E) →
      ∃ t, DSs (cxOf (L2.CX P w) P w K mg base N qual (defScope st) f cdv A outer s H E) (WTop E) true (defBody st) t g)
    (law : ∀ d0 ds R X, sp d0 ds R X → g { nx := fun ρ => ∃ d, ρ[0]? = some (some d) ∧ R .non d, rt := fun r ρ => ∃ d, ρ[0]? = some (some d) ∧ R r d, ex := fun C _ => X C } (startD N (d0 :: ds))) : FnOk P w K mg base (L2.CX P w) (k + 1) f fd ps (liftM K sp) := by
  refine F.okX S (fun vs H Q E h => ?_) (fun cdv A outer s H vs Q E hr h => ?_)
  · obtain ⟨Z, A0, d0, v0, ds, vs', R, X, ev, zo, o0, o, hs, _⟩ := h
    rw [ev, List.length_cons, ← o.len]; exact len _ _ _ _ hs
  · obtain ⟨Z, A0, d0, v0, ds, vs', R, X, ev, wo0, o0, o, hs, hq, hx⟩ := h
    subst ev
    obtain ⟨t, hb⟩ := body cdv A outer s H E hr (takes_of rfl rfl rfl rfl)
    refine ⟨t, hb.pe, ?_⟩
    have oA : Ows K H Z (d0 :: ds) (v0 :: vs') A0 := by
      unfold Ows
      exact ⟨v0, vs', A0, [], rfl, by simp, o0, o⟩
    have eN : (start N (v0 :: vs')) = (v0 :: vs').map some ++ List.replicate (N.length - (d0 :: ds).length) none := by rw [oA.len]; rfl
    have os : Os K H Z (startD N (d0 :: ds)) (start N (v0 :: vs')) A0 := by rw [eN]; exact os_start oA
    have fin : ∀ {ρ' : DEnv} {σ' : St} {H' : Hp} {Z' : Zn} {A' : List Addr} {d : D}, Os K H' Z' ρ' σ' A' → Pin true v0 σ' → ρ'[0]? = some (some d) → ∃ A0', Ow K H' Z' d v0 A0' ∧ A0'.Sublist A' := fun {ρ' σ' H' Z' A' d} os' pin e => by
      obtain ⟨B1, Ai, B2, oi, eA, e3, ⟨v, e4, q1⟩, _⟩ := os'.at e
      have p0 := pin rfl
      rw [e3, e4] at p0
      cases p0
      refine ⟨Ai, q1, ?_⟩
      rw [eA]
      exact (List.sublist_append_left Ai B2).trans (List.sublist_append_right _ _)
    refine hb.re (start N (v0 :: vs')) H Z A0 (startD N (d0 :: ds)) _ _ v0 wo0 os (fun _ => rfl) (law d0 ds R X hs) ⟨fun ρ' σ' H' Z' A' ⟨d, e, r⟩ go wo os' pin => ?_, fun _ _ _ _ _ h => h.elim, fun _ _ _ _ _ h => h.elim, fun rr ρ' σ' v H' Z' A1 A' ⟨d, e, r⟩ go wo ow os' pin => ?_, fun C ρ' σ' H' Z' A' r go wo os' _ => ?_⟩
    · obtain ⟨A0', q, sl⟩ := fin os' pin e
      exact hq .non d .non H' Z' [] A0' r (go_sub go fun p hp => sl.subset (by simpa using hp)) (wo.sub (wo.nd.sublist (by simpa using sl)) fun p hp => sl.subset (by simpa using hp)) ow_non q
    · obtain ⟨A0', q, sl⟩ := fin os' pin e
      have s2 : (A1 ++ A0').Sublist (A1 ++ A') := List.Sublist.append_left sl A1
      exact hq rr d v H' Z' A1 A0' r (go_sub go fun p hp => s2.subset hp) (wo.sub (wo.nd.sublist s2) fun p hp => s2.subset hp) ow q
    · exact hx C H' Z' A' r go wo
end
end DL
set_option Elab.async false
set_option linter.all false
set_option maxRecDepth 100000
namespace DL
open PySem L2

/-! ### the rules, over a context -/
section
variable {X : Cx} {W : WX} {pn : Bool} {e a b c : Expr} {es : List Expr} {ta tb tc te : TE} {fa fb fc fe : DTE} {pos : Pos}
theorem DF.toE (h : DF X W e te fe) : DE X W e te fe := ⟨h.pe, RE.of_RF h.re⟩
theorem DE.toF (h : DE X W e te fe) : DF X W e te (dTake fe) := ⟨h.pe, RF.of_RE h.re⟩
theorem DF.toZ (h : DF X W e te fe) : DF X W e te (dFz fe) := ⟨h.pe, h.re.fz⟩
theorem de_v (i : Nat) {x : Str} (hN : X.N[i]? = some x := by rfl) (hv : Vis X.env.scope x := by first | exact Or.inl rfl | exact Or.inr (Or.inl rfl) | exact Or.inr (Or.inr rfl)) (hd : (x == ("__debug__" : Str)) = false := by decide)
    (hcd : (x == ("__classdict__" : Str)) = false := by decide) : DE X W (.Name x pos) (tVar i) (dVar i) := ⟨pe_var hN hv hd hcd, re_var⟩
theorem df_int {i j} : DF X W (.Constant (.int i) j pos) (tC (.int i)) (dC (.int i)) := ⟨pe_int, rf_c fun _ _ => ow_int⟩
theorem df_bl {i j} : DF X W (.Constant (.bool i) j pos) (tC (.bl i)) (dC (.bl i)) := ⟨pe_bl, rf_c fun _ _ => ow_bl⟩
theorem df_non {j} : DF X W (.Constant .none j pos) (tC .non) (dC .non) := ⟨pe_non, rf_c fun _ _ => ow_non⟩
theorem df_str {x j} : DF X W (.Constant (.str x) j pos) (tC (.str x)) (dC (.str x)) := ⟨pe_str, rf_c fun _ _ => ow_str⟩
/-- a module's int -/
theorem df_gI {x : Str} {i : Int} {t : Tok} (hg : Gl X x) (hm : X.mg x = some (.int i t)) (hd : (x == ("__debug__" : Str)) = false := by decide) : DF X W (.Name x pos) (tC (.int i)) (dC (.int i)) := ⟨pe_glob hg hm ⟨_, rfl⟩ hd, rf_c fun _ _ => ow_int⟩
theorem df_add (ha : DE X W a ta fa) (hb : DE X W b tb fb) : DF X W (.BinOp a .Add b pos) (tOp (rI0 fun i j => .int (i + j)) ta tb) (dOp (gI fun i j => .int (i + j)) fa fb) := ⟨pe_op op_add ha.pe hb.pe, rf_op (r2_i0 fun _ _ _ _ => ow_int) ha.re hb.re⟩
theorem df_sub (ha : DE X W a ta fa) (hb : DE X W b tb fb) : DF X W (.BinOp a .Sub b pos) (tOp (rI0 fun i j => .int (i - j)) ta tb) (dOp (gI fun i j => .int (i - j)) fa fb) := ⟨pe_op op_sub ha.pe hb.pe, rf_op (r2_i0 fun _ _ _ _ => ow_int) ha.re hb.re⟩
theorem df_mul (ha : DE X W a ta fa) (hb : DE X W b tb fb) : DF X W (.BinOp a .Mult b pos) (tOp (rI CMul fun i j => .int (i * j)) ta tb) (dOp (gIc CMul fun i j => .int (i * j)) fa fb) := ⟨pe_op op_mul ha.pe hb.pe, rf_op (r2_i fun _ _ _ _ => ow_int) ha.re hb.re⟩
theorem df_mod (ha : DE X W a ta fa) (hb : DE X W b tb fb) : DF X W (.BinOp a .Mod b pos) (tOp (rI (fun _ j => 0 < j) fun i j => .int (i % j)) ta tb) (dOp (gIc (fun _ j => 0 < j) fun i j => .int (i % j)) fa fb) := ⟨pe_op op_mod ha.pe hb.pe, rf_op (r2_i fun _ _ _ _ => ow_int) ha.re hb.re⟩
theorem df_fdiv (ha : DE X W a ta fa) (hb : DE X W b tb fb) : DF X W (.BinOp a .FloorDiv b pos) (tOp (rI CDiv fun i j => .int (i / j)) ta tb) (dOp (gIc CDiv fun i j => .int (i / j)) fa fb) := ⟨pe_op op_fdiv ha.pe hb.pe, rf_op (r2_i fun _ _ _ _ => ow_int) ha.re hb.re⟩
theorem df_pow (ha : DE X W a ta fa) (hb : DE X W b tb fb) : DF X W (.BinOp a .Pow b pos) (tOp (rI CPow fun i j => .int (i ^ j.toNat)) ta tb) (dOp (gIc CPow fun i j => .int (i ^ j.toNat)) fa fb) := ⟨pe_op op_pow ha.pe hb.pe, rf_op (r2_i fun _ _ _ _ => ow_int) ha.re hb.re⟩
theorem df_addS (ha : DE X W a ta fa) (hb : DE X W b tb fb) : DF X W (.BinOp a .Add b pos) (tOp (fun x y H Q => ∃ i j, x = V.str i ∧ y = .str j ∧ i.length + j.length ≤ sizeLine ∧ Q (.str (i ++ j)) H) ta tb) (dOp gAddS fa fb) := ⟨pe_op op_add_str ha.pe hb.pe, rf_op r2_addS ha.re hb.re⟩
theorem df_cat (ha : DE X W a ta fa) (hb : DE X W b tb fb) : DF X W (.BinOp a .Add b pos) (tOp rCat ta tb) (dOp gCat fa fb) := ⟨pe_op op_cat ha.pe hb.pe, rf_op r2_cat ha.re hb.re⟩
theorem df_catT (ha : DE X W a ta fa) (hb : DE X W b tb fb) : DF X W (.BinOp a .Add b pos) (tOp (rCatA X.K) ta tb) (dOp gCatT fa fb) := ⟨pe_op op_catA ha.pe hb.pe, rf_op r2_catT ha.re hb.re⟩
theorem df_rep (ha : DE X W a ta fa) (hb : DE X W b tb fb) : DF X W (.BinOp a .Mult b pos) (tOp rRep ta tb) (dOp gRep fa fb) := ⟨pe_op op_rep ha.pe hb.pe, rf_op r2_rep ha.re hb.re⟩
def gNeg (f : DTE) : DTE := fun ρ R X => f ρ (fun d => ∃ i, d = .int i ∧ R (.int (-i))) X
theorem df_neg (ha : DE X W a ta fa) : DF X W (.UnaryOp .USub a pos) (tUn (rU fun i => .int (-i)) ta) (gNeg fa) := ⟨pe_un un_neg ha.pe, fun σ H Z A ρ Q R X w o q k x => by
  refine ha.re σ H Z A ρ _ _ X w o q (fun d v H1 Z1 A1 r1 g1 zo1 ad1 ow1 => ?_) x
  obtain ⟨i, rfl, r⟩ := r1
  exact ⟨i, ow1.int_of, k _ _ H1 Z1 [] r g1 zo1 Fr.nil ow_int⟩⟩
/-! comparisons of ints -/
abbrev gLt : G2 := gI fun i j => .bl (decide (i < j))
abbrev gLe : G2 := gI fun i j => .bl (decide (i ≤ j))
abbrev gGt : G2 := gI fun i j => .bl (decide (j < i))
abbrev gGe : G2 := gI fun i j => .bl (decide (j ≤ i))
theorem df_lt (ha : DE X W a ta fa) (hb : DE X W b tb fb) : DF X W (.Compare a [.Lt] [b] pos) (tOp (rI0 fun i j => .bl (decide (i < j))) ta tb) (dOp gLt fa fb) := ⟨pe_cmpR op_lt ha.pe hb.pe (nomark _), rf_op (r2_i0 fun _ _ _ _ => ow_bl) ha.re hb.re⟩
theorem df_le (ha : DE X W a ta fa) (hb : DE X W b tb fb) : DF X W (.Compare a [.LtE] [b] pos) (tOp (rI0 fun i j => .bl (decide (i ≤ j))) ta tb) (dOp gLe fa fb) := ⟨pe_cmpR op_le ha.pe hb.pe (nomark _), rf_op (r2_i0 fun _ _ _ _ => ow_bl) ha.re hb.re⟩
theorem df_gt (ha : DE X W a ta fa) (hb : DE X W b tb fb) : DF X W (.Compare a [.Gt] [b] pos) (tOp (rI0 fun i j => .bl (decide (j < i))) ta tb) (dOp gGt fa fb) := ⟨pe_cmpR op_gt ha.pe hb.pe (nomark _), rf_op (r2_i0 fun _ _ _ _ => ow_bl) ha.re hb.re⟩
theorem df_ge (ha : DE X W a ta fa) (hb : DE X W b tb fb) : DF X W (.Compare a [.GtE] [b] pos) (tOp (rI0 fun i j => .bl (decide (j ≤ i))) ta tb) (dOp gGe fa fb) := ⟨pe_cmpR op_ge ha.pe hb.pe (nomark _), rf_op (r2_i0 fun _ _ _ _ => ow_bl) ha.re hb.re⟩
theorem df_eq (hu : X.A.units + 64 < cLine) (ha : DE X W a ta fa) (hb : DE X W b tb fb) : DF X W (.Compare a [.Eq] [b] pos) (tOp (rEqD X.K) ta tb) (dOp gEq fa fb) := ⟨pe_cmpR (op_eqD hu) ha.pe hb.pe (nomark _), rf_op r2_eq ha.re hb.re⟩
theorem df_ne (hu : X.A.units + 64 < cLine) (ha : DE X W a ta fa) (hb : DE X W b tb fb) : DF X W (.Compare a [.NotEq] [b] pos) (tOp (rNeD X.K) ta tb) (dOp gNe fa fb) := ⟨pe_cmpR (op_neD hu) ha.pe hb.pe (nomark _), rf_op r2_ne ha.re hb.re⟩
theorem df_in (hu : X.A.units + 65 < cLine) (ha : DE X W a ta fa) (hb : DE X W b tb fb) (hm : behindInMarks .In b = false := by rfl) : DF X W (.Compare a [.In] [b] pos) (tOp (rInD X.K) ta tb) (dOp (gIn false) fa fb) := ⟨pe_cmpR (op_inD hu) ha.pe hb.pe hm, rf_op r2_in ha.re hb.re⟩
theorem df_notIn (hu : X.A.units + 65 < cLine) (ha : DE X W a ta fa) (hb : DE X W b tb fb) (hm : behindInMarks .NotIn b = false := by rfl) : DF X W (.Compare a [.NotIn] [b] pos) (tOp (rNotInD X.K) ta tb) (dOp (gIn true) fa fb) := ⟨pe_cmpR (op_notInD hu) ha.pe hb.pe hm, rf_op r2_notIn ha.re hb.re⟩
theorem df_inT (ha : DE X W a ta fa) (hb : DE X W b tb fb) (hm : behindInMarks .In b = false := by rfl) : DF X W (.Compare a [.In] [b] pos) (tOp (rIn X.K false) ta tb) (dOp (gInT false) fa fb) := ⟨pe_cmpR op_in_seq ha.pe hb.pe hm, rf_op (r2_inT false) ha.re hb.re⟩
theorem df_notInT (ha : DE X W a ta fa) (hb : DE X W b tb fb) (hm : behindInMarks .NotIn b = false := by rfl) : DF X W (.Compare a [.NotIn] [b] pos) (tOp (rIn X.K true) ta tb) (dOp (gInT true) fa fb) := ⟨pe_cmpR op_notIn_seq ha.pe hb.pe hm, rf_op (r2_inT true) ha.re hb.re⟩
theorem df_isN (ha : DE X W a ta fa) (hb : DE X W b tb fb) : DF X W (.Compare a [.Is] [b] pos) (tOp (fun x y H Q => y = .non ∧ Q (.bl (decide (x = .non))) H) ta tb) (dOp gIsN fa fb) := ⟨pe_cmpR op_isN ha.pe hb.pe (nomark _), rf_op r2_isN ha.re hb.re⟩
theorem df_notN (ha : DE X W a ta fa) (hb : DE X W b tb fb) : DF X W (.Compare a [.IsNot] [b] pos) (tOp (fun x y H Q => y = .non ∧ Q (.bl (!decide (x = .non))) H) ta tb) (dOp gNotN fa fb) := ⟨pe_cmpR op_notN ha.pe hb.pe (nomark _), rf_op r2_notN ha.re hb.re⟩
/-! a chain a < b < c, of ints -/
def dChain (g g' : Int → Int → Bool) (fa fb fc : DTE) : DTE := fun ρ R X => fa ρ (fun x => fb ρ (fun y => ∃ i j, x = .int i ∧ y = .int j ∧ if g i j = true then fc ρ (fun z => ∃ k, z = .int k ∧ R (.bl (g' j k))) X else R (.bl false)) X) X
theorem rf_chain {K : PySem.W.Frag} {g g' : Int → Int → Bool} {ta tb tc : TE} (ha : RE K W ta fa) (hb : RE K W tb fb) (hc : RE K W tc fc) : RF K W (tChain (rI0 fun i j => .bl (g i j)) (rI0 fun i j => .bl (g' i j)) ta tb tc) (dChain g g' fa fb fc) := fun σ H Z A ρ Q R X w o q k x => by
  refine ha σ H Z A ρ _ _ X w o q (fun d v H1 Z1 A1 r1 g1 zo1 ad1 ow1 => ?_) x
  refine hb σ H1 Z1 A ρ _ _ X (w.gx g1 zo1) (o.gx w g1) r1 (fun d2 v2 H2 Z2 A2 r2 g2 zo2 ad2 ow2 => ?_) fun C H' Z' xc g' zo' => x C H' Z' xc (g1.trans zo1 g') zo'
  obtain ⟨i, j, rfl, rfl, r2⟩ := r2
  have e1 := ow1.int_of
  have e2 := ow2.int_of
  subst e1 e2
  have g12 := g1.trans zo1 g2
  refine ⟨i, j, rfl, rfl, g i j, rfl, ?_⟩
  by_cases h : g i j = true
  · rw [if_pos h] at r2 ⊢
    refine hc σ H2 Z2 A ρ _ _ X ((w.gx g1 zo1).gx g2 zo2) ((o.gx w g1).gx (w.gx g1 zo1) g2) r2 (fun d3 v3 H3 Z3 A3 r3 g3 zo3 ad3 ow3 => ?_) fun C H' Z' xc g' zo' => x C H' Z' xc (g12.trans zo2 g') zo'
    obtain ⟨l, rfl, r3⟩ := r3
    exact ⟨j, l, rfl, ow3.int_of, k _ _ H3 Z3 [] r3 (g12.trans zo2 g3) zo3 Fr.nil ow_bl⟩
  · rw [if_neg h] at r2 ⊢
    exact k _ _ H2 Z2 [] r2 g12 zo2 Fr.nil ow_bl
theorem df_chLtLt (ha : DE X W a ta fa) (hb : DE X W b tb fb) (hc : DE X W c tc fc) (hm : lastMarks [.Lt, .Lt] [b, c] = false := by with_unfolding_all rfl) : DF X W (.Compare a [.Lt, .Lt] [b, c] pos) (tChain (rI0 fun i j => .bl (decide (i < j))) (rI0 fun i j => .bl (decide (i < j))) ta tb tc) (dChain (fun i j => decide (i < j)) (fun i j => decide (i < j)) fa fb fc) := ⟨pe_chain op_lt op_lt ha.pe hb.pe hc.pe hm, rf_chain ha.re hb.re hc.re⟩
theorem df_chLeLt (ha : DE X W a ta fa) (hb : DE X W b tb fb) (hc : DE X W c tc fc) (hm : lastMarks [.LtE, .Lt] [b, c] = false := by with_unfolding_all rfl) : DF X W (.Compare a [.LtE, .Lt] [b, c] pos) (tChain (rI0 fun i j => .bl (decide (i ≤ j))) (rI0 fun i j => .bl (decide (i < j))) ta tb tc) (dChain (fun i j => decide (i ≤ j)) (fun i j => decide (i < j)) fa fb fc) := ⟨pe_chain op_le op_lt ha.pe hb.pe hc.pe hm, rf_chain ha.re hb.re hc.re⟩
theorem df_chLeLe (ha : DE X W a ta fa) (hb : DE X W b tb fb) (hc : DE X W c tc fc) (hm : lastMarks [.LtE, .LtE] [b, c] = false := by with_unfolding_all rfl) : DF X W (.Compare a [.LtE, .LtE] [b, c] pos) (tChain (rI0 fun i j => .bl (decide (i ≤ j))) (rI0 fun i j => .bl (decide (i ≤ j))) ta tb tc) (dChain (fun i j => decide (i ≤ j)) (fun i j => decide (i ≤ j)) fa fb fc) := ⟨pe_chain op_le op_le ha.pe hb.pe hc.pe hm, rf_chain ha.re hb.re hc.re⟩
/-! tests -/
variable {tA tB' : TT} {dA dB : DTT} {rest : List Expr}
theorem dt_v (h : DE X W e te fe) (he : ∀ whole, isTrue e X.env whole = (do let v ← whole; standAt e.pos; holding [v] (truthy v)) := by intro _; rfl) : DT X W e (tB te) (dTest fe) := ⟨pt_val h.pe he, rt_b h.re⟩
theorem dt_lt (ha : DE X W a ta fa) (hb : DE X W b tb fb) : DT X W (.Compare a [.Lt] [b] pos) (tTest (tOp (rI0 fun i j => .bl (decide (i < j))) ta tb)) (dTest (dOp gLt fa fb)) := ⟨pt_cmpR op_lt ha.pe hb.pe (nomark _), rt_test (RE.of_RF (rf_op (r2_i0 fun _ _ _ _ => ow_bl) ha.re hb.re))⟩
theorem dt_le (ha : DE X W a ta fa) (hb : DE X W b tb fb) : DT X W (.Compare a [.LtE] [b] pos) (tTest (tOp (rI0 fun i j => .bl (decide (i ≤ j))) ta tb)) (dTest (dOp gLe fa fb)) := ⟨pt_cmpR op_le ha.pe hb.pe (nomark _), rt_test (RE.of_RF (rf_op (r2_i0 fun _ _ _ _ => ow_bl) ha.re hb.re))⟩
theorem dt_gt (ha : DE X W a ta fa) (hb : DE X W b tb fb) : DT X W (.Compare a [.Gt] [b] pos) (tTest (tOp (rI0 fun i j => .bl (decide (j < i))) ta tb)) (dTest (dOp gGt fa fb)) := ⟨pt_cmpR op_gt ha.pe hb.pe (nomark _), rt_test (RE.of_RF (rf_op (r2_i0 fun _ _ _ _ => ow_bl) ha.re hb.re))⟩
theorem dt_ge (ha : DE X W a ta fa) (hb : DE X W b tb fb) : DT X W (.Compare a [.GtE] [b] pos) (tTest (tOp (rI0 fun i j => .bl (decide (j ≤ i))) ta tb)) (dTest (dOp gGe fa fb)) := ⟨pt_cmpR op_ge ha.pe hb.pe (nomark _), rt_test (RE.of_RF (rf_op (r2_i0 fun _ _ _ _ => ow_bl) ha.re hb.re))⟩
theorem dt_eq (hu : X.A.units + 64 < cLine) (ha : DE X W a ta fa) (hb : DE X W b tb fb) : DT X W (.Compare a [.Eq] [b] pos) (tTest (tOp (rEqD X.K) ta tb)) (dTest (dOp gEq fa fb)) := ⟨pt_cmpR (op_eqD hu) ha.pe hb.pe (nomark _), rt_test (RE.of_RF (rf_op r2_eq ha.re hb.re))⟩
theorem dt_ne (hu : X.A.units + 64 < cLine) (ha : DE X W a ta fa) (hb : DE X W b tb fb) : DT X W (.Compare a [.NotEq] [b] pos) (tTest (tOp (rNeD X.K) ta tb)) (dTest (dOp gNe fa fb)) := ⟨pt_cmpR (op_neD hu) ha.pe hb.pe (nomark _), rt_test (RE.of_RF (rf_op r2_ne ha.re hb.re))⟩
theorem dt_in (hu : X.A.units + 65 < cLine) (ha : DE X W a ta fa) (hb : DE X W b tb fb) (hm : behindInMarks .In b = false := by rfl) : DT X W (.Compare a [.In] [b] pos) (tTest (tOp (rInD X.K) ta tb)) (dTest (dOp (gIn false) fa fb)) := ⟨pt_cmpR (op_inD hu) ha.pe hb.pe hm, rt_test (RE.of_RF (rf_op r2_in ha.re hb.re))⟩
theorem dt_notIn (hu : X.A.units + 65 < cLine) (ha : DE X W a ta fa) (hb : DE X W b tb fb) (hm : behindInMarks .NotIn b = false := by rfl) : DT X W (.Compare a [.NotIn] [b] pos) (tTest (tOp (rNotInD X.K) ta tb)) (dTest (dOp (gIn true) fa fb)) := ⟨pt_cmpR (op_notInD hu) ha.pe hb.pe hm, rt_test (RE.of_RF (rf_op r2_notIn ha.re hb.re))⟩
theorem dt_inT (ha : DE X W a ta fa) (hb : DE X W b tb fb) (hm : behindInMarks .In b = false := by rfl) : DT X W (.Compare a [.In] [b] pos) (tTest (tOp (rIn X.K false) ta tb)) (dTest (dOp (gInT false) fa fb)) := ⟨pt_cmpR op_in_seq ha.pe hb.pe hm, rt_test (RE.of_RF (rf_op (r2_inT false) ha.re hb.re))⟩
theorem dt_notInT (ha : DE X W a ta fa) (hb : DE X W b tb fb) (hm : behindInMarks .NotIn b = false := by rfl) : DT X W (.Compare a [.NotIn] [b] pos) (tTest (tOp (rIn X.K true) ta tb)) (dTest (dOp (gInT true) fa fb)) := ⟨pt_cmpR op_notIn_seq ha.pe hb.pe hm, rt_test (RE.of_RF (rf_op (r2_inT true) ha.re hb.re))⟩
theorem dt_isN (ha : DE X W a ta fa) (hb : DE X W b tb fb) : DT X W (.Compare a [.Is] [b] pos) (tTest (tOp (fun x y H Q => y = .non ∧ Q (.bl (decide (x = .non))) H) ta tb)) (dTest (dOp gIsN fa fb)) := ⟨pt_cmpR op_isN ha.pe hb.pe (nomark _), rt_test (RE.of_RF (rf_op r2_isN ha.re hb.re))⟩
theorem dt_notN (ha : DE X W a ta fa) (hb : DE X W b tb fb) : DT X W (.Compare a [.IsNot] [b] pos) (tTest (tOp (fun x y H Q => y = .non ∧ Q (.bl (!decide (x = .non))) H) ta tb)) (dTest (dOp gNotN fa fb)) := ⟨pt_cmpR op_notN ha.pe hb.pe (nomark _), rt_test (RE.of_RF (rf_op r2_notN ha.re hb.re))⟩
theorem dt_chLtLt (ha : DE X W a ta fa) (hb : DE X W b tb fb) (hc : DE X W c tc fc) (hm : lastMarks [.Lt, .Lt] [b, c] = false := by with_unfolding_all rfl) : DT X W (.Compare a [.Lt, .Lt] [b, c] pos) (tTest (tChain (rI0 fun i j => .bl (decide (i < j))) (rI0 fun i j => .bl (decide (i < j))) ta tb tc)) (dTest (dChain (fun i j => decide (i < j)) (fun i j => decide (i < j)) fa fb fc)) := ⟨pt_chain op_lt op_lt ha.pe hb.pe hc.pe hm, rt_test (RE.of_RF (rf_chain ha.re hb.re hc.re))⟩
theorem dt_chLeLt (ha : DE X W a ta fa) (hb : DE X W b tb fb) (hc : DE X W c tc fc) (hm : lastMarks [.LtE, .Lt] [b, c] = false := by with_unfolding_all rfl) : DT X W (.Compare a [.LtE, .Lt] [b, c] pos) (tTest (tChain (rI0 fun i j => .bl (decide (i ≤ j))) (rI0 fun i j => .bl (decide (i < j))) ta tb tc)) (dTest (dChain (fun i j => decide (i ≤ j)) (fun i j => decide (i < j)) fa fb fc)) := ⟨pt_chain op_le op_lt ha.pe hb.pe hc.pe hm, rt_test (RE.of_RF (rf_chain ha.re hb.re hc.re))⟩
theorem DW.toT (h : DW X W e tA dA) : DT X W e tA dA := ⟨h.pe.pt, h.re⟩
theorem dw_and1 (ha : DT X W a tA dA) : DW X W (.BoolOp .And [a] pos) tA dA := ⟨pw_and1 ha.pe, ha.re⟩
theorem dw_or1 (ha : DT X W a tA dA) : DW X W (.BoolOp .Or [a] pos) tA dA := ⟨pw_or1 ha.pe, ha.re⟩
theorem dw_and (ha : DT X W a tA dA) (hb : DW X W (.BoolOp .And (b :: rest) pos) tB' dB) : DW X W (.BoolOp .And (a :: b :: rest) pos) (tAnd tA tB') (dAnd dA dB) := ⟨pw_and ha.pe hb.pe, rt_and ha.re hb.re⟩
theorem dw_or (ha : DT X W a tA dA) (hb : DW X W (.BoolOp .Or (b :: rest) pos) tB' dB) : DW X W (.BoolOp .Or (a :: b :: rest) pos) (tOr tA tB') (dOr dA dB) := ⟨pw_or ha.pe hb.pe, rt_or ha.re hb.re⟩
theorem dt_not (ha : DT X W a tA dA) : DT X W (.UnaryOp .Not a pos) (tNot tA) (dNot dA) := ⟨pt_not ha.pe, rt_not ha.re⟩
theorem df_one {op} (h : DF X W a ta fa) : DF X W (.BoolOp op [a] pos) ta fa := ⟨pe_one h.pe, h.re⟩
theorem df_and (ha : DE X W a ta fa) (hb : DF X W (.BoolOp .And (b :: rest) pos) tb fb) : DF X W (.BoolOp .And (a :: b :: rest) pos) (tAndV ta tb) (dAndV fa fb) := ⟨pe_and ha.pe hb.pe, rf_andV ha.re hb.re⟩
theorem df_or (ha : DE X W a ta fa) (hb : DF X W (.BoolOp .Or (b :: rest) pos) tb fb) : DF X W (.BoolOp .Or (a :: b :: rest) pos) (tOrV ta tb) (dOrV fa fb) := ⟨pe_or ha.pe hb.pe, rf_orV ha.re hb.re⟩
theorem df_not (ha : DE X W a ta fa) : DF X W (.UnaryOp .Not a pos) (tNotV ta) (dNotV fa) := ⟨pe_not ha.pe, rf_notV ha.re⟩
theorem df_ifE (hc : DT X W c tA dA) (ha : DF X W a ta fa) (hb : DF X W b tb fb) : DF X W (.IfExp c a b pos) (tIf tA ta tb) (dIfE dA fa fb) := ⟨pe_ifExp hc.pe ha.pe hb.pe, rf_if hc.re ha.re hb.re⟩
/-! lists of expressions -/
variable {t : TA} {f : DTA}
theorem da_nil : DA X W [] tNil dNil := ⟨pa_nil, ra_nil⟩
theorem da_cons (ha : DE X W e te fe) (hr : DA X W es t f) (hs : starEach (e :: es) X.env = (false, eval e X.env) :: starEach es X.env := by rfl) : DA X W (e :: es) (tCons te t) (dCons fe f) := ⟨pa_cons ha.pe hr.pe hs, ra_cons ha.re hr.re⟩
theorem daf_nil : DAF X W [] tNil dNil := ⟨pa_nil, raf_nil⟩
theorem daf_cons (ha : DF X W e te fe) (hr : DAF X W es t f) (hs : starEach (e :: es) X.env = (false, eval e X.env) :: starEach es X.env := by rfl) : DAF X W (e :: es) (tCons te t) (dCons fe f) := ⟨pa_cons ha.pe hr.pe hs, raf_cons ha.re hr.re⟩
theorem df_tup {x1} (h : DAF X W es t f) : DF X W (.Tuple es x1 pos) (tTup t) (dTup f) := ⟨pe_tup h.pe, rf_tup h.re⟩
theorem df_lst (h : DAF X W es t f) : DF X W (.List es pos) (tLst t) (dLst f) := ⟨pe_lst h.pe, rf_lst h.re⟩
/-! items, fields, slices -/
theorem de_ixL (ha : DE X W a ta fa) (hb : DE X W b tb fb) (hs : PlainIx b := by exact fun _ _ => rfl) : DE X W (.Subscript a b pos) (tOp (rIxL X.K) ta tb) (dOp gIxL fa fb) := ⟨pe_ix ix_list ha.pe hb.pe hs, re_op r2_ixL ha.re hb.re⟩
theorem de_ixT (ha : DE X W a ta fa) (hb : DE X W b tb fb) (hs : PlainIx b := by exact fun _ _ => rfl) : DE X W (.Subscript a b pos) (tOp (rIxT X.K) ta tb) (dOp gIxT fa fb) := ⟨pe_ix ix_tup ha.pe hb.pe hs, re_op r2_ixT ha.re hb.re⟩
theorem de_ix (ha : DE X W a ta fa) (hb : DE X W b tb fb) (hs : PlainIx b := by exact fun _ _ => rfl) : DE X W (.Subscript a b pos) (tOp (fun x y H Q => rIxL X.K x y H Q ∨ rIxT X.K x y H Q) ta tb) (dOp gIx fa fb) := ⟨pe_ix (ix_list.or ix_tup) ha.pe hb.pe hs, re_op r2_ix ha.re hb.re⟩
theorem de_fld {C : Addr} {FN : List Str} {i : Nat} {n : Str} (h : DE X W e te fe) (hi : ixF FN n = some i) (c : Cls X.K C) (na : NoAttr X.K C n) (hb : attributeBase e n X.env (eval e X.env) = eval e X.env := by rfl) : DE X W (.Attribute e n pos) (tFld X.K te n) (dFld C FN i fe) := ⟨pe_fld h.pe hb, re_fld h.re hi c na⟩
structure DO (X : Cx) (W : WX) (e : Option Expr) (t : TO) (f : DTO) : Prop where
  pe : PO X e t
  re : RO X.K W t f
theorem do_none : DO X W none tNoPart dNoPart := ⟨po_none, ro_none⟩
theorem do_some (h : DE X W e te fe) : DO X W (some e) (tPart te) (dPart fe) := ⟨po_some h.pe, ro_some h.re⟩
variable {lo hi : Option Expr} {tl th : TO} {fl fh : DTO} {p2 : Pos}
theorem df_slL (he : DE X W e te fe) (hl : DO X W lo tl fl) (hh : DO X W hi th fh) : DF X W (.Subscript e (.Slice lo hi none p2) pos) (tSl (rSlL X.K) te tl th) (dSlL fe fl fh) := ⟨pe_slice sl_list he.pe hl.pe hh.pe, rf_slL he.re hl.re hh.re⟩
theorem df_slT (he : DE X W e te fe) (hl : DO X W lo tl fl) (hh : DO X W hi th fh) : DF X W (.Subscript e (.Slice lo hi none p2) pos) (tSl (rSlA X.K) te tl th) (dSlT fe fl fh) := ⟨pe_slice sl_tupA he.pe hl.pe hh.pe, rf_slT he.re hl.re hh.re⟩
/-! builtins -/
variable {x : Str} {p : Pos} {r : List V → Hp → VK → Prop} {g : G1s} {id T : String}
theorem df_callB (hc : CallR X (.builtin id) r) (hr : RCF X.K r g) (hg : Gl X x) (hm : X.mg x = none) (hv : bootBuiltins x = some (.builtin id)) (ha : DA X W (e :: es) t f) (hn : x ≠ "__name__" := by decide) (hdb : (x == ("__debug__" : Str)) = false := by decide)
    (he : starEach (e :: es) X.env = (false, eval e X.env) :: starEach es X.env := by rfl) (hpl : (backTo pos (starEach es X.env)).any (·.1) = false := by rfl) : DF X W (.Call (.Name x p) (e :: es) [] pos) (tCB r t) (dCB g f) := ⟨pe_callB hc hg hm hv ha.pe hn hdb he hpl, rf_cb hr ha.re⟩
theorem df_callTy (hc : CallR X (.type T) r) (hr : RCF X.K r g) (hg : Gl X x) (hm : X.mg x = none) (hv : bootBuiltins x = some (.type T)) (ha : DA X W (e :: es) t f) (hn : x ≠ "__name__" := by decide) (hdb : (x == ("__debug__" : Str)) = false := by decide)
    (he : starEach (e :: es) X.env = (false, eval e X.env) :: starEach es X.env := by rfl) (hpl : (backTo pos (starEach es X.env)).any (·.1) = false := by rfl) : DF X W (.Call (.Name x p) (e :: es) [] pos) (tCB r t) (dCB g f) := ⟨pe_callTy hc hg hm hv ha.pe hn hdb he hpl, rf_cb hr ha.re⟩
def tyD : D → Option String
  | .non => some "NoneType"
  | .bl _ => some "bool"
  | .int _ => some "int"
  | .str _ => some "str"
  | .tup _ => some "tuple"
  | .lst _ _ => some "list"
  | _ => none
theorem Ow.ty {K : PySem.W.Frag} {H : Hp} {Z : Zn} {A : List Addr} {d : D} {v : V} {T : String} (h : Ow K H Z d v A) (e : tyD d = some T) : TyX K H v (.type T) := by
  cases d with
  | non => cases e; rw [h.non_of]; exact .base .non
  | bl b => cases e; rw [h.bl_of]; exact .base (.bl b)
  | int b => cases e; rw [h.int_of]; exact .base (.int b)
  | str b => cases e; rw [h.str_of]; exact .base (.str b)
  | tup ds =>
    cases e
    obtain ⟨q, vs, ev, hq, _⟩ := h.tup_
    rw [ev]
    rcases hq with (hq | ⟨o, hq⟩) | ⟨o, its, n, hk, hc, _⟩
    · exact .base (.tup hq)
    · exact .fTuple hq
    · exact .kTuple hk hc
  | lst o ds =>
    cases e
    obtain ⟨q, vs, A', ev, hq, _⟩ := h.lst_
    rw [ev]
    exact .base (.lst hq)
  | _ => cases e
def dIsi (T : String) (f : DTE) : DTE := fun ρ R X => f ρ (fun d => ∃ S k, tyD d = some S ∧ kitB S T = some k ∧ R (.bl k)) X
theorem df_isi {y : Str} {py : Pos} (hg : Gl X "isinstance") (hm : X.mg "isinstance" = none) (hv : bootBuiltins "isinstance" = some (.builtin "isinstance")) (ha : DE X W e te fe) (hgy : Gl X y) (hmy : X.mg y = none) (hvy : bootBuiltins y = some (.type T)) (hny : y ≠ "__name__" := by decide) (hdy : (y == ("__debug__" : Str)) = false := by decide)
    (he : starEach [e, .Name y py] X.env = (false, eval e X.env) :: starEach [.Name y py] X.env := by rfl) (he2 : starEach [.Name y py] X.env = (false, eval (.Name y py) X.env) :: starEach [] X.env := by rfl) (hpl : (backTo pos (starEach [.Name y py] X.env)).any (·.1) = false := by rfl) :
    DF X W (.Call (.Name "isinstance" p) [e, .Name y py] [] pos) (tCB (rIsi X.K) (tCons te (tCons (tC (.ty T)) tNil))) (dIsi T fe) :=
  ⟨pe_callB call_isi hg hm hv (pa_cons ha.pe (pa_cons (pe_bltn hgy hmy hvy rfl hny hdy) pa_nil he2) he) (by decide) (by decide) he hpl, fun σ H Z A ρ Q R X' w o q k xx => by
    refine ha.re σ H Z A ρ _ _ X' w o q (fun d v H1 Z1 A1 r1 g1 zo1 ad1 ow1 => ?_) xx
    obtain ⟨S, k', e1, e2, r⟩ := r1
    exact ⟨v, .ty T, .type S, .type T, k', rfl, .ty T, ow1.ty e1, kit_ty e2, k _ _ H1 Z1 [] r g1 zo1 Fr.nil ow_bl⟩⟩
/-! calls of the text's own -/
variable {C : Addr} {k : Nat} {fd : FuncData} {ps : List Str} {o : Expr} {m : Str} {apos : Pos} {fn : Addr}
theorem df_call {sp : DSp} (F : FnOk X.prog X.w X.K X.mg X.base (L2.CX X.prog X.w) k fn fd ps (liftP X.K sp)) (tk : Takes X W) (hr : Room k X.A) (hg : Gl X x) (hm : X.mg x = some (.ref fn)) (hk : PySem.W.keepIn X.K (.ref fn) = true) (hb : Binds X.K fd ps [])
    (ha : DA X W (e :: es) t f) (hdb : (x == ("__debug__" : Str)) = false := by decide) (he : starEach (e :: es) X.env = (false, eval e X.env) :: starEach es X.env := by rfl) (hpl : (backTo pos (starEach es X.env)).any (·.1) = false := by rfl) :
    DF X W (.Call (.Name x p) (e :: es) [] pos) (tCallS (liftP X.K sp) (WE W) t) (dCall sp f) := ⟨pe_callS F hr hg hm hk hb (fun σ => passAt tk σ) ha.pe hdb he hpl, rf_call ha.re⟩
theorem df_meth {FN : List Str} {sp : DSp} {pl : Sem Bool} (ho : DE X W o ta fa) (c : Cls X.K C) (hm : Meth X.K C m fn) (hx : ixF FN m = none) (F : FnOk X.prog X.w X.K X.mg X.base (L2.CX X.prog X.w) k fn fd ps (liftP X.K sp)) (tk : Takes X W) (hr : Room k X.A) (hb : Binds X.K fd ps []) (ha : DA X W (e :: es) t f)
    (hst : starEach (e :: es) X.env = (false, eval e X.env) :: starEach es X.env := by rfl) (hpl : (backTo pos (starEach es X.env)).any (·.1) = false := by rfl)
    (ht : eval (.Call (.Attribute o m apos) (e :: es) [] pos) X.env = (do
      let ov ← eval o X.env
      standAt apos.atName
      let (f, first) ← holding [ov] (getMethod ov m pl)
      callWith pos f first (backTo pos (starEach (e :: es) X.env)) (backToKw pos (keywordEach [] X.env))) := by rfl) :
    DF X W (.Call (.Attribute o m apos) (e :: es) [] pos) (tMethS C m (liftP X.K sp) (WE W) ta t) (dMeth C FN sp fa f) := ⟨pe_methSx (pl := pl) ho.pe c hm F hr hb (fun σ => passAt tk σ) ha.pe hst hpl ht, rf_meth hx ho.re ha.re⟩
theorem df_meth0 {FN : List Str} {sp : DSp} {pl : Sem Bool} (ho : DE X W o ta fa) (c : Cls X.K C) (hm : Meth X.K C m fn) (hx : ixF FN m = none) (F : FnOk X.prog X.w X.K X.mg X.base (L2.CX X.prog X.w) k fn fd ps (liftP X.K sp)) (tk : Takes X W) (hr : Room k X.A) (hb : Binds X.K fd ps [])
    (ht : eval (.Call (.Attribute o m apos) [] [] pos) X.env = (do
      let ov ← eval o X.env
      standAt apos.atName
      let (f, first) ← holding [ov] (getMethod ov m pl)
      callWith pos f first (backTo pos (starEach [] X.env)) (backToKw pos (keywordEach [] X.env))) := by rfl) :
    DF X W (.Call (.Attribute o m apos) [] [] pos) (tMethS C m (liftP X.K sp) (WE W) ta tNil) (dMeth C FN sp fa dNil) := ⟨pe_methSx0 (pl := pl) ho.pe c hm F hr hb (fun σ => passAt tk σ) ht, rf_meth hx ho.re ra_nil⟩
theorem df_make {sp : DSpM} (M : Mk X.K C fn) (F : FnOk X.prog X.w X.K X.mg X.base (L2.CX X.prog X.w) k fn fd ps (liftM X.K sp)) (tk : Takes X W) (hr : Room (k + 1) X.A) (hg : Gl X x) (hm : X.mg x = some (.ref C)) (hb : Binds X.K fd ps [])
    (ha : DA X W (e :: es) t f) (hdb : (x == ("__debug__" : Str)) = false := by decide) (he : starEach (e :: es) X.env = (false, eval e X.env) :: starEach es X.env := by rfl) (hpl : (backTo pos (starEach es X.env)).any (·.1) = false := by rfl) :
    DF X W (.Call (.Name x p) (e :: es) [] pos) (tMakeS C (liftM X.K sp) (WE W) t) (dMake C sp f) := ⟨pe_makeSx M F hr hg hm hb (fun σ => passAt tk σ) ha.pe hdb he hpl, rf_make ha.re⟩
/-! places -/
structure DP (X : Cx) (W : WX) (e : Expr) (t : TE) (f : DTP) : Prop where
  pe : PE X e t
  re : RP X.K W t f
variable {po : DTP}
theorem dp_v (i : Nat) {x : Str} (hN : X.N[i]? = some x := by rfl) (hv : Vis X.env.scope x := by first | exact Or.inl rfl | exact Or.inr (Or.inl rfl) | exact Or.inr (Or.inr rfl)) (hd : (x == ("__debug__" : Str)) = false := by decide)
    (hcd : (x == ("__classdict__" : Str)) = false := by decide) : DP X W (.Name x pos) (tVar i) (pVar i) := ⟨pe_var hN hv hd hcd, rp_var⟩
theorem dp_fld {FN : List Str} {i : Nat} {n : Str} (h : DP X W e te po) (hi : ixF FN n = some i) (c : Cls X.K C) (na : NoAttr X.K C n) (hb : attributeBase e n X.env (eval e X.env) = eval e X.env := by rfl) : DP X W (.Attribute e n pos) (tFld X.K te n) (pFld C FN i po) := ⟨pe_fld h.pe hb, rp_fld h.re hi c na⟩
theorem dp_ix (ha : DP X W a ta po) (hb : DE X W b tb fb) (hs : PlainIx b := by exact fun _ _ => rfl) : DP X W (.Subscript a b pos) (tOp (rIxL X.K) ta tb) (pIx po fb) := ⟨pe_ix ix_list ha.pe hb.pe hs, rp_ix ha.re hb.re⟩
theorem dp_ixT (ha : DP X W a ta po) (hb : DE X W b tb fb) (hs : PlainIx b := by exact fun _ _ => rfl) : DP X W (.Subscript a b pos) (tOp (rIxT X.K) ta tb) (pIxT po fb) := ⟨pe_ix ix_tup ha.pe hb.pe hs, rp_ixT ha.re hb.re⟩
end
/-! ### statements -/
section
variable {X : Cx} {W : WX} {pn : Bool} {e a b c o : Expr} {es : List Expr} {st : Stmt} {rest : List Stmt} {t u : TS} {da db : DTS} {te tb to ti : TE} {fe fb fi : DTE} {tc : TT} {dc : DTT} {pos pos' apos cpos : Pos} {po : DTP}
theorem dss_nil : DSs X W pn [] tNext dSkip := ⟨pss_nil, rs_next⟩
theorem dss_one (h : DS X W pn st t da) : DSs X W pn [st] t da := ⟨pss_one h.pe, h.re⟩
theorem dss_cons (h1 : DS X W pn st t da) (h2 : DSs X W pn rest u db) : DSs X W pn (st :: rest) (tSeq t u) (dSeq da db) := ⟨pss_cons h1.pe h2.pe, rs_seq h1.re h2.re⟩
theorem ds_pass : DS X W pn (.Pass pos) tNext dSkip := ⟨ps_pass, rs_next⟩
theorem ds_break : DS X W pn (.Break pos) tBreak (fun E ρ => E.bk ρ) := ⟨ps_break, rs_break⟩
theorem ds_continue : DS X W pn (.Continue pos) tCont (fun E ρ => E.ct ρ) := ⟨ps_continue, rs_cont⟩
theorem ds_never : DS X W pn st tNever (fun _ _ => False) := ⟨ps_never, rs_never⟩
theorem ds_if {x y : List Stmt} (hc : DT X W c tc dc) (ha : DSs X W pn x t da) (hb : DSs X W pn y u db) : DS X W pn (.If c x y pos) (tIfS tc t u) (dIf dc da db) := ⟨ps_if hc.pe ha.pe hb.pe, rs_if hc.re ha.re hb.re⟩
theorem ds_ret (h : DF X W e te fe) : DS X W pn (.Return (some e) pos) (tRet te) (dRet fe) := ⟨ps_ret h.pe, rs_ret h.re⟩
theorem ds_retN : DS X W pn (.Return none pos) tRetN dRetN := ⟨ps_retN, rs_retN⟩
theorem ds_retV (i : Nat) {x : Str} (hN : X.N[i]? = some x := by rfl) (hv : Vis X.env.scope x := by first | exact Or.inl rfl | exact Or.inr (Or.inl rfl) | exact Or.inr (Or.inr rfl)) (hd : (x == ("__debug__" : Str)) = false := by decide)
    (hcd : (x == ("__classdict__" : Str)) = false := by decide) : DS X W pn (.Return (some (.Name x pos')) pos) (tRet (tVar i)) (dRetV i) := ⟨ps_ret (pe_var hN hv hd hcd), rs_retV⟩
theorem ds_expr (h : DE X W e te fe) (hs : swapsWith e none pos.line X.env = pure false := by rfl) : DS X W pn (.Expr e pos) (tDrop te) (dDrop fe) := ⟨ps_expr h.pe hs, rs_drop h.re⟩
theorem ds_ghost (i : Nat) (h : DS X W pn st t da) : DS X W pn st t (dGhost i da) := ⟨h.pe, rs_ghost i h.re⟩
theorem ds_set {i : Nat} {x : Str} (hN : X.N.Nodup) (hi : X.N[i]? = some x) (hx : Loc X.env.scope x) (hp : pn = false ∨ i ≠ 0) (he : DF X W e te fe) (hs : swapsWith e (some (.Name x pos')) pos.line X.env = pure false := by rfl) (hf : X.fn x = true ∨ X.env.scope.names.lookup x = some .local := by first | exact .inl rfl | exact .inr rfl | assumption) :
    DS X W pn (.Assign [.Name x pos'] e pos) (tAsg te (gName i)) (dSet i fe) := ⟨ps_set hN hi hx he.pe hs hf, rs_set he.re hp⟩
theorem ds_append (ho : DP X W o to po) (he : DF X W e te fe) (hs : swapsWith (.Call (.Attribute o "append" apos) [e] [] cpos) none pos.line X.env = pure false := by rfl)
    (hbase : attributeBase o "append" X.env (eval o X.env) = eval o X.env := by rfl)
    (hfew : ((backTo cpos (starEach [e] X.env)).all (fun x => !x.1) && (backToKw cpos (keywordEach [] X.env)).all (fun x => x.1.isSome)
      && decide (([e] : List Expr).length + ([] : List Keyword).length + (if ([] : List Keyword).isEmpty then 0 else 1) < 30)) = true := by rfl)
    (hline : (apos.endLine == cpos.line) = true := by rfl) (hst : starEach [e] X.env = (false, eval e X.env) :: starEach [] X.env := by rfl) (hplain : (backTo cpos (starEach [] X.env)).any (·.1) = false := by rfl) :
    DS X W pn (.Expr (.Call (.Attribute o "append" apos) [e] [] cpos) pos) (tDrop (tBM X.K "list" rAppend to (tCons te tNil))) (sAppend po fe) :=
  ⟨ps_expr (pe_bm PySem.F.plainAttrs_list PySem.F.slot_list_append PySem.F.type_list_append mt_append ho.pe (pa_cons he.pe pa_nil hst) hbase hfew hline hst hplain) hs, rs_append ho.re he.re⟩
theorem ds_remove (ho : DP X W o to po) (he : DE X W e te fe) (hs : swapsWith (.Call (.Attribute o "remove" apos) [e] [] cpos) none pos.line X.env = pure false := by rfl)
    (hbase : attributeBase o "remove" X.env (eval o X.env) = eval o X.env := by rfl)
    (hfew : ((backTo cpos (starEach [e] X.env)).all (fun x => !x.1) && (backToKw cpos (keywordEach [] X.env)).all (fun x => x.1.isSome)
      && decide (([e] : List Expr).length + ([] : List Keyword).length + (if ([] : List Keyword).isEmpty then 0 else 1) < 30)) = true := by rfl)
    (hline : (apos.endLine == cpos.line) = true := by rfl) (hst : starEach [e] X.env = (false, eval e X.env) :: starEach [] X.env := by rfl) (hplain : (backTo cpos (starEach [] X.env)).any (·.1) = false := by rfl) :
    DS X W pn (.Expr (.Call (.Attribute o "remove" apos) [e] [] cpos) pos) (tDrop (tBM X.K "list" rRemI to (tCons te tNil))) (sRemove po fe) :=
  ⟨ps_expr (pe_bm PySem.F.plainAttrs_list PySem.F.slot_list_remove PySem.F.type_list_remove mt_remove ho.pe (pa_cons he.pe pa_nil hst) hbase hfew hline hst hplain) hs, rs_remove ho.re he.re⟩
theorem ds_pop {i : Nat} {x : Str} (hN : X.N.Nodup) (hi : X.N[i]? = some x) (hx : Loc X.env.scope x) (hp : pn = false ∨ i ≠ 0) (ho : DP X W o to po) (hs : swapsWith (.Call (.Attribute o "pop" apos) [] [] cpos) (some (.Name x pos')) pos.line X.env = pure false := by rfl)
    (hf : X.fn x = true ∨ X.env.scope.names.lookup x = some .local := by first | exact .inl rfl | exact .inr rfl | assumption) (hbase : attributeBase o "pop" X.env (eval o X.env) = eval o X.env := by rfl) (hline : (apos.endLine == cpos.line) = true := by rfl) :
    DS X W pn (.Assign [.Name x pos'] (.Call (.Attribute o "pop" apos) [] [] cpos) pos) (tAsg (tBM0 X.K "list" rPop to) (gName i)) (sSetPop i po) :=
  ⟨ps_set hN hi hx (pe_bm0 PySem.F.plainAttrs_list PySem.F.slot_list_pop PySem.F.type_list_pop mt_pop ho.pe hbase hline) hs hf, rs_setPop ho.re hp⟩
theorem ds_popAt {i : Nat} {x : Str} (hN : X.N.Nodup) (hi : X.N[i]? = some x) (hx : Loc X.env.scope x) (hp : pn = false ∨ i ≠ 0) (ho : DP X W o to po) (he : DE X W e te fe) (hs : swapsWith (.Call (.Attribute o "pop" apos) [e] [] cpos) (some (.Name x pos')) pos.line X.env = pure false := by rfl)
    (hf : X.fn x = true ∨ X.env.scope.names.lookup x = some .local := by first | exact .inl rfl | exact .inr rfl | assumption) (hbase : attributeBase o "pop" X.env (eval o X.env) = eval o X.env := by rfl)
    (hfew : ((backTo cpos (starEach [e] X.env)).all (fun x => !x.1) && (backToKw cpos (keywordEach [] X.env)).all (fun x => x.1.isSome)
      && decide (([e] : List Expr).length + ([] : List Keyword).length + (if ([] : List Keyword).isEmpty then 0 else 1) < 30)) = true := by rfl)
    (hline : (apos.endLine == cpos.line) = true := by rfl) (hst : starEach [e] X.env = (false, eval e X.env) :: starEach [] X.env := by rfl) (hplain : (backTo cpos (starEach [] X.env)).any (·.1) = false := by rfl) :
    DS X W pn (.Assign [.Name x pos'] (.Call (.Attribute o "pop" apos) [e] [] cpos) pos) (tAsg (tBM X.K "list" rPopAt to (tCons te tNil)) (gName i)) (sSetPopAt i po fe) :=
  ⟨ps_set hN hi hx (pe_bm PySem.F.plainAttrs_list PySem.F.slot_list_pop PySem.F.type_list_pop mt_popAt ho.pe (pa_cons he.pe pa_nil hst) hbase hfew hline hst hplain) hs hf, rs_setPopAt ho.re he.re hp⟩
theorem ds_setItem (he : DF X W e te fe) (ho : DP X W o to po) (hi : DE X W b ti fi) (hs : swapsWithSole [.Subscript o b pos'] e pos.line X.env = pure false := by rfl) (hw : swappedStores [.Subscript o b pos'] e X.env = pure none := by rfl)
    (h1 : (assignEach [.Subscript o b pos'] X.env).map (·.2) = [assign (.Subscript o b pos') X.env] := by rfl)
    (ha : ∀ v, assign (.Subscript o b pos') X.env v = (do
      let ov ← holding [v] (eval o X.env)
      let iv ← holding [v, ov] (eval b X.env)
      standAt pos'
      holding [v, ov, iv] (setItem ov iv v)
      release [v, ov, iv] []) := by intro _; rfl) :
    DS X W pn (.Assign [.Subscript o b pos'] e pos) (tAsg te (gSub to ti rSetL)) (sSetItem fe po fi) := ⟨ps_asg he.pe (pg_sub ho.pe hi.pe set_list ha) hs hw h1, rs_setItem he.re ho.re hi.re⟩
theorem ds_setFld {C : Addr} {FN : List Str} {j : Nat} {n : Str} (ho : DP X W o to po) (he : DF X W e te fe) (hj : ixF FN n = some j) (hl : FN.length < 1000) (cl : Cls X.K C) (na : NoAttr X.K C n) (hs : swapsWith e (some (.Attribute o n pos')) pos.line X.env = pure false := by rfl) :
    DS X W pn (.Assign [.Attribute o n pos'] e pos) (sFld X.K to te n) (sSetFld C FN j fe po) := ⟨ps_fld ho.pe he.pe hs, rs_setFld he.re ho.re hj hl cl na⟩
theorem ds_newFld {C : Addr} {FN : List Str} {n : Str} (ho : DP X W o to po) (he : DF X W e te fe) (hj : ixF FN n = none) (hl : FN.length < 1000) (cl : Cls X.K C) (na : NoAttr X.K C n) (hs : swapsWith e (some (.Attribute o n pos')) pos.line X.env = pure false := by rfl) :
    DS X W pn (.Assign [.Attribute o n pos'] e pos) (sFld X.K to te n) (sNewFld C FN n fe po) := ⟨ps_fld ho.pe he.pe hs, rs_newFld he.re ho.re hj hl cl na⟩
theorem ds_meth {C : Addr} {FN : List Str} {sp : DSpM} {m : Str} {k : Nat} {fn : Addr} {fd : FuncData} {ps : List Str} {ta : TA} {fa : DTA} {pl : Sem Bool} (ho : DP X W o to po) (c : Cls X.K C) (hm : Meth X.K C m fn) (hx : ixF FN m = none) (F : FnOk X.prog X.w X.K X.mg X.base (L2.CX X.prog X.w) k fn fd ps (liftM X.K sp)) (tk : Takes X W) (hr : Room k X.A) (hb : Binds X.K fd ps []) (ha : DA X W (e :: es) ta fa)
    (hs : swapsWith (.Call (.Attribute o m apos) (e :: es) [] cpos) none pos.line X.env = pure false := by rfl)
    (hst : starEach (e :: es) X.env = (false, eval e X.env) :: starEach es X.env := by rfl) (hpl : (backTo cpos (starEach es X.env)).any (·.1) = false := by rfl)
    (ht : eval (.Call (.Attribute o m apos) (e :: es) [] cpos) X.env = (do
      let ov ← eval o X.env
      standAt apos.atName
      let (f, first) ← holding [ov] (getMethod ov m pl)
      callWith cpos f first (backTo cpos (starEach (e :: es) X.env)) (backToKw cpos (keywordEach [] X.env))) := by rfl) :
    DS X W pn (.Expr (.Call (.Attribute o m apos) (e :: es) [] cpos) pos) (tDrop (tMethS C m (liftM X.K sp) (WE W) to ta)) (sMeth C FN sp po fa) :=
  ⟨ps_expr (pe_methSx (pl := pl) ho.pe c hm F hr hb (fun σ => passAt tk σ) ha.pe hst hpl ht) hs, rs_meth hx ho.re ha.re⟩
theorem ds_meth0 {C : Addr} {FN : List Str} {sp : DSpM} {m : Str} {k : Nat} {fn : Addr} {fd : FuncData} {ps : List Str} {pl : Sem Bool} (ho : DP X W o to po) (c : Cls X.K C) (hm : Meth X.K C m fn) (hx : ixF FN m = none) (F : FnOk X.prog X.w X.K X.mg X.base (L2.CX X.prog X.w) k fn fd ps (liftM X.K sp)) (tk : Takes X W) (hr : Room k X.A) (hb : Binds X.K fd ps [])
    (hs : swapsWith (.Call (.Attribute o m apos) [] [] cpos) none pos.line X.env = pure false := by rfl)
    (ht : eval (.Call (.Attribute o m apos) [] [] cpos) X.env = (do
      let ov ← eval o X.env
      standAt apos.atName
      let (f, first) ← holding [ov] (getMethod ov m pl)
      callWith cpos f first (backTo cpos (starEach [] X.env)) (backToKw cpos (keywordEach [] X.env))) := by rfl) :
    DS X W pn (.Expr (.Call (.Attribute o m apos) [] [] cpos) pos) (tDrop (tMethS C m (liftM X.K sp) (WE W) to tNil)) (sMeth C FN sp po dNil) :=
  ⟨ps_expr (pe_methSx0 (pl := pl) ho.pe c hm F hr hb (fun σ => passAt tk σ) ht) hs, rs_meth hx ho.re ra_nil⟩
/-! targets, loops -/
theorem dg_name {i : Nat} {x : Str} (hN : X.N.Nodup) (hi : X.N[i]? = some x) (hx : Loc X.env.scope x) (hp : pn = false ∨ i ≠ 0) (hf : X.fn x = true ∨ X.env.scope.names.lookup x = some .local := by first | exact .inl rfl | exact .inr rfl | assumption) : DG X pn [i] (.Name x pos) (gName i) (tgName i) := ⟨pg_name hN hi hx hf, rg_name hp⟩
theorem dg_tup2 {i j k : Nat} {x y : Str} {p1 p2 : Pos} (hc : X.calm = true) (hN : X.N.Nodup) (hi : X.N[i]? = some x) (hx : Loc X.env.scope x) (hj : X.N[j]? = some y) (hy : Loc X.env.scope y) (pi : pn = false ∨ i ≠ 0) (pj : pn = false ∨ j ≠ 0)
    (hf : X.fn x = true ∨ X.env.scope.names.lookup x = some .local := by first | exact .inl rfl | exact .inr rfl | assumption) (hf2 : X.fn y = true ∨ X.env.scope.names.lookup y = some .local := by first | exact .inl rfl | exact .inr rfl | assumption)
    (h1 : (assignEach [.Name x p1, .Name y p2] X.env).length = 2 := by rfl) (h2 : (assignEach [.Name x p1, .Name y p2] X.env).findIdx? (·.1) = none := by rfl)
    (h3 : (assignEach [.Name x p1, .Name y p2] X.env).map (·.2) = assign (.Name x p1) X.env :: (assignEach [.Name y p2] X.env).map (·.2) := by rfl) (h4 : (assignEach [.Name y p2] X.env).map (·.2) = assign (.Name y p2) X.env :: (assignEach [] X.env).map (·.2) := by rfl) :
    DG X pn [i, j] (.Tuple [.Name x p1, .Name y p2] k pos) (gTup X.K 2 (gCons (gName i) (gCons (gName j) gNil))) (tgTup2 i j) := ⟨pg_tup hc (pgs_cons (pg_name hN hi hx hf) (pgs_cons (pg_name hN hj hy hf2) pgs_nil h4) h3) h1 h2, rg_tup2 pi pj⟩
theorem ds_asg {tg : Expr} {g : TG} {dg : DTG} {js : List Nat} (he : DE X W e te fe) (hg : DG X pn js tg g dg) (hs : swapsWithSole [tg] e pos.line X.env = pure false := by rfl) (hw : swappedStores [tg] e X.env = pure none := by rfl)
    (h1 : (assignEach [tg] X.env).map (·.2) = [assign tg X.env] := by rfl) : DS X W pn (.Assign [tg] e pos) (tAsg te g) (dAsg fe dg) := ⟨ps_asg he.pe hg.pe hs hw h1, rs_asg he.re hg.re⟩
theorem ds_forL {tg iter : Expr} {body : List Stmt} {g : TG} {dg : DTG} {js : List Nat} (hp : PassesOwn (model X.prog X.w) X.A X.env X.xe) (hc : X.calm = true) (hi : DF X W iter ti fi) (hg : DG X pn js tg g dg) (hb : DSs X W pn body t da)
    (hs : ∀ x, foldedSetIterable iter X.env x = pure x := by intro _; rfl) : DS X W pn (.For tg iter body [] pos) (tFor (iList X.K ti) g t) (dForL fi dg da) := ⟨ps_for hp hc (pi_list hi.pe) hg.pe hb.pe hs, rs_forL hi.re hg.re hb.re⟩
theorem ds_forT {tg iter : Expr} {body : List Stmt} {g : TG} {dg : DTG} {js : List Nat} (hp : PassesOwn (model X.prog X.w) X.A X.env X.xe) (hc : X.calm = true) (hi : DE X W iter ti fi) (hg : DG X pn js tg g dg) (hb : DSs X W pn body t da)
    (hs : ∀ x, foldedSetIterable iter X.env x = pure x := by intro _; rfl) : DS X W pn (.For tg iter body [] pos) (tFor (iTup X.K ti) g t) (dForT fi dg da) := ⟨ps_for hp hc (pi_tup hi.pe) hg.pe hb.pe hs, rs_forT hi.re hg.re hb.re⟩
theorem ds_forR {tg n : Expr} {body : List Stmt} {p cpos : Pos} {ta : TA} {fa : DTA} {g : TG} {dg : DTG} {js : List Nat} (hp : PassesOwn (model X.prog X.w) X.A X.env X.xe) (hc : X.calm = true) (hgl : Gl X "range") (hm : X.mg "range" = none) (ha : DA X W [n] ta fa) (hg : DG X pn js tg g dg) (hb : DSs X W pn body t da)
    (hst : starEach [n] X.env = [(false, eval n X.env)] := by rfl) (hs : ∀ x, foldedSetIterable (.Call (.Name "range" p) [n] [] cpos) X.env x = pure x := by intro _; rfl) :
    DS X W pn (.For tg (.Call (.Name "range" p) [n] [] cpos) body [] pos) (tFor (iRng1 ta) g t) (dForR fa dg da) := ⟨ps_for hp hc (pi_range1 hgl hm ha.pe hst) hg.pe hb.pe hs, rs_forR ha.re hg.re hb.re⟩
theorem ds_while {body : List Stmt} (hp : PassesOwn (model X.prog X.w) X.A X.env X.xe) (hc : DT X W c tc dc) (hb : DSs X W pn body t da) : DS X W pn (.While c body [] pos) (tWhile tc t) (dWhile dc da) := ⟨ps_while hp hc.pe hb.pe, rs_while hc.re hb.re⟩
/-! comprehensions -/
structure DTs (X : Cx) (W : WX) (ifs : List Expr) (t : TT) (f : DTT) : Prop where
  pe : PTs X ifs t
  re : RT X.K W t f
def dYes : DTT := fun _ R _ => R true
theorem dts_nil : DTs X W [] tYes dYes := ⟨pts_nil, fun σ H Z A ρ Q R X w o q k _ => k true H Z q Gx.refl w.zo⟩
theorem dts_one (h : DT X W c tc dc) : DTs X W [c] tc dc := ⟨pts_one h.pe, h.re⟩
variable {elt tg iter n : Expr} {ifs : List Expr} {scope : Scope} {own : List (Str × Nat)} {g : TG} {dg : DTG} {js : List Nat} {ta : TA} {fa : DTA}
abbrev H00 : Hp := fun _ => none
theorem df_lcL (hc : X.calm = true) (hN : X.N.Nodup) (hi : DF X W iter ti fi) (ok : BlkOk X.N X.env.scope scope own)
    (hg : ∀ (s : Shared) (H : Hp) (C : Addr) (cl : List (Str × Addr)) (fp : List Addr), DG (X.blk s H scope (compEnvC scope cl C X.env) fp) false js tg g dg) (ht : ∀ (s : Shared) (H : Hp) (C : Addr) (cl : List (Str × Addr)) (fp : List Addr), DTs (X.blk s H scope (compEnvC scope cl C X.env) fp) WNo ifs tc dc)
    (he : ∀ (s : Shared) (H : Hp) (C : Addr) (cl : List (Str × Addr)) (fp : List Addr), DF (X.blk s H scope (compEnvC scope cl C X.env) fp) WNo elt te fe) (hj : ∀ j ∈ js, j ∈ own.map (·.2)) (hs : ∀ x, foldedSetIterable iter X.env x = pure x := by intro _; rfl) :
    DF X W (.ListComp elt [⟨tg, iter, ifs, 0⟩] scope pos) (tLc (iList X.K ti) g tc te (own.map (·.2))) (dLcL fi dg dc fe (own.map (·.2))) :=
  ⟨pe_lc hc hN (pi_list hi.pe) ok (fun s H C cl fp => (hg s H C cl fp).pe) (fun s H C cl fp => (ht s H C cl fp).pe) (fun s H C cl fp => (he s H C cl fp).pe) hs,
    rf_lcL hi.re (hg X.s_0 H00 0 [] []).re (ht X.s_0 H00 0 [] []).re (he X.s_0 H00 0 [] []).re hj⟩
theorem df_lcT (hc : X.calm = true) (hN : X.N.Nodup) (hi : DE X W iter ti fi) (ok : BlkOk X.N X.env.scope scope own)
    (hg : ∀ (s : Shared) (H : Hp) (C : Addr) (cl : List (Str × Addr)) (fp : List Addr), DG (X.blk s H scope (compEnvC scope cl C X.env) fp) false js tg g dg) (ht : ∀ (s : Shared) (H : Hp) (C : Addr) (cl : List (Str × Addr)) (fp : List Addr), DTs (X.blk s H scope (compEnvC scope cl C X.env) fp) WNo ifs tc dc)
    (he : ∀ (s : Shared) (H : Hp) (C : Addr) (cl : List (Str × Addr)) (fp : List Addr), DF (X.blk s H scope (compEnvC scope cl C X.env) fp) WNo elt te fe) (hj : ∀ j ∈ js, j ∈ own.map (·.2)) (hs : ∀ x, foldedSetIterable iter X.env x = pure x := by intro _; rfl) :
    DF X W (.ListComp elt [⟨tg, iter, ifs, 0⟩] scope pos) (tLc (iTup X.K ti) g tc te (own.map (·.2))) (dLcT fi dg dc fe (own.map (·.2))) :=
  ⟨pe_lc hc hN (pi_tup hi.pe) ok (fun s H C cl fp => (hg s H C cl fp).pe) (fun s H C cl fp => (ht s H C cl fp).pe) (fun s H C cl fp => (he s H C cl fp).pe) hs,
    rf_lcT hi.re (hg X.s_0 H00 0 [] []).re (ht X.s_0 H00 0 [] []).re (he X.s_0 H00 0 [] []).re hj⟩
theorem df_lcR {p cpos : Pos} (hc : X.calm = true) (hN : X.N.Nodup) (hgl : Gl X "range") (hm : X.mg "range" = none) (ha : DA X W [n] ta fa) (ok : BlkOk X.N X.env.scope scope own)
    (hg : ∀ (s : Shared) (H : Hp) (C : Addr) (cl : List (Str × Addr)) (fp : List Addr), DG (X.blk s H scope (compEnvC scope cl C X.env) fp) false js tg g dg) (ht : ∀ (s : Shared) (H : Hp) (C : Addr) (cl : List (Str × Addr)) (fp : List Addr), DTs (X.blk s H scope (compEnvC scope cl C X.env) fp) WNo ifs tc dc)
    (he : ∀ (s : Shared) (H : Hp) (C : Addr) (cl : List (Str × Addr)) (fp : List Addr), DF (X.blk s H scope (compEnvC scope cl C X.env) fp) WNo elt te fe) (hj : ∀ j ∈ js, j ∈ own.map (·.2)) (hst : starEach [n] X.env = [(false, eval n X.env)] := by rfl) (hs : ∀ x, foldedSetIterable (.Call (.Name "range" p) [n] [] cpos) X.env x = pure x := by intro _; rfl) :
    DF X W (.ListComp elt [⟨tg, .Call (.Name "range" p) [n] [] cpos, ifs, 0⟩] scope pos) (tLc (iRng1 ta) g tc te (own.map (·.2))) (dLcR fa dg dc fe (own.map (·.2))) :=
  ⟨pe_lc hc hN (pi_range1 hgl hm ha.pe hst) ok (fun s H C cl fp => (hg s H C cl fp).pe) (fun s H C cl fp => (ht s H C cl fp).pe) (fun s H C cl fp => (he s H C cl fp).pe) hs,
    rf_lcR ha.re (hg X.s_0 H00 0 [] []).re (ht X.s_0 H00 0 [] []).re (he X.s_0 H00 0 [] []).re hj⟩
/-- y = [..] -/
theorem ds_lcL {i : Nat} {y : Str} {py spos : Pos} (hc : X.calm = true) (hN : X.N.Nodup) (hy : X.N[i]? = some y) (hyl : X.env.scope.names.lookup y = some .local) (hp : pn = false ∨ i ≠ 0) (z : Bool)
    (hsw : swapsWith (.ListComp elt [⟨tg, iter, ifs, 0⟩] scope pos) (some (.Name y py)) spos.line X.env = pure true) (hi : DF X W iter ti fi) (ok : BlkOk X.N X.env.scope scope own)
    (hg : ∀ (s : Shared) (H : Hp) (C : Addr) (cl : List (Str × Addr)) (fp : List Addr), DG (X.blk s H scope (compEnvC scope cl C X.env) fp) false js tg g dg) (ht : ∀ (s : Shared) (H : Hp) (C : Addr) (cl : List (Str × Addr)) (fp : List Addr), DTs (X.blk s H scope (compEnvC scope cl C X.env) fp) WNo ifs tc dc)
    (he : ∀ (s : Shared) (H : Hp) (C : Addr) (cl : List (Str × Addr)) (fp : List Addr), DF (X.blk s H scope (compEnvC scope cl C X.env) fp) WNo elt te fe) (hj : ∀ j ∈ js, j ∈ own.map (·.2)) (hs : ∀ x, foldedSetIterable iter X.env x = pure x := by intro _; rfl) :
    DS X W pn (.Assign [.Name y py] (.ListComp elt [⟨tg, iter, ifs, 0⟩] scope pos) spos) (tAsg (tLc (iList X.K ti) g tc te (own.map (·.2))) (gName i)) (dSet i (if z then dFz (dLcL fi dg dc fe (own.map (·.2))) else dLcL fi dg dc fe (own.map (·.2)))) :=
  ⟨ps_setLc hc hN hy hyl hsw (pi_list hi.pe) ok (fun s H C cl fp => (hg s H C cl fp).pe) (fun s H C cl fp => (ht s H C cl fp).pe) (fun s H C cl fp => (he s H C cl fp).pe) hs,
    rs_set (by
      have h := rf_lcL (own := own.map (·.2)) hi.re (hg X.s_0 H00 0 [] []).re (ht X.s_0 H00 0 [] []).re (he X.s_0 H00 0 [] []).re hj
      cases z
      · exact h
      · exact h.fz) hp⟩
theorem ds_lcT {i : Nat} {y : Str} {py spos : Pos} (hc : X.calm = true) (hN : X.N.Nodup) (hy : X.N[i]? = some y) (hyl : X.env.scope.names.lookup y = some .local) (hp : pn = false ∨ i ≠ 0) (z : Bool)
    (hsw : swapsWith (.ListComp elt [⟨tg, iter, ifs, 0⟩] scope pos) (some (.Name y py)) spos.line X.env = pure true) (hi : DE X W iter ti fi) (ok : BlkOk X.N X.env.scope scope own)
    (hg : ∀ (s : Shared) (H : Hp) (C : Addr) (cl : List (Str × Addr)) (fp : List Addr), DG (X.blk s H scope (compEnvC scope cl C X.env) fp) false js tg g dg) (ht : ∀ (s : Shared) (H : Hp) (C : Addr) (cl : List (Str × Addr)) (fp : List Addr), DTs (X.blk s H scope (compEnvC scope cl C X.env) fp) WNo ifs tc dc)
    (he : ∀ (s : Shared) (H : Hp) (C : Addr) (cl : List (Str × Addr)) (fp : List Addr), DF (X.blk s H scope (compEnvC scope cl C X.env) fp) WNo elt te fe) (hj : ∀ j ∈ js, j ∈ own.map (·.2)) (hs : ∀ x, foldedSetIterable iter X.env x = pure x := by intro _; rfl) :
    DS X W pn (.Assign [.Name y py] (.ListComp elt [⟨tg, iter, ifs, 0⟩] scope pos) spos) (tAsg (tLc (iTup X.K ti) g tc te (own.map (·.2))) (gName i)) (dSet i (if z then dFz (dLcT fi dg dc fe (own.map (·.2))) else dLcT fi dg dc fe (own.map (·.2)))) :=
  ⟨ps_setLc hc hN hy hyl hsw (pi_tup hi.pe) ok (fun s H C cl fp => (hg s H C cl fp).pe) (fun s H C cl fp => (ht s H C cl fp).pe) (fun s H C cl fp => (he s H C cl fp).pe) hs,
    rs_set (by
      have h := rf_lcT (own := own.map (·.2)) hi.re (hg X.s_0 H00 0 [] []).re (ht X.s_0 H00 0 [] []).re (he X.s_0 H00 0 [] []).re hj
      cases z
      · exact h
      · exact h.fz) hp⟩
theorem ds_lcR {i : Nat} {y : Str} {py spos p cpos : Pos} (hc : X.calm = true) (hN : X.N.Nodup) (hy : X.N[i]? = some y) (hyl : X.env.scope.names.lookup y = some .local) (hp : pn = false ∨ i ≠ 0) (z : Bool)
    (hsw : swapsWith (.ListComp elt [⟨tg, .Call (.Name "range" p) [n] [] cpos, ifs, 0⟩] scope pos) (some (.Name y py)) spos.line X.env = pure true) (hgl : Gl X "range") (hm : X.mg "range" = none) (ha : DA X W [n] ta fa) (ok : BlkOk X.N X.env.scope scope own)
    (hg : ∀ (s : Shared) (H : Hp) (C : Addr) (cl : List (Str × Addr)) (fp : List Addr), DG (X.blk s H scope (compEnvC scope cl C X.env) fp) false js tg g dg) (ht : ∀ (s : Shared) (H : Hp) (C : Addr) (cl : List (Str × Addr)) (fp : List Addr), DTs (X.blk s H scope (compEnvC scope cl C X.env) fp) WNo ifs tc dc)
    (he : ∀ (s : Shared) (H : Hp) (C : Addr) (cl : List (Str × Addr)) (fp : List Addr), DF (X.blk s H scope (compEnvC scope cl C X.env) fp) WNo elt te fe) (hj : ∀ j ∈ js, j ∈ own.map (·.2)) (hst : starEach [n] X.env = [(false, eval n X.env)] := by rfl) (hs : ∀ x, foldedSetIterable (.Call (.Name "range" p) [n] [] cpos) X.env x = pure x := by intro _; rfl) :
    DS X W pn (.Assign [.Name y py] (.ListComp elt [⟨tg, .Call (.Name "range" p) [n] [] cpos, ifs, 0⟩] scope pos) spos) (tAsg (tLc (iRng1 ta) g tc te (own.map (·.2))) (gName i)) (dSet i (if z then dFz (dLcR fa dg dc fe (own.map (·.2))) else dLcR fa dg dc fe (own.map (·.2)))) :=
  ⟨ps_setLc hc hN hy hyl hsw (pi_range1 hgl hm ha.pe hst) ok (fun s H C cl fp => (hg s H C cl fp).pe) (fun s H C cl fp => (ht s H C cl fp).pe) (fun s H C cl fp => (he s H C cl fp).pe) hs,
    rs_set (by
      have h := rf_lcR (own := own.map (·.2)) ha.re (hg X.s_0 H00 0 [] []).re (ht X.s_0 H00 0 [] []).re (he X.s_0 H00 0 [] []).re hj
      cases z
      · exact h
      · exact h.fz) hp⟩
/-! errors -/
def dRaise (C : Addr) : DTS := fun E ρ => E.ex C ρ
theorem ds_raise {C : Addr} {tm : St → Hp → XK → Prop} (hc : X.calm = true) (tk : Takes X W) (he : PMk X e tm) (ht : tm = fun _ H Q => Q (.ref C) none H) : DS X W pn (.Raise (some e) none pos) (fun _ σ H => tm σ H fun cls d H' => W cls d σ H') (dRaise C) := by
  subst ht
  exact ⟨ps_raise hc tk he, fun σ H Z A ρ Dn E v0 w o p r k => k.ex C ρ σ H Z A r Go.refl w o p⟩
end
end DL
set_option Elab.async false
set_option linter.all false
set_option maxRecDepth 100000
namespace DL
open PySem L2

theorem hu65 {A : Around} {k : Nat} (r : Room k A) : A.units + 65 < cLine := by have := r.un; omega
section
variable {X : Cx} {W : WX} {e a b : Expr} {ta tb te : TE} {fa fb fe : DTE} {pos p : Pos}
theorem df_fdivW (ha : DE X W a ta fa) (hb : DE X W b tb fb) : DF X W (.BinOp a .FloorDiv b pos) (tOp (rI CDivW fun i j => .int (i / j)) ta tb) (dOp (gIc CDivW fun i j => .int (i / j)) fa fb) := ⟨pe_op op_fdivW ha.pe hb.pe, rf_op (r2_i fun _ _ _ _ => ow_int) ha.re hb.re⟩
/-- list(range(n)) -/
def dListR (f : DTE) : DTE := fun ρ R X => f ρ (fun d => ∃ n : Int, d = .int n ∧ 0 ≤ n ∧ n ≤ 16777216 ∧ R (.lst true (ranD n.toNat))) X
theorem ows_ran {K : PySem.W.Frag} {H : Hp} {Z : Zn} (n : Int) : Ows K H Z (ranD n.toNat) (rgV 0 n) [] := by
  have e1 : ranD n.toNat = ((List.range n.toNat).map fun k => ((k : Nat) : Int)).map D.int := by unfold ranD; rw [List.map_map]; rfl
  have e2 : rgV 0 n = ((List.range n.toNat).map fun k => ((k : Nat) : Int)).map V.int := by
    unfold rgV
    rw [List.map_map, Int.sub_zero]
    refine List.map_congr_left fun k _ => ?_
    show V.int (0 + (k : Int)) = V.int (k : Int)
    rw [Int.zero_add]
  rw [e1, e2]
  exact ows_ints _
theorem df_listR {p2 pos2 : Pos} (hc : X.calm = true) (hgl : Gl X "list") (hml : X.mg "list" = none) (hgr : Gl X "range") (hmr : X.mg "range" = none) (ha : DE X W a ta fa) (na : starEach [a] X.env = (false, eval a X.env) :: starEach [] X.env := by rfl)
    (na2 : starEach [.Call (.Name "range" p2) [a] [] pos2] X.env = (false, eval (.Call (.Name "range" p2) [a] [] pos2) X.env) :: starEach [] X.env := by rfl) :
    DF X W (.Call (.Name "list" p) [.Call (.Name "range" p2) [a] [] pos2] [] pos) (tLstRg (tRg1 ta)) (dListR fa) := ⟨pe_listRg hc hgl hml (prg_1 hgr hmr ha.pe na) na2, fun σ H Z A ρ Q R X' w o q k xx => by
  refine ha.re σ H Z A ρ _ _ X' w o q (fun d v H1 Z1 A1 r1 g1 zo1 ad1 ow1 => ?_) xx
  obtain ⟨n, rfl, h0, h1, r⟩ := r1
  refine ⟨n, ow1.int_of, RgOk.of_le (by omega) h1 (by omega) h0, fun l hl => ?_⟩
  obtain ⟨g, zo2, fr, ow⟩ := new_lst0 zo1 (ows_ran (K := X.K) n) hl
  exact k _ _ _ Z1 _ r (g1.trans zo1 g) zo2 (fr.back g1 zo1) ow⟩
end

/-- a def as it stands, its promise, its place -/
structure Cal (P : Program) (w : World) (K : PySem.W.Frag) (mg : Str → Option Value) (base : Heap) (x : Str) (k : Nat) (ps : List Str) (sp : Sp) (f : Addr) (fd : FuncData) : Prop where
  ok : FnOk P w K mg base (L2.CX P w) k f fd ps sp
  mg : mg x = some (.ref f)
  kp : PySem.W.keepIn K (.ref f) = true
  bn : Binds K fd ps []
/-- a method -/
structure CalM (P : Program) (w : World) (K : PySem.W.Frag) (mg : Str → Option Value) (base : Heap) (C : Addr) (m : Str) (k : Nat) (ps : List Str) (sp : Sp) (f : Addr) (fd : FuncData) : Prop where
  ok : FnOk P w K mg base (L2.CX P w) k f fd ps sp
  me : Meth K C m f
  bn : Binds K fd ps []
/-- an __init__ -/
structure CalI (P : Program) (w : World) (K : PySem.W.Frag) (mg : Str → Option Value) (base : Heap) (C : Addr) (x : Str) (k : Nat) (ps : List Str) (sp : Sp) (f : Addr) (fd : FuncData) : Prop where
  ok : FnOk P w K mg base (L2.CX P w) k f fd ps sp
  mkk : Mk K C f
  mg : mg x = some (.ref C)
  bn : Binds K fd ps []
section
variable {X : Cx} {W : WX} {pn : Bool} {e o : Expr} {es : List Expr} {t : TA} {f : DTA} {ta to : TE} {fa : DTE} {pos p apos cpos : Pos} {x m : Str} {k j : Nat} {ps : List Str} {fn C : Addr} {fd : FuncData} {po : DTP}
theorem df_c {sp : DSp} (c : Cal X.prog X.w X.K X.mg X.base x k ps (liftP X.K sp) fn fd) (tk : Takes X W) (hr : Room j X.A) (hj : k ≤ j) (hg : Gl X x) (ha : DA X W (e :: es) t f) (hdb : (x == ("__debug__" : Str)) = false := by decide)
    (he : starEach (e :: es) X.env = (false, eval e X.env) :: starEach es X.env := by rfl) (hpl : (backTo pos (starEach es X.env)).any (·.1) = false := by rfl) :
    DF X W (.Call (.Name x p) (e :: es) [] pos) (tCallS (liftP X.K sp) (WE W) t) (dCall sp f) := df_call c.ok tk (hr.mono hj) hg c.mg c.kp c.bn ha hdb he hpl
theorem df_m {FN : List Str} {sp : DSp} {pl : Sem Bool} (ho : DE X W o ta fa) (cl : Cls X.K C) (c : CalM X.prog X.w X.K X.mg X.base C m k ps (liftP X.K sp) fn fd) (hx : ixF FN m = none) (tk : Takes X W) (hr : Room j X.A) (hj : k ≤ j) (ha : DA X W (e :: es) t f)
    (hst : starEach (e :: es) X.env = (false, eval e X.env) :: starEach es X.env := by rfl) (hpl : (backTo pos (starEach es X.env)).any (·.1) = false := by rfl)
    (ht : eval (.Call (.Attribute o m apos) (e :: es) [] pos) X.env = (do
      let ov ← eval o X.env
      standAt apos.atName
      let (f, first) ← holding [ov] (getMethod ov m pl)
      callWith pos f first (backTo pos (starEach (e :: es) X.env)) (backToKw pos (keywordEach [] X.env))) := by rfl) :
    DF X W (.Call (.Attribute o m apos) (e :: es) [] pos) (tMethS C m (liftP X.K sp) (WE W) ta t) (dMeth C FN sp fa f) := df_meth (pl := pl) ho cl c.me hx c.ok tk (hr.mono hj) c.bn ha hst hpl ht
theorem df_m0 {FN : List Str} {sp : DSp} {pl : Sem Bool} (ho : DE X W o ta fa) (cl : Cls X.K C) (c : CalM X.prog X.w X.K X.mg X.base C m k ps (liftP X.K sp) fn fd) (hx : ixF FN m = none) (tk : Takes X W) (hr : Room j X.A) (hj : k ≤ j)
    (ht : eval (.Call (.Attribute o m apos) [] [] pos) X.env = (do
      let ov ← eval o X.env
      standAt apos.atName
      let (f, first) ← holding [ov] (getMethod ov m pl)
      callWith pos f first (backTo pos (starEach [] X.env)) (backToKw pos (keywordEach [] X.env))) := by rfl) :
    DF X W (.Call (.Attribute o m apos) [] [] pos) (tMethS C m (liftP X.K sp) (WE W) ta tNil) (dMeth C FN sp fa dNil) := df_meth0 (pl := pl) ho cl c.me hx c.ok tk (hr.mono hj) c.bn ht
theorem df_i {sp : DSpM} (c : CalI X.prog X.w X.K X.mg X.base C x k ps (liftM X.K sp) fn fd) (tk : Takes X W) (hr : Room j X.A) (hj : k + 1 ≤ j) (hg : Gl X x) (ha : DA X W (e :: es) t f) (hdb : (x == ("__debug__" : Str)) = false := by decide)
    (he : starEach (e :: es) X.env = (false, eval e X.env) :: starEach es X.env := by rfl) (hpl : (backTo pos (starEach es X.env)).any (·.1) = false := by rfl) :
    DF X W (.Call (.Name x p) (e :: es) [] pos) (tMakeS C (liftM X.K sp) (WE W) t) (dMake C sp f) := df_make c.mkk c.ok tk (hr.mono hj) hg c.mg c.bn ha hdb he hpl
theorem ds_m {FN : List Str} {sp : DSpM} {pl : Sem Bool} (ho : DP X W o to po) (cl : Cls X.K C) (c : CalM X.prog X.w X.K X.mg X.base C m k ps (liftM X.K sp) fn fd) (hx : ixF FN m = none) (tk : Takes X W) (hr : Room j X.A) (hj : k ≤ j) (ha : DA X W (e :: es) t f)
    (hs : swapsWith (.Call (.Attribute o m apos) (e :: es) [] cpos) none pos.line X.env = pure false := by rfl)
    (hst : starEach (e :: es) X.env = (false, eval e X.env) :: starEach es X.env := by rfl) (hpl : (backTo cpos (starEach es X.env)).any (·.1) = false := by rfl)
    (ht : eval (.Call (.Attribute o m apos) (e :: es) [] cpos) X.env = (do
      let ov ← eval o X.env
      standAt apos.atName
      let (f, first) ← holding [ov] (getMethod ov m pl)
      callWith cpos f first (backTo cpos (starEach (e :: es) X.env)) (backToKw cpos (keywordEach [] X.env))) := by rfl) :
    DS X W pn (.Expr (.Call (.Attribute o m apos) (e :: es) [] cpos) pos) (tDrop (tMethS C m (liftM X.K sp) (WE W) to t)) (sMeth C FN sp po f) := ds_meth (pl := pl) ho cl c.me hx c.ok tk (hr.mono hj) c.bn ha hs hst hpl ht
theorem ds_m0 {FN : List Str} {sp : DSpM} {pl : Sem Bool} (ho : DP X W o to po) (cl : Cls X.K C) (c : CalM X.prog X.w X.K X.mg X.base C m k ps (liftM X.K sp) fn fd) (hx : ixF FN m = none) (tk : Takes X W) (hr : Room j X.A) (hj : k ≤ j)
    (hs : swapsWith (.Call (.Attribute o m apos) [] [] cpos) none pos.line X.env = pure false := by rfl)
    (ht : eval (.Call (.Attribute o m apos) [] [] cpos) X.env = (do
      let ov ← eval o X.env
      standAt apos.atName
      let (f, first) ← holding [ov] (getMethod ov m pl)
      callWith cpos f first (backTo cpos (starEach [] X.env)) (backToKw cpos (keywordEach [] X.env))) := by rfl) :
    DS X W pn (.Expr (.Call (.Attribute o m apos) [] [] cpos) pos) (tDrop (tMethS C m (liftM X.K sp) (WE W) to tNil)) (sMeth C FN sp po dNil) := ds_meth0 (pl := pl) ho cl c.me hx c.ok tk (hr.mono hj) c.bn hs ht
end

/-! ### the law's end -/
/-- what a law promises: of every script of at most 63 ints it answers True -/
def spEnd : DSp := fun ds R _ => ∃ ns : List Int, ds = [.scr ns] ∧ ns.length ≤ 63 ∧ R (.bl true)
theorem end_sp {K : PySem.W.Frag} {H : Hp} {a : Addr} {ns : List Int} (hl : ns.length ≤ 63) (hO : Only H) (hS : SqL K H a (ns.map V.int)) : liftP K spEnd [.ref a] H (fun v _ => v = .bl true) fun _ _ _ => False := by
  refine ⟨⟨fun _ => False, fun _ => False, fun _ _ => False⟩, [.scr ns], fun d => d = .bl true, fun _ => False, ⟨fun _ h => h.elim, fun _ h => h.elim, fun _ h => h.elim⟩, ?_, ⟨ns, rfl, hl, rfl⟩, fun r v H' Z' A1 hr g zo fr ow => ?_, fun _ _ _ h => h.elim⟩
  · unfold Ows
    refine ⟨.ref a, [], [], [], rfl, rfl, ?_, by unfold Ows; exact ⟨rfl, rfl⟩⟩
    unfold Ow
    refine ⟨a, rfl, rfl, ?_⟩
    rcases hS with (h | ⟨o, h⟩) | h
    · rcases hO a with n | ⟨o, xs, n⟩
      · rw [n] at h; cases h
      · rw [n] at h; cases h
    · exact .inr (.inl ⟨o, h⟩)
    · exact .inr (.inr h)
  · subst hr
    exact ow.bl_of
theorem no_end {P : Program} {w : World} {H : Hp} {s : Shared} {e : Value} {s' : Shared} (h : L2.CX P w [] H s (fun _ _ _ => False) e s') : False := by
  obtain ⟨_, _, _, _, _, _, _, _, _, _, _, _, z⟩ := h
  exact z
end DL
set_option Elab.async false
set_option linter.all false
set_option maxRecDepth 100000
namespace DL
open PySem L2

/-! ### lists of ints that are shared: whoever has one may change it, so long as its property holds -/
section
variable {K : PySem.W.Frag} {W : WX} {pn : Bool} {H H' H1 H2 : Hp} {Z Z' Z1 Z2 : Zn} {A A' A1 A2 : List Addr}
theorem Ow.sh_ {I : List Int → Prop} {v : V} (h : Ow K H Z (.sh I) v A) : ∃ p, v = .ref p ∧ Z.di p ∧ Z.iv p = I ∧ A = [] := by unfold Ow at h; exact h
theorem Ow.sh_at {I : List Int → Prop} {v : V} (zo : Zo H Z) (h : Ow K H Z (.sh I) v A) : ∃ p xs, v = .ref p ∧ Z.di p ∧ Z.iv p = I ∧ H p = some (.lst (xs.map V.int)) ∧ I xs := by
  obtain ⟨p, e, d, i, _⟩ := h.sh_
  obtain ⟨xs, hp, ix⟩ := zo.dk p d
  exact ⟨p, xs, e, d, i, hp, by rw [← i]; exact ix⟩
theorem atI_map {α β : Type} (f : α → β) (xs : List α) (i : Int) : atI (xs.map f) i = (atI xs i).map f := by
  unfold atI
  rw [List.length_map]
  cases ixN xs.length i with
  | none => rfl
  | some j => simp
/-- an item of a shared list: any that its property allows -/
def gIxSh : G2 := fun x y R => ∃ I i, x = .sh I ∧ y = .int i ∧ ∀ xs, I xs → ∃ n, atI xs i = some n ∧ R (.int n)
theorem r2_ixSh : R2E K (rIxL K) gIxSh := fun H Z x y u v A1 A2 Q R zo a1 a2 o1 o2 ⟨I, i, ex, ey, f⟩ k => by
  subst ex ey
  obtain ⟨p, xs, e, d, ei, hp, ix⟩ := o1.sh_at zo
  obtain ⟨n, en, r⟩ := f xs ix
  exact ⟨p, _, i, .int n, e, o2.int_of, SqL.of hp, by rw [atI_map, en]; rfl, k _ _ H Z [] r Gx.refl zo (fun _ h => nomatch h) ow_int⟩
/-- a new list of ints becomes a shared one -/
def dSh (I : List Int → Prop) (f : DTE) : DTE := fun ρ R X => f ρ (fun d => (∃ xs : List Int, d = .lst true (xs.map .int) ∧ I xs) ∧ R (.sh I)) X
theorem rf_sh {I : List Int → Prop} {t : TE} {f : DTE} (h : RF K W t f) : RF K W t (dSh I f) := fun σ H Z A ρ Q R X w o q k x => by
  refine h σ H Z A ρ _ _ X w o q (fun d v H1 Z1 A1 r1 g1 zo1 fr1 ow1 => ?_) x
  obtain ⟨⟨xs, ed, ix⟩, r⟩ := r1
  subst ed
  obtain ⟨p, vs, A', ev, eA, hp, rs⟩ := ow1.lstT
  obtain ⟨evs, eA'⟩ := rs.ints
  subst evs eA' eA
  have nz : ¬ Z1.fz p := fr1.af p (by simp)
  have nd : ¬ Z1.di p := fr1.ad p (by simp)
  have nw : H p = none := fr1.nw p (by simp)
  refine k _ v H1 ⟨Z1.fz, fun q => Z1.di q ∨ q = p, fun q => if q = p then I else Z1.iv q⟩ [] r ⟨g1.kp, g1.zf, fun q h => ?_, g1.nf, fun q h => ?_⟩ ⟨fun q z h => ?_, zo1.zh, fun q h => ?_⟩ Fr.nil ?_
  · obtain ⟨a, b⟩ := g1.zd q h
    have ne : q ≠ p := fun e => nd (e ▸ a)
    exact ⟨.inl a, by show (if q = p then I else Z1.iv q) = _; rw [if_neg ne]; exact b⟩
  · rcases h with h | h
    · exact g1.nd q h
    · rw [h]; exact .inr nw
  · rcases h with h | h
    · exact zo1.zd q z h
    · exact nz (h ▸ z)
  · by_cases e : q = p
    · subst e
      exact ⟨xs, hp, by show (if q = q then I else Z1.iv q) xs; rw [if_pos rfl]; exact ix⟩
    · have h' : Z1.di q := h.elim id fun h => absurd h e
      obtain ⟨ys, hy, iy⟩ := zo1.dk q h'
      exact ⟨ys, hy, by show (if q = p then I else Z1.iv q) ys; rw [if_neg e]; exact iy⟩
  · unfold Ow
    exact ⟨p, ev, .inr rfl, by show (if p = p then I else Z1.iv p) = I; rw [if_pos rfl], rfl⟩
/-- a shared list is written -/
theorem sh_write {p : Addr} {I : List Int → Prop} {ys : List Int} (w : Wo H Z A) (d : Z.di p) (i : Z.iv p = I) (iy : I ys) : Go H Z A (upd H p (.lst (ys.map V.int))) Z A ∧ Wo (upd H p (.lst (ys.map V.int))) Z A ∧ Kp H Z A (upd H p (.lst (ys.map V.int))) Z := by
  have np : p ∉ A := fun h => w.ad p h d
  have nz : ¬ Z.fz p := fun h => w.zo.zd p h d
  obtain ⟨xs, hp, _⟩ := w.zo.dk p d
  have kk : Kp H Z A (upd H p (.lst (ys.map V.int))) Z := kp_upd nz (by rw [hp]; trivial) np
  refine ⟨⟨fun q u e _ nd => ?_, fun q h => ?_, fun _ h => h, fun _ h => ⟨h, rfl⟩, fun _ h => .inl h, fun _ h => .inl h, fun _ h => .inl h⟩, ⟨⟨w.zo.zd, fun q z => ?_, fun q z => ?_⟩, w.nd, w.af, w.ad, fun q hq => ?_⟩, kk⟩
  · have ne : q ≠ p := fun e => nd (e ▸ d)
    rw [upd_ne ne]; exact e
  · by_cases e : q = p
    · rw [e, upd_same]; exact fun n => nomatch n
    · rw [upd_ne e]; exact h
  · have ne : q ≠ p := fun e => nz (e ▸ z)
    rw [upd_ne ne]; exact w.zo.zh q z
  · by_cases e : q = p
    · subst e
      exact ⟨ys, upd_same, by rw [i]; exact iy⟩
    · rw [upd_ne e]; exact w.zo.dk q z
  · have ne : q ≠ p := fun e => np (e ▸ hq)
    rw [upd_ne ne]; exact w.ak q hq
def sSetSh (e o i : DTE) : DTS := fun E ρ => e ρ (fun y => o ρ (fun x => i ρ (fun k => ∃ I n kk, x = .sh I ∧ y = .int n ∧ k = .int kk ∧ (∀ xs, I xs → ∃ j, ixN xs.length kk = some j ∧ I (xs.set j n)) ∧ E.nx ρ) (fun C => E.ex C ρ)) (fun C => E.ex C ρ)) (fun C => E.ex C ρ)
theorem set_mapI (l : List Int) (j : Nat) (n : Int) : (l.map V.int).set j (.int n) = (l.set j n).map V.int := List.map_set.symm
theorem rs_setSh {te to ti : TE} {fe fo fi : DTE} (he : RE K W te fe) (ho : RE K W to fo) (hi : RE K W ti fi) : RS K W pn (tAsg te (gSub to ti rSetL)) (sSetSh fe fo fi) := fun σ H Z A ρ Dn E v0 w o p r k => by
  refine he σ H Z A ρ _ _ _ w o r (fun y vy H1 Z1 A1 r1 g1 zo1 ad1 ow1 => ?_) (k.xp w o p)
  have w1 := w.gx g1 zo1
  have o1 := o.gx w g1
  refine ho σ H1 Z1 A ρ _ _ _ w1 o1 r1 (fun dx vx H2 Z2 A2 r2 g2 zo2 ad2 ow2 => ?_) fun C H' Z' xc g' zo' => k.xp w o p C H' Z' xc (g1.trans zo1 g') zo'
  have w2 := w1.gx g2 zo2
  have o2 := o1.gx w1 g2
  refine hi σ H2 Z2 A ρ _ _ _ w2 o2 r2 (fun dk vk H3 Z3 A3 r3 g3 zo3 ad3 ow3 => ?_) fun C H' Z' xc g' zo' => k.xp w o p C H' Z' xc ((g1.trans zo1 g2).trans zo2 g') zo'
  obtain ⟨I, n, kk, ex, ey, ek, f, r3⟩ := r3
  subst ex ey ek
  have w3 := w2.gx g3 zo3
  obtain ⟨q, xs, ev, d, ei, hp, ix⟩ := (ow2.gx zo2 ad2 g3).sh_at zo3
  obtain ⟨j, hj, ij⟩ := f xs ix
  refine ⟨q, xs.map V.int, kk, j, ev, ow3.int_of, hp, by rw [List.length_map]; exact hj, ?_⟩
  rw [ow1.int_of, set_mapI]
  obtain ⟨gg, ww, kq⟩ := sh_write w3 d ei ij
  exact k.nx ρ σ _ Z3 A r3 ((((g1.trans zo1 g2).trans zo2 g3).go0 w zo3).trans gg) ww ((o2.gx w2 g3).keep kq) p
end
section
variable {X : Cx} {W : WX} {pn : Bool} {e a b o : Expr} {ta tb te to ti : TE} {fa fb fe fo fi : DTE} {pos pos' : Pos}
theorem DF.toSh (I : List Int → Prop) (h : DF X W e te fe) : DF X W e te (dSh I fe) := ⟨h.pe, rf_sh h.re⟩
theorem de_ixSh (ha : DE X W a ta fa) (hb : DE X W b tb fb) (hs : PlainIx b := by exact fun _ _ => rfl) : DE X W (.Subscript a b pos) (tOp (rIxL X.K) ta tb) (dOp gIxSh fa fb) := ⟨pe_ix ix_list ha.pe hb.pe hs, re_op r2_ixSh ha.re hb.re⟩
theorem ds_setSh (he : DE X W e te fe) (ho : DE X W o to fo) (hi : DE X W b ti fi) (hs : swapsWithSole [.Subscript o b pos'] e pos.line X.env = pure false := by rfl) (hw : swappedStores [.Subscript o b pos'] e X.env = pure none := by rfl)
    (h1 : (assignEach [.Subscript o b pos'] X.env).map (·.2) = [assign (.Subscript o b pos') X.env] := by rfl)
    (ha : ∀ v, assign (.Subscript o b pos') X.env v = (do
      let ov ← holding [v] (eval o X.env)
      let iv ← holding [v, ov] (eval b X.env)
      standAt pos'
      holding [v, ov, iv] (setItem ov iv v)
      release [v, ov, iv] []) := by intro _; rfl) :
    DS X W pn (.Assign [.Subscript o b pos'] e pos) (tAsg te (gSub to ti rSetL)) (sSetSh fe fo fi) := ⟨ps_asg he.pe (pg_sub ho.pe hi.pe set_list ha) hs hw h1, rs_setSh he.re ho.re hi.re⟩
end
end DL
set_option Elab.async false
set_option linter.all false
set_option maxRecDepth 100000
namespace DL
open PySem L2

section
variable {K : PySem.W.Frag} {W : WX} {pn : Bool} {H H' H1 H2 : Hp} {Z Z' Z1 Z2 : Zn} {A A' A1 A2 : List Addr}
/-- a new list of ints becomes a shared one; its property is chosen -/
def dShE (f : DTE) : DTE := fun ρ R X => f ρ (fun d => ∃ (I : List Int → Prop) (xs : List Int), d = .lst true (xs.map .int) ∧ I xs ∧ R (.sh I)) X
theorem rf_shE {t : TE} {f : DTE} (h : RF K W t f) : RF K W t (dShE f) := fun σ H Z A ρ Q R X w o q k x => by
  refine h σ H Z A ρ _ _ X w o q (fun d v H1 Z1 A1 r1 g1 zo1 fr1 ow1 => ?_) x
  obtain ⟨I, xs, ed, ix, r⟩ := r1
  subst ed
  obtain ⟨p, vs, A', ev, eA, hp, rs⟩ := ow1.lstT
  obtain ⟨evs, eA'⟩ := rs.ints
  subst evs eA' eA
  have nz : ¬ Z1.fz p := fr1.af p (by simp)
  have nd : ¬ Z1.di p := fr1.ad p (by simp)
  have nw : H p = none := fr1.nw p (by simp)
  refine k _ v H1 ⟨Z1.fz, fun q => Z1.di q ∨ q = p, fun q => if q = p then I else Z1.iv q⟩ [] r ⟨g1.kp, g1.zf, fun q h => ?_, g1.nf, fun q h => ?_⟩ ⟨fun q z h => ?_, zo1.zh, fun q h => ?_⟩ Fr.nil ?_
  · obtain ⟨a, b⟩ := g1.zd q h
    have ne : q ≠ p := fun e => nd (e ▸ a)
    exact ⟨.inl a, by show (if q = p then I else Z1.iv q) = _; rw [if_neg ne]; exact b⟩
  · rcases h with h | h
    · exact g1.nd q h
    · rw [h]; exact .inr nw
  · rcases h with h | h
    · exact zo1.zd q z h
    · exact nz (h ▸ z)
  · by_cases e : q = p
    · subst e
      exact ⟨xs, hp, by show (if q = q then I else Z1.iv q) xs; rw [if_pos rfl]; exact ix⟩
    · have h' : Z1.di q := h.elim id fun h => absurd h e
      obtain ⟨ys, hy, iy⟩ := zo1.dk q h'
      exact ⟨ys, hy, by show (if q = p then I else Z1.iv q) ys; rw [if_neg e]; exact iy⟩
  · unfold Ow
    exact ⟨p, ev, .inr rfl, by show (if p = p then I else Z1.iv p) = I; rw [if_pos rfl], rfl⟩
/-- two neighbours of a shared list change places: one = row[at]; row[at] = row[at - 1]; row[at - 1] = one -/
def sSwapSh (r a t : Nat) : DTS := fun E ρ => ∃ I k, ρ[r]? = some (some (.sh I)) ∧ ρ[a]? = some (some (.int k)) ∧ t < ρ.length ∧ t ≠ r ∧ t ≠ a ∧
  ∀ xs, I xs → ∃ j j1 x y, ixN xs.length k = some j ∧ ixN xs.length (k - 1) = some j1 ∧ xs[j]? = some x ∧ xs[j1]? = some y ∧ I ((xs.set j y).set j1 x) ∧ E.nx (ρ.set t (some (.int x)))
abbrev tDown (a : Nat) : TE := tOp (rI0 fun i j => .int (i - j)) (tVar a) (tC (.int 1))
theorem rs_swapSh {r a t : Nat} (hp : pn = false ∨ t ≠ 0) : RS K W pn (tSeq (tAsg (tOp (rIxL K) (tVar r) (tVar a)) (gName t)) (tSeq (tAsg (tOp (rIxL K) (tVar r) (tDown a)) (gSub (tVar r) (tVar a) rSetL)) (tAsg (tVar t) (gSub (tVar r) (tDown a) rSetL)))) (sSwapSh r a t) :=
    fun σ H Z A ρ Dn E v0 w o p ⟨I, k, er, ea, ht, n1, n2, f⟩ kk => by
  obtain ⟨_, _, _, _, _, er', ⟨vr, rfl, qr⟩, _⟩ := o.at er
  obtain ⟨_, _, _, _, _, ea', ⟨va, rfl, qa⟩, _⟩ := o.at ea
  have eva := qa.int_of
  subst eva
  obtain ⟨q, xs, ev, d, ei, hp', ix⟩ := qr.sh_at w.zo
  subst ev
  obtain ⟨j, j1, x, y, hj, hj1, hx, hy, ij, en⟩ := f xs ix
  have lt : t < σ.length := by rw [← o.len]; exact ht
  have er2 : (σ.set t (some (V.int x)))[r]? = some (some (.ref q)) := by rw [List.getElem?_set_ne n1]; exact er'
  have ea2 : (σ.set t (some (V.int x)))[a]? = some (some (.int k)) := by rw [List.getElem?_set_ne n2]; exact ea'
  have et2 : (σ.set t (some (V.int x)))[t]? = some (some (.int x)) := by rw [List.getElem?_set_self lt]
  have ax : atI (xs.map V.int) k = some (.int x) := by rw [atI_map]; unfold atI; rw [hj]; show (xs[j]?).map V.int = _; rw [hx]; rfl
  have ay : atI (xs.map V.int) (k - 1) = some (.int y) := by rw [atI_map]; unfold atI; rw [hj1]; show (xs[j1]?).map V.int = _; rw [hy]; rfl
  refine ⟨_, er', _, ea', q, _, k, .int x, rfl, rfl, SqL.of hp', ax, ?_⟩
  refine ⟨_, er2, ?_⟩
  refine ⟨_, ea2, k, 1, rfl, rfl, q, _, _, .int y, rfl, rfl, SqL.of hp', ay, ?_⟩
  refine ⟨_, er2, _, ea2, q, _, k, j, rfl, rfl, hp', by rw [List.length_map]; exact hj, ?_⟩
  refine ⟨_, et2, _, er2, ?_⟩
  refine ⟨_, ea2, k, 1, rfl, rfl, q, _, _, j1, rfl, rfl, upd_same, by rw [List.length_set, List.length_map]; exact hj1, ?_⟩
  rw [set_mapI, set_mapI]
  obtain ⟨gg, ww, kq⟩ := sh_write w d ei ij
  have eu : upd (upd H q (.lst ((xs.set j y).map V.int))) q (.lst (((xs.set j y).set j1 x).map V.int)) = upd H q (.lst (((xs.set j y).set j1 x).map V.int)) := by
    funext b
    by_cases e : b = q
    · subst e; rw [upd_same, upd_same]
    · rw [upd_ne e, upd_ne e, upd_ne e]
  rw [eu]
  obtain ⟨A', o', w', s⟩ := set_slot (A1 := []) ht ww (o.keep kq) (ow_int (i := x))
  exact kk.nx _ _ _ Z A' en (go_sub gg s) w' o' (pin_set p hp)
/-- [(x,) for x in row], of a shared list -/
def dLcSh1 (i : Nat) (f : DTE) : DTE := fun ρ R X => f ρ (fun d => ∃ I, d = .sh I ∧ i < ρ.length ∧ ∀ xs, I xs → xs.length < 1000 ∧ R (.lst true (xs.map fun n => .tup [.int n]))) X
theorem rf_lcSh1 {i : Nat} {te : TE} {fe : DTE} (he : RE K W te fe) : RF K W (tLc (iList K te) (gName i) tYes (tTup (tCons (tVar i) tNil)) [i]) (dLcSh1 i fe) := fun σ H Z A ρ Q R X w o q k x => by
  refine he σ H Z A ρ _ _ X w o q (fun d v H1 Z1 A1 r1 g1 zo1 ad1 ow1 => ?_) x
  obtain ⟨I, ed, hi, f⟩ := r1
  subst ed
  obtain ⟨p, xs, ev, dp, ei, hp, ix⟩ := ow1.sh_at zo1
  subst ev
  obtain ⟨lx, r⟩ := f xs ix
  have lt : i < σ.length := by rw [← o.len]; exact hi
  refine ⟨p, rfl, ⟨_, SqL.of hp⟩, fun L hL => ?_⟩
  have npL : p ≠ L := ne_of_none hp hL
  refine lc_list (K := K) (a := p) (xs := xs.map V.int) (fun m H' => CI K H1 Z1 L (fun m acc => acc = (xs.take m).map fun n => D.tup [.int n]) m H' ∧ H' p = some (.lst (xs.map V.int))) ⟨ci_start zo1 hL (by simp), by rw [upd_ne npL]; exact hp⟩ (fun m H' _ c => SqL.of c.2) (fun m x H' hx c => ?_) fun H' c => ?_
  · obtain ⟨⟨Z', Aa, vs, acc, pa, g', zo', fr, hl, oa⟩, hp'⟩ := c
    obtain ⟨n, hn, rfl⟩ : ∃ n, xs[m]? = some n ∧ x = V.int n := by
      rw [List.getElem?_map] at hx
      obtain ⟨n, a, b⟩ := Option.map_eq_some_iff.mp hx
      exact ⟨n, a, b.symm⟩
    have lt2 : i < (wipe σ [i]).length := by rw [wipe_length]; exact lt
    refine ⟨wipe_same (js := [i]) (by rw [List.length_set, wipe_length]) (fun j hj => ?_) (fun j hj => hj), ?_⟩
    · exact List.getElem?_set_ne fun e => hj (by simp [e])
    · refine ⟨.int n, by rw [List.getElem?_set_self lt2], by show 1 ≤ sizeLine; rw [sizeLine_eq]; decide, fun a ha => ?_⟩
      have gn := gx_new (o := .tup [.int n]) zo' ha
      have oy : Ow K (upd H' a (.tup [V.int n])) Z' (.tup [.int n]) (.ref a) [] := new_tup zo' (fun _ h => nomatch h) (ows_ints [n]) ha
      have la : acc.length < sizeLine := by
        rw [pa, List.length_map, List.length_take, sizeLine_eq]; omega
      have nLa : L ≠ a := ne_of_none hl ha
      obtain ⟨hL', gg, zz, ff, oo⟩ := ci_put (A1 := []) g' zo' fr hl oa gn.1 gn.2 Fr.nil oy
      have npa : p ≠ a := ne_of_none hp' ha
      refine ⟨vs, hL', by rw [← oa.len]; exact la, ⟨Z', Aa ++ [], _, acc ++ [.tup [.int n]], ?_, gg, zz, ff, upd_same, oo⟩, ?_⟩
      · show acc ++ _ = _
        rw [pa, List.take_succ, hn]; simp
      · rw [upd_ne npL, upd_ne npa]; exact hp'
  · refine ci_end g1 zo1 c.1 fun acc Z' Aa pa g zo fr ow => k _ _ _ Z' _ ?_ g zo fr ow
    rw [pa, List.length_map, List.take_length]
    exact r
end
section
variable {X : Cx} {W : WX} {pn : Bool} {e : Expr} {te : TE} {fe : DTE}
theorem DF.toShE (h : DF X W e te fe) : DF X W e te (dShE fe) := ⟨h.pe, rf_shE h.re⟩
theorem df_lcSh1 {tg iter elt : Expr} {scope : Scope} {own : List (Str × Nat)} {i : Nat} {pos : Pos} (ho : own.map (·.2) = [i]) (hc : X.calm = true) (hN : X.N.Nodup) (hi : DE X W iter te fe) (ok : BlkOk X.N X.env.scope scope own)
    (hg : ∀ (s : Shared) (H : Hp) (C : Addr) (cl : List (Str × Addr)) (fp : List Addr), PG (X.blk s H scope (compEnvC scope cl C X.env) fp) tg (gName i))
    (he : ∀ (s : Shared) (H : Hp) (C : Addr) (cl : List (Str × Addr)) (fp : List Addr), PE (X.blk s H scope (compEnvC scope cl C X.env) fp) elt (tTup (tCons (tVar i) tNil))) (hs : ∀ x, foldedSetIterable iter X.env x = pure x := by intro _; rfl) :
    DF X W (.ListComp elt [⟨tg, iter, [], 0⟩] scope pos) (tLc (iList X.K te) (gName i) tYes (tTup (tCons (tVar i) tNil)) [i]) (dLcSh1 i fe) := by
  refine ⟨?_, rf_lcSh1 hi.re⟩
  rw [← ho]
  exact pe_lc hc hN (pi_list hi.pe) ok hg (fun _ _ _ _ _ => pts_nil) he hs
theorem dss_swapSh {r a t : Nat} {st1 st2 st3 : Stmt} (hp : pn = false ∨ t ≠ 0) (s1 : PS X st1 (tAsg (tOp (rIxL X.K) (tVar r) (tVar a)) (gName t)))
    (s2 : PS X st2 (tAsg (tOp (rIxL X.K) (tVar r) (tDown a)) (gSub (tVar r) (tVar a) rSetL))) (s3 : PS X st3 (tAsg (tVar t) (gSub (tVar r) (tDown a) rSetL))) :
    DSs X W pn [st1, st2, st3] (tSeq (tAsg (tOp (rIxL X.K) (tVar r) (tVar a)) (gName t)) (tSeq (tAsg (tOp (rIxL X.K) (tVar r) (tDown a)) (gSub (tVar r) (tVar a) rSetL)) (tAsg (tVar t) (gSub (tVar r) (tDown a) rSetL)))) (sSwapSh r a t) :=
  ⟨pss_cons s1 (pss_cons s2 (pss_one s3)), rs_swapSh hp⟩
end
section
variable {X : Cx}
def rLenK (K : PySem.W.Frag) : List V → Hp → VK → Prop := fun xs H Q => ∃ p ys, xs = [.ref p] ∧ (SqL K H p ys ∨ SqT K H p ys) ∧ Q (.int ys.length) H
def rListK (K : PySem.W.Frag) : List V → Hp → VK → Prop := fun xs H Q => ∃ p ys, xs = [.ref p] ∧ (SqL K H p ys ∨ SqT K H p ys) ∧ ∀ l, H l = none → Q (.ref l) (upd H l (.lst ys))
def rTupleK (K : PySem.W.Frag) : List V → Hp → VK → Prop := fun xs H Q => ∃ p ys, xs = [.ref p] ∧ ((SqL K H p ys ∧ ∀ l, H l = none → Q (.ref l) (upd H l (.tup ys))) ∨ (SqT K H p ys ∧ Q (.ref p) H))
theorem ck_len (K : PySem.W.Frag) (h : X.K = K) : CallR X (.builtin "len") (rLenK K) := by subst h; exact call_len_seq
theorem ck_list (K : PySem.W.Frag) (h : X.K = K) : CallR X (.type "list") (rListK K) := by subst h; exact call_list_of
theorem ck_tuple (K : PySem.W.Frag) (h : X.K = K) : CallR X (.type "tuple") (rTupleK K) := by subst h; exact call_tuple_of
end
section
variable {X : Cx} {W : WX} {pn : Bool} {e tg : Expr} {es : List Expr} {te te' : TE} {fe : DTE} {tt tt' : TT} {ft : DTT} {g g' : TG} {dg : DTG} {js : List Nat}
theorem DF.castT (h : DF X W e te fe) (q : te = te') : DF X W e te' fe := by subst q; exact h
theorem DTs.castT (h : DTs X W es tt ft) (q : tt = tt') : DTs X W es tt' ft := by subst q; exact h
theorem DG.castT (h : DG X pn js tg g dg) (q : g = g') : DG X pn js tg g' dg := by subst q; exact h
end
end DL
set_option Elab.async false
set_option linter.all false
set_option maxRecDepth 100000
namespace DL
open PySem L2
/-! ### xs.index(y) -/
def dIndex (a b : DTE) : DTE := fun ρ R X => a ρ (fun x => (∃ o ds, x = D.lst o ds) ∧ b ρ (fun y => ∃ o ds j z, x = D.lst o ds ∧ okd x = true ∧ okd y = true ∧ ds[j]? = some z ∧ deq z y = true ∧ (∀ m z', m < j → ds[m]? = some z' → deq z' y = false) ∧ R (.int (j : Nat))) X) X
section
variable {K : PySem.W.Frag} {W : WX} {H H' H1 H2 : Hp} {Z Z' Z1 Z2 : Zn} {A A' A1 A2 : List Addr}
theorem pys_get : ∀ (ds : List D) (j : Nat), (pys ds)[j]? = (ds[j]?).map py
  | [], j => by unfold pys; simp
  | d :: ds, 0 => by unfold pys; simp
  | d :: ds, j + 1 => by
    unfold pys
    rw [List.getElem?_cons_succ, List.getElem?_cons_succ, pys_get ds j]
theorem rf_index {to te : TE} {fo fe : DTE} (ho : RE K W to fo) (he : RE K W te fe) : RF K W (tBM K "list" (rIndexD K) to (tCons te tNil)) (dIndex fo fe) := fun σ H Z A ρ Q R X w o q k x => by
  refine ho σ H Z A ρ _ _ X w o q (fun d v H1 Z1 A1 r1 g1 zo1 ad1 ow1 => ?_) x
  obtain ⟨⟨oo, ds, ed⟩, r1⟩ := r1
  subst ed
  have sq : ∃ p xs, v = .ref p ∧ SqL K H1 p xs := by
    cases oo with
    | true =>
      obtain ⟨l, vs, A', ev, eA, hp, rs⟩ := ow1.lstT
      exact ⟨l, vs, ev, SqL.of hp⟩
    | false =>
      obtain ⟨l, vs, ev, _, hl, hz, rs⟩ := ow1.lstF
      exact ⟨l, vs, ev, SqL.of hl⟩
  obtain ⟨p, xs, ev, hs⟩ := sq
  subst ev
  refine ⟨.inl ⟨rfl, _, hs⟩, ?_⟩
  refine he σ H1 Z1 A ρ _ _ X (w.gx g1 zo1) (o.gx w g1) r1 (fun d2 v2 H2 Z2 A2 r2 g2 zo2 ad2 ow2 => ?_) fun C H' Z' xc g' zo' => x C H' Z' xc (g1.trans zo1 g') zo'
  obtain ⟨o', ds', j, z, ed, k1, k2, hj, hz, hno, r2⟩ := r2
  cases ed
  have ow3 := ow1.gx zo1 ad1 g2
  refine ⟨p, v2, py d2, pys ds, j, py z, rfl, rfl, ?_, Ow.dp _ _ _ (okd_plain k2) ow2, ?_, okd_shaped k2, by rw [pys_get, hj]; rfl, hz, fun m z' hm hz' => ?_, k _ _ H2 Z2 [] r2 (g1.trans zo1 g2) zo2 Fr.nil ow_int⟩
  · have := Ow.dp _ _ _ (okd_plain k1) ow3; unfold py at this; exact this
  · have := okd_shaped k1; unfold py at this; exact this
  · rw [pys_get] at hz'
    obtain ⟨y, hy, e⟩ := Option.map_eq_some_iff.mp hz'
    rw [← e]
    exact hno m y hm hy
end
section
variable {X : Cx} {W : WX} {pn : Bool} {e o : Expr} {to te : TE} {fo fe : DTE} {apos cpos : Pos}
theorem df_index (hu : X.A.units + 65 < cLine) (ho : DE X W o to fo) (he : DE X W e te fe)
    (hbase : attributeBase o "index" X.env (eval o X.env) = eval o X.env := by rfl)
    (hfew : ((backTo cpos (starEach [e] X.env)).all (fun x => !x.1) && (backToKw cpos (keywordEach [] X.env)).all (fun x => x.1.isSome)
      && decide (([e] : List Expr).length + ([] : List Keyword).length + (if ([] : List Keyword).isEmpty then 0 else 1) < 30)) = true := by rfl)
    (hline : (apos.endLine == cpos.line) = true := by rfl) (hst : starEach [e] X.env = (false, eval e X.env) :: starEach [] X.env := by rfl) (hplain : (backTo cpos (starEach [] X.env)).any (·.1) = false := by rfl) :
    DF X W (.Call (.Attribute o "index" apos) [e] [] cpos) (tBM X.K "list" (rIndexD X.K) to (tCons te tNil)) (dIndex fo fe) :=
  ⟨pe_bm PySem.F.plainAttrs_list PySem.F.slot_list_index PySem.F.type_list_index (mt_indexD hu) ho.pe (pa_cons he.pe pa_nil hst) hbase hfew hline hst hplain, rf_index ho.re he.re⟩
end
end DL
set_option Elab.async false
set_option linter.all false
set_option maxRecDepth 100000
namespace DL
open PySem L2

/-- where the classes stand -/
structure CA where
  Wishes : Addr
  Asking : Addr
  Lattice : Addr
  Mender : Addr
  PairError : Addr
  BadBook : Addr
  BadPairing : Addr
  NotGood : Addr
  NoTurning : Addr
  NotClosed : Addr
  BadText : Addr
def diceI (xs : List Int) : Prop := xs.length = 2

/-! ### what data is, as functions -/
def listD : D → Option (List D)
  | .lst _ ds => some ds
  | _ => none
def tupD : D → Option (List D)
  | .tup ds => some ds
  | _ => none
def insD : D → Option (Addr × List Str × List D)
  | .ins _ C fn ds => some (C, fn, ds)
  | _ => none
theorem listD_iff {d : D} {ds : List D} : listD d = some ds ↔ ∃ o, d = .lst o ds := by
  cases d <;> simp [listD]
theorem tupD_iff {d : D} {ds : List D} : tupD d = some ds ↔ d = .tup ds := by
  cases d <;> simp [tupD]
theorem insD_iff {d : D} {C : Addr} {fn : List Str} {ds : List D} : insD d = some (C, fn, ds) ↔ ∃ o, d = .ins o C fn ds := by
  cases d <;> simp [insD]
@[simp] theorem listD_lst (o : Bool) (ds : List D) : listD (.lst o ds) = some ds := rfl
@[simp] theorem tupD_tup (ds : List D) : tupD (.tup ds) = some ds := rfl
@[simp] theorem insD_ins (o : Bool) (C : Addr) (fn : List Str) (ds : List D) : insD (.ins o C fn ds) = some (C, fn, ds) := rfl
def memD (ds : List D) (x : D) : Bool := ds.any fun z => deq z x
/-! ### the readings, unfolded by simp -/
section
variable {a b x e : DTE} {s u : DTS} {E : DEnds} {ρ : DEnv} {R : D → Prop} {X : XP} {t v : DTT} {f : DTA} {i j : Nat}
@[simp] theorem e_seq : dSeq s u E ρ = s { E with nx := u E } ρ := rfl
@[simp] theorem e_skip : dSkip E ρ = E.nx ρ := rfl
@[simp] theorem e_set : dSet i e E ρ = e ρ (fun d => i < ρ.length ∧ E.nx (ρ.set i (some d))) (fun C => E.ex C ρ) := rfl
@[simp] theorem e_if : dIf t s u E ρ = t ρ (fun b' => if b' = true then s E ρ else u E ρ) (fun C => E.ex C ρ) := rfl
@[simp] theorem e_ret : dRet e E ρ = e ρ (fun d => E.rt d ρ) (fun C => E.ex C ρ) := rfl
@[simp] theorem e_retN : dRetN E ρ = E.rt .non ρ := rfl
@[simp] theorem e_retV : dRetV i E ρ = ∃ d, ρ[i]? = some (some d) ∧ E.rt d (ρ.set i none) := rfl
@[simp] theorem e_drop : dDrop e E ρ = e ρ (fun _ => E.nx ρ) (fun C => E.ex C ρ) := rfl
@[simp] theorem e_ghost : dGhost i s E ρ = ∃ d, ρ[i]? = some (some d) ∧ s E (ρ.set i (some (fz d))) := rfl
@[simp] theorem e_raise {C : Addr} : dRaise C E ρ = E.ex C ρ := rfl
@[simp] theorem e_asg {g : DTG} : dAsg e g E ρ = e ρ (fun d => frz d = true ∧ g d ρ E.nx) (fun C => E.ex C ρ) := rfl
@[simp] theorem e_tgn {d : D} {Q : DEnv → Prop} : tgName i d ρ Q = (i < ρ.length ∧ Q (ρ.set i (some d))) := rfl
@[simp] theorem e_tg2 {d : D} {Q : DEnv → Prop} : tgTup2 i j d ρ Q = ∃ x y, tupD d = some [x, y] ∧ frz x = true ∧ frz y = true ∧ i < ρ.length ∧ j < ρ.length ∧ Q ((ρ.set i (some x)).set j (some y)) := by
  simp only [tupD_iff]; rfl
@[simp] theorem e_app {p : DTP} : sAppend p e E ρ = p ρ (fun c d => ∃ ds, d = .lst true ds ∧ e ρ (fun y => ds.length < sizeLine ∧ E.nx (c (.lst true (ds ++ [y])))) (fun C => E.ex C ρ)) (fun C => E.ex C ρ) := rfl
@[simp] theorem e_rem {p : DTP} : sRemove p e E ρ = p ρ (fun c d => ∃ ns : List Int, d = .lst true (ns.map .int) ∧ e ρ (fun k => ∃ (kk : Int) (j : Nat), k = .int kk ∧ ns[j]? = some kk ∧ (∀ m : Nat, m < j → ns[m]? ≠ some kk) ∧ E.nx (c (.lst true ((ns.eraseIdx j).map .int)))) (fun C => E.ex C ρ)) (fun C => E.ex C ρ) := rfl
@[simp] theorem e_pop {p : DTP} : sSetPop i p E ρ = p ρ (fun c d => ∃ ds y, d = .lst true ds ∧ frzs ds = true ∧ ds[ds.length - 1]? = some y ∧ i < (c (.lst true ds.dropLast)).length ∧ E.nx ((c (.lst true ds.dropLast)).set i (some y))) (fun C => E.ex C ρ) := rfl
@[simp] theorem e_popAt {p : DTP} : sSetPopAt i p e E ρ = p ρ (fun c d => ∃ ds, d = .lst true ds ∧ frzs ds = true ∧ e ρ (fun k => ∃ kk j y, k = .int kk ∧ -(2 ^ 63) ≤ kk ∧ kk < 2 ^ 63 ∧ ixN ds.length kk = some j ∧ ds[j]? = some y ∧ i < (c (.lst true (ds.eraseIdx j))).length ∧ E.nx ((c (.lst true (ds.eraseIdx j))).set i (some y))) (fun C => E.ex C ρ)) (fun C => E.ex C ρ) := rfl
@[simp] theorem e_setI {p : DTP} : sSetItem e p b E ρ = e ρ (fun y => p ρ (fun c d => b ρ (fun k => ∃ ds kk j, d = .lst true ds ∧ k = .int kk ∧ ixN ds.length kk = some j ∧ E.nx (c (.lst true (ds.set j y)))) (fun C => E.ex C ρ)) (fun C => E.ex C ρ)) (fun C => E.ex C ρ) := rfl
@[simp] theorem e_setF {p : DTP} {C : Addr} {FN : List Str} : sSetFld C FN j e p E ρ = e ρ (fun y => p ρ (fun c d => ∃ ds, d = .ins true C FN ds ∧ j < ds.length ∧ E.nx (c (.ins true C FN (ds.set j y)))) (fun C => E.ex C ρ)) (fun C => E.ex C ρ) := rfl
@[simp] theorem e_newF {p : DTP} {C : Addr} {FN : List Str} {n : Str} : sNewFld C FN n e p E ρ = e ρ (fun y => p ρ (fun c d => ∃ ds, d = .ins true C FN ds ∧ E.nx (c (.ins true C (FN ++ [n]) (ds ++ [y])))) (fun C => E.ex C ρ)) (fun C => E.ex C ρ) := rfl
@[simp] theorem e_setSh : sSetSh e a b E ρ = e ρ (fun y => a ρ (fun x => b ρ (fun k => ∃ I n kk, x = .sh I ∧ y = .int n ∧ k = .int kk ∧ (∀ xs, I xs → ∃ j, ixN xs.length kk = some j ∧ I (xs.set j n)) ∧ E.nx ρ) (fun C => E.ex C ρ)) (fun C => E.ex C ρ)) (fun C => E.ex C ρ) := rfl
@[simp] theorem e_meth {p : DTP} {C : Addr} {FN : List Str} {sp : DSpM} : sMeth C FN sp p f E ρ = p ρ (fun c d0 => (∃ ds0, d0 = .ins true C FN ds0) ∧ f ρ (fun ds => frzs ds = true ∧ sp d0 ds (fun _ d0' => E.nx (c d0')) (fun _ => False)) (fun C => E.ex C ρ)) (fun C => E.ex C ρ) := rfl
@[simp] theorem e_pV {Q : (D → DEnv) → D → Prop} : pVar i ρ Q X = ∃ d, ρ[i]? = some (some d) ∧ Q (fun d' => ρ.set i (some d')) d := rfl
@[simp] theorem e_pF {p : DTP} {C : Addr} {FN : List Str} {Q : (D → DEnv) → D → Prop} : pFld C FN j p ρ Q X = p ρ (fun c d => ∃ ds x, d = .ins true C FN ds ∧ ds[j]? = some x ∧ Q (fun d' => c (.ins true C FN (ds.set j d'))) x) X := rfl
@[simp] theorem e_pI {p : DTP} {Q : (D → DEnv) → D → Prop} : pIx p e ρ Q X = p ρ (fun c d => e ρ (fun k => ∃ ds kk j x, d = .lst true ds ∧ k = .int kk ∧ ixN ds.length kk = some j ∧ ds[j]? = some x ∧ Q (fun d' => c (.lst true (ds.set j d'))) x) X) X := rfl
@[simp] theorem e_pIT {p : DTP} {Q : (D → DEnv) → D → Prop} : pIxT p e ρ Q X = p ρ (fun c d => e ρ (fun k => ∃ ds kk j x, d = .tup ds ∧ k = .int kk ∧ ixN ds.length kk = some j ∧ ds[j]? = some x ∧ Q (fun d' => c (.tup (ds.set j d'))) x) X) X := rfl
@[simp] theorem e_var : dVar i ρ R X = ∃ d, ρ[i]? = some (some d) ∧ R d := rfl
@[simp] theorem e_c {d : D} : dC d ρ R X = R d := rfl
@[simp] theorem e_take : dTake e ρ R X = e ρ (fun d => frz d = true ∧ R d) X := rfl
@[simp] theorem e_fz : dFz e ρ R X = e ρ (fun d => R (fz d)) X := rfl
@[simp] theorem e_sh {I : List Int → Prop} : dSh I e ρ R X = e ρ (fun d => (∃ xs : List Int, d = .lst true (xs.map .int) ∧ I xs) ∧ R (.sh I)) X := rfl
@[simp] theorem e_index : dIndex a b ρ R X = a ρ (fun x => ∃ ds, listD x = some ds ∧ b ρ (fun y => okd x = true ∧ okd y = true ∧ ∃ j z, ds[j]? = some z ∧ deq z y = true ∧ (∀ m z', m < j → ds[m]? = some z' → deq z' y = false) ∧ R (.int (j : Nat))) X) X := by
  have h : ∀ x, ((∃ o ds, x = D.lst o ds) ∧ b ρ (fun y => ∃ o ds j z, x = D.lst o ds ∧ okd x = true ∧ okd y = true ∧ ds[j]? = some z ∧ deq z y = true ∧ (∀ m z', m < j → ds[m]? = some z' → deq z' y = false) ∧ R (.int (j : Nat))) X) = ∃ ds, listD x = some ds ∧ b ρ (fun y => okd x = true ∧ okd y = true ∧ ∃ j z, ds[j]? = some z ∧ deq z y = true ∧ (∀ m z', m < j → ds[m]? = some z' → deq z' y = false) ∧ R (.int (j : Nat))) X := fun x => by
    have e : ∀ (o : Bool) (ds : List D) (F : D → Prop), ((fun y => ∃ o' ds' j z, D.lst o ds = D.lst o' ds' ∧ okd (D.lst o ds) = true ∧ okd y = true ∧ ds'[j]? = some z ∧ deq z y = true ∧ (∀ m z', m < j → ds'[m]? = some z' → deq z' y = false) ∧ R (.int (j : Nat))) = fun y => okd (D.lst o ds) = true ∧ okd y = true ∧ ∃ j z, ds[j]? = some z ∧ deq z y = true ∧ (∀ m z', m < j → ds[m]? = some z' → deq z' y = false) ∧ R (.int (j : Nat))) := fun o ds F => by
      funext y
      refine propext ⟨fun ⟨o', ds', j, z, q, a1, a2, a3, a4, a5, a6⟩ => ?_, fun ⟨a1, a2, j, z, a3, a4, a5, a6⟩ => ⟨o, ds, j, z, rfl, a1, a2, a3, a4, a5, a6⟩⟩
      cases q
      exact ⟨a1, a2, j, z, a3, a4, a5, a6⟩
    refine propext ⟨fun ⟨⟨o, ds, q⟩, h⟩ => ?_, fun ⟨ds, q, h⟩ => ?_⟩
    · subst q
      rw [e o ds fun _ => True] at h
      exact ⟨ds, rfl, h⟩
    · obtain ⟨o, q⟩ := listD_iff.mp q
      subst q
      refine ⟨⟨o, ds, rfl⟩, ?_⟩
      rw [e o ds fun _ => True]
      exact h
  unfold dIndex
  simp only [h]
@[simp] theorem e_shE : dShE e ρ R X = e ρ (fun d => ∃ (I : List Int → Prop) (xs : List Int), d = .lst true (xs.map .int) ∧ I xs ∧ R (.sh I)) X := rfl
@[simp] theorem e_swap {r k t : Nat} : sSwapSh r k t E ρ = ∃ I n, ρ[r]? = some (some (.sh I)) ∧ ρ[k]? = some (some (.int n)) ∧ t < ρ.length ∧ t ≠ r ∧ t ≠ k ∧
  ∀ xs, I xs → ∃ j j1 x y, ixN xs.length n = some j ∧ ixN xs.length (n - 1) = some j1 ∧ xs[j]? = some x ∧ xs[j1]? = some y ∧ I ((xs.set j y).set j1 x) ∧ E.nx (ρ.set t (some (.int x))) := rfl
@[simp] theorem e_lcSh1 : dLcSh1 i e ρ R X = e ρ (fun d => ∃ I, d = .sh I ∧ i < ρ.length ∧ ∀ xs, I xs → xs.length < 1000 ∧ R (.lst true (xs.map fun n => .tup [.int n]))) X := rfl
@[simp] theorem e_op {g : G2} : dOp g a b ρ R X = a ρ (fun x => b ρ (fun y => g x y R) X) X := rfl
@[simp] theorem e_neg : gNeg e ρ R X = e ρ (fun d => ∃ i, d = .int i ∧ R (.int (-i))) X := rfl
@[simp] theorem e_chain {g g' : Int → Int → Bool} : dChain g g' a b e ρ R X = a ρ (fun x => b ρ (fun y => ∃ i j, x = .int i ∧ y = .int j ∧ if g i j = true then e ρ (fun z => ∃ k, z = .int k ∧ R (.bl (g' j k))) X else R (.bl false)) X) X := rfl
@[simp] theorem e_test {Q : Bool → Prop} : dTest e ρ Q X = e ρ (fun d => ∃ b, d = .bl b ∧ Q b) X := rfl
@[simp] theorem e_and {Q : Bool → Prop} : dAnd t v ρ Q X = t ρ (fun c => if c = true then v ρ Q X else Q false) X := rfl
@[simp] theorem e_or {Q : Bool → Prop} : dOr t v ρ Q X = t ρ (fun c => if c = true then Q true else v ρ Q X) X := rfl
@[simp] theorem e_not {Q : Bool → Prop} : dNot t ρ Q X = t ρ (fun c => Q (!c)) X := rfl
@[simp] theorem e_andV : dAndV a b ρ R X = a ρ (fun d => ∃ c, d = .bl c ∧ if c = true then b ρ R X else R (.bl false)) X := rfl
@[simp] theorem e_orV : dOrV a b ρ R X = a ρ (fun d => ∃ c, d = .bl c ∧ if c = true then R (.bl true) else b ρ R X) X := rfl
@[simp] theorem e_notV : dNotV a ρ R X = a ρ (fun d => ∃ c, d = .bl c ∧ R (.bl (!c))) X := rfl
@[simp] theorem e_ifE : dIfE t a b ρ R X = t ρ (fun c => if c = true then a ρ R X else b ρ R X) X := rfl
@[simp] theorem e_nil {Q : List D → Prop} : dNil ρ Q X = Q [] := rfl
@[simp] theorem e_cons {Q : List D → Prop} : dCons a f ρ Q X = a ρ (fun x => f ρ (fun xs => Q (x :: xs)) X) X := rfl
@[simp] theorem e_tup : dTup f ρ R X = f ρ (fun ds => ds.length ≤ sizeLine ∧ R (.tup ds)) X := rfl
@[simp] theorem e_lst : dLst f ρ R X = f ρ (fun ds => ds.length ≤ sizeLine ∧ R (.lst true ds)) X := rfl
@[simp] theorem e_cb {g : G1s} : dCB g f ρ R X = f ρ (fun ds => g ds R) X := rfl
@[simp] theorem e_fld {C : Addr} {FN : List Str} : dFld C FN j e ρ R X = e ρ (fun d => ∃ ds x, insD d = some (C, FN, ds) ∧ ds[j]? = some x ∧ R x) X := by
  have h : ∀ d, (∃ o ds x, d = D.ins o C FN ds ∧ ds[j]? = some x ∧ R x) = ∃ ds x, insD d = some (C, FN, ds) ∧ ds[j]? = some x ∧ R x := fun d => by
    refine propext ⟨fun ⟨o, ds, x, e, h⟩ => ⟨ds, x, insD_iff.mpr ⟨o, e⟩, h⟩, fun ⟨ds, x, e, h⟩ => ?_⟩
    obtain ⟨o, e⟩ := insD_iff.mp e
    exact ⟨o, ds, x, e, h⟩
  unfold dFld
  simp only [h]
@[simp] theorem e_isi {T : String} : dIsi T e ρ R X = e ρ (fun d => ∃ S k, tyD d = some S ∧ kitB S T = some k ∧ R (.bl k)) X := rfl
@[simp] theorem e_call {sp : DSp} : dCall sp f ρ R X = f ρ (fun ds => sp (fzs ds) (fun r => (frzs ds = true ∨ noL r = true) ∧ R r) X) X := rfl
@[simp] theorem e_methE {C : Addr} {FN : List Str} {sp : DSp} : dMeth C FN sp e f ρ R X = e ρ (fun d0 => (∃ ds0, insD d0 = some (C, FN, ds0)) ∧ f ρ (fun ds => sp (fzs (d0 :: ds)) (fun r => (frzs (d0 :: ds) = true ∨ noL r = true) ∧ R r) X) X) X := by
  have h : ∀ d, (∃ o ds0, d = D.ins o C FN ds0) = ∃ ds0, insD d = some (C, FN, ds0) := fun d => by
    refine propext ⟨fun ⟨o, ds, e⟩ => ⟨ds, insD_iff.mpr ⟨o, e⟩⟩, fun ⟨ds, e⟩ => ?_⟩
    obtain ⟨o, e⟩ := insD_iff.mp e
    exact ⟨o, ds, e⟩
  unfold dMeth
  simp only [h]
@[simp] theorem e_make {C : Addr} {sp : DSpM} : dMake C sp f ρ R X = f ρ (fun ds => frzs ds = true ∧ sp (.ins true C [] []) ds (fun r d0 => r = .non ∧ R d0) X) X := rfl
@[simp] theorem e_listR : dListR e ρ R X = e ρ (fun d => ∃ n : Int, d = .int n ∧ 0 ≤ n ∧ n ≤ 16777216 ∧ R (.lst true (ranD n.toNat))) X := rfl
@[simp] theorem e_noP {Q : Option Int → Prop} : dNoPart ρ Q X = Q none := rfl
@[simp] theorem e_part {Q : Option Int → Prop} : dPart e ρ Q X = e ρ (fun d => ∃ i, d = .int i ∧ Q (some i)) X := rfl
@[simp] theorem e_slL {l h : DTO} : dSlL e l h ρ R X = e ρ (fun d => ∃ ds, DL.lstD d = some ds ∧ frzs ds = true ∧ l ρ (fun lo => h ρ (fun hi => R (.lst true (cutA ds lo hi))) X) X) X := rfl
@[simp] theorem e_slT {l h : DTO} : dSlT e l h ρ R X = e ρ (fun d => ∃ ds, tupD d = some ds ∧ frzs ds = true ∧ l ρ (fun lo => h ρ (fun hi => R (.tup (cutA ds lo hi))) X) X) X := by
  simp only [tupD_iff]; rfl
@[simp] theorem e_forT {g : DTG} : dForT e g s E ρ = e ρ (fun d => ∃ ds, tupD d = some ds ∧ frzs ds = true ∧ Turns ds g s E ρ) (fun C => E.ex C ρ) := by
  simp only [tupD_iff]; rfl
@[simp] theorem e_forL {g : DTG} : dForL e g s E ρ = e ρ (fun d => ∃ ds, listD d = some ds ∧ frzs ds = true ∧ Turns ds g s E ρ) (fun C => E.ex C ρ) := by
  have h : ∀ d, (∃ o ds, d = D.lst o ds ∧ frzs ds = true ∧ Turns ds g s E ρ) = ∃ ds, listD d = some ds ∧ frzs ds = true ∧ Turns ds g s E ρ := fun d => by
    refine propext ⟨fun ⟨o, ds, e, h⟩ => ⟨ds, listD_iff.mpr ⟨o, e⟩, h⟩, fun ⟨ds, e, h⟩ => ?_⟩
    obtain ⟨o, e⟩ := listD_iff.mp e
    exact ⟨o, ds, e, h⟩
  unfold dForL
  simp only [h]
@[simp] theorem e_forR {g : DTG} : dForR f g s E ρ = f ρ (fun ds => ∃ j : Int, ds = [.int j] ∧ -(2 ^ 62) ≤ j ∧ j < 2 ^ 62 ∧ TurnsR j.toNat g s E ρ) (fun C => E.ex C ρ) := rfl
@[simp] theorem e_lcT {g : DTG} {own : List Nat} : dLcT a g t e own ρ R X = a ρ (fun d => ∃ ds, tupD d = some ds ∧ frzs ds = true ∧ LTurns ds g t e own ρ R) X := by
  simp only [tupD_iff]; rfl
@[simp] theorem e_lcL {g : DTG} {own : List Nat} : dLcL a g t e own ρ R X = a ρ (fun d => ∃ ds, listD d = some ds ∧ frzs ds = true ∧ LTurns ds g t e own ρ R) X := by
  have h : ∀ d, (∃ o ds, d = D.lst o ds ∧ frzs ds = true ∧ LTurns ds g t e own ρ R) = ∃ ds, listD d = some ds ∧ frzs ds = true ∧ LTurns ds g t e own ρ R := fun d => by
    refine propext ⟨fun ⟨o, ds, e, h⟩ => ⟨ds, listD_iff.mpr ⟨o, e⟩, h⟩, fun ⟨ds, e, h⟩ => ?_⟩
    obtain ⟨o, e⟩ := listD_iff.mp e
    exact ⟨o, ds, e, h⟩
  unfold dLcL
  simp only [h]
@[simp] theorem e_lcR {g : DTG} {own : List Nat} : dLcR f g t e own ρ R X = f ρ (fun ds => ∃ j : Int, ds = [.int j] ∧ -(2 ^ 62) ≤ j ∧ j < 2 ^ 62 ∧ LTurns (ranD j.toNat) g t e own ρ R) X := rfl
@[simp] theorem e_yes {Q : Bool → Prop} : dYes ρ Q X = Q true := rfl
@[simp] theorem e_wipe0 : wipeD ρ [] = ρ := rfl
@[simp] theorem e_wipe {l : List Nat} : wipeD ρ (i :: l) = (wipeD ρ l).set i none := rfl
variable {x y : D}
@[simp] theorem e_gI {g : Int → Int → D} : gI g x y R = ∃ i j, x = .int i ∧ y = .int j ∧ R (g i j) := rfl
@[simp] theorem e_gIc {C : Int → Int → Prop} {g : Int → Int → D} : gIc C g x y R = ∃ i j, x = .int i ∧ y = .int j ∧ C i j ∧ R (g i j) := rfl
@[simp] theorem e_gEq : gEq x y R = (okd x = true ∧ okd y = true ∧ R (.bl (deq x y))) := rfl
@[simp] theorem e_gNe : gNe x y R = (okd x = true ∧ okd y = true ∧ R (.bl (!deq x y))) := rfl
@[simp] theorem e_gIn {n : Bool} : gIn n x y R = ∃ ds, listD y = some ds ∧ okd x = true ∧ okd y = true ∧ R (.bl (if n then !memD ds x else memD ds x)) := by
  refine propext ⟨fun ⟨o, ds, e, h⟩ => ⟨ds, listD_iff.mpr ⟨o, e⟩, h⟩, fun ⟨ds, e, h⟩ => ?_⟩
  obtain ⟨o, e⟩ := listD_iff.mp e
  exact ⟨o, ds, e, h⟩
@[simp] theorem e_gInT {n : Bool} : gInT n x y R = ∃ ds, tupD y = some ds ∧ flatD x = true ∧ ds.all flatD = true ∧ R (.bl (if n then !memD ds x else memD ds x)) := by
  simp only [tupD_iff]; rfl
@[simp] theorem e_gIsN : gIsN x y R = (y = .non ∧ R (.bl (isNonD x))) := rfl
@[simp] theorem e_gNotN : gNotN x y R = (y = .non ∧ R (.bl (!isNonD x))) := rfl
@[simp] theorem e_gIxL : gIxL x y R = ∃ ds i d, DL.lstD x = some ds ∧ y = .int i ∧ L2.atI ds i = some d ∧ R d := rfl
@[simp] theorem e_gIxT : gIxT x y R = ∃ ds i d, tupD x = some ds ∧ y = .int i ∧ L2.atI ds i = some d ∧ R d := by
  simp only [tupD_iff]; rfl
@[simp] theorem e_gIxSh : gIxSh x y R = ∃ I i, x = .sh I ∧ y = .int i ∧ ∀ xs, I xs → ∃ n, atI xs i = some n ∧ R (.int n) := rfl
@[simp] theorem e_gCat : gCat x y R = ∃ ds es, listD x = some ds ∧ listD y = some es ∧ frzs ds = true ∧ frzs es = true ∧ ds.length + es.length ≤ sizeLine ∧ R (.lst true (ds ++ es)) := by
  refine propext ⟨fun ⟨o1, o2, ds, es, e1, e2, h⟩ => ⟨ds, es, listD_iff.mpr ⟨o1, e1⟩, listD_iff.mpr ⟨o2, e2⟩, h⟩, fun ⟨ds, es, e1, e2, h⟩ => ?_⟩
  obtain ⟨o1, e1⟩ := listD_iff.mp e1
  obtain ⟨o2, e2⟩ := listD_iff.mp e2
  exact ⟨o1, o2, ds, es, e1, e2, h⟩
@[simp] theorem e_gRep : gRep x y R = ∃ ds k, listD x = some ds ∧ y = .int k ∧ frzs ds = true ∧ -(2 ^ 63) ≤ k ∧ k < 2 ^ 63 ∧ ds.length * k.toNat ≤ sizeLine ∧ R (.lst true (List.replicate k.toNat ds).flatten) := by
  refine propext ⟨fun ⟨o, ds, k, e, h⟩ => ⟨ds, k, listD_iff.mpr ⟨o, e⟩, h⟩, fun ⟨ds, k, e, h⟩ => ?_⟩
  obtain ⟨o, e⟩ := listD_iff.mp e
  exact ⟨o, ds, k, e, h⟩
@[simp] theorem e_gCatT : gCatT x y R = ∃ ds es, tupD x = some ds ∧ tupD y = some es ∧ frzs ds = true ∧ frzs es = true ∧ ds.length + es.length ≤ sizeLine ∧ R (.tup (ds ++ es)) := by
  simp only [tupD_iff]; rfl
@[simp] theorem e_gAddS : gAddS x y R = ∃ i j, x = .str i ∧ y = .str j ∧ i.length + j.length ≤ sizeLine ∧ R (.str (i ++ j)) := rfl
variable {ds : List D}
@[simp] theorem e_gLen : gLen ds R = ∃ d xs, ds = [d] ∧ itemsD d = some xs ∧ R (.int xs.length) := rfl
@[simp] theorem e_gList : gList ds R = ∃ d xs, ds = [d] ∧ itemsD d = some xs ∧ frzs xs = true ∧ R (.lst true xs) := rfl
@[simp] theorem e_gTuple : gTuple ds R = ∃ d xs, ds = [d] ∧ itemsD d = some xs ∧ frzs xs = true ∧ R (.tup xs) := rfl
@[simp] theorem e_gInt1 : gInt1 ds R = ((∃ i, ds = [.int i] ∧ R (.int i)) ∨ ∃ k, ds = [.bl k] ∧ R (.int (if k then 1 else 0))) := rfl
@[simp] theorem e_gSorted : gSorted ds R = ∃ (d : D) (ns : List Int), ds = [d] ∧ DL.lstD d = some (ns.map .int) ∧ ∀ ns' : List Int, ns'.Perm ns → ns'.Pairwise (· ≤ ·) → R (.lst true (ns'.map .int)) := rfl
@[simp] theorem e_gMin : gMin ds R = ∃ (d : D) (ns : List Int), ds = [d] ∧ DL.lstD d = some (ns.map .int) ∧ 0 < ns.length ∧ ∀ m, m ∈ ns → (∀ y, y ∈ ns → m ≤ y) → R (.int m) := rfl
@[simp] theorem e_gMax : gMax ds R = ∃ (d : D) (ns : List Int), ds = [d] ∧ DL.lstD d = some (ns.map .int) ∧ 0 < ns.length ∧ ∀ m, m ∈ ns → (∀ y, y ∈ ns → y ≤ m) → R (.int m) := rfl
@[simp] theorem e_gSum : gSum ds R = ∃ (d : D) (ns : List Int), ds = [d] ∧ DL.lstD d = some (ns.map .int) ∧ R (.int ns.sum) := rfl
@[simp] theorem e_st0 {N : List Str} {n : Str} : startD (n :: N) [] = none :: startD N [] := by simp [startD, List.replicate_succ]
@[simp] theorem e_st1 {N : List Str} {n : Str} {d : D} : startD (n :: N) (d :: ds) = some d :: startD N ds := by simp [startD]
@[simp] theorem e_st2 : startD [] ds = ds.map some := by simp [startD]
end
/-! flags, kinds, by simp -/
@[simp] theorem frz_int (i : Int) : frz (.int i) = true := rfl
@[simp] theorem frz_bl (i : Bool) : frz (.bl i) = true := rfl
@[simp] theorem frz_str (i : Str) : frz (.str i) = true := rfl
@[simp] theorem frz_non : frz .non = true := rfl
@[simp] theorem frz_sh (I : List Int → Prop) : frz (.sh I) = true := rfl
@[simp] theorem frz_scr (I : List Int) : frz (.scr I) = true := rfl
@[simp] theorem frz_tup (ds : List D) : frz (.tup ds) = frzs ds := by simp [frz]
@[simp] theorem frz_lst (o : Bool) (ds : List D) : frz (.lst o ds) = (!o && frzs ds) := by simp [frz]
@[simp] theorem frz_ins (o : Bool) (C : Addr) (fn : List Str) (ds : List D) : frz (.ins o C fn ds) = (!o && frzs ds) := by simp [frz]
@[simp] theorem frz_dic (o : Bool) (ks : List (List Key)) (ds : List D) : frz (.dic o ks ds) = (!o && frzs ds) := by simp [frz]
@[simp] theorem frzs_nil : frzs [] = true := rfl
@[simp] theorem frzs_cons' (d : D) (ds : List D) : frzs (d :: ds) = (frz d && frzs ds) := frzs_cons d ds
@[simp] theorem frzs_app (ds es : List D) : frzs (ds ++ es) = (frzs ds && frzs es) := frzs_append ds es
theorem frzs_map {α : Type} {f : α → D} (h : ∀ x, frz (f x) = true) : ∀ xs : List α, frzs (xs.map f) = true
  | [] => rfl
  | x :: xs => by rw [List.map_cons, frzs_cons, h x, frzs_map h xs]; rfl
theorem frzs_iff {ds : List D} : frzs ds = true ↔ ∀ d ∈ ds, frz d = true := by
  induction ds with
  | nil => simp
  | cons d ds ih => simp [ih]
@[simp] theorem frzs_ints' (xs : List Int) : frzs (xs.map D.int) = true := frzs_map (fun _ => rfl) xs
@[simp] theorem frzs_ran (n : Nat) : frzs (ranD n) = true := frzs_map (fun _ => rfl) _
@[simp] theorem fz_int (i : Int) : fz (.int i) = .int i := rfl
@[simp] theorem fz_bl (i : Bool) : fz (.bl i) = .bl i := rfl
@[simp] theorem fz_str (i : Str) : fz (.str i) = .str i := rfl
@[simp] theorem fz_non : fz .non = .non := rfl
@[simp] theorem fz_sh (I : List Int → Prop) : fz (.sh I) = .sh I := rfl
@[simp] theorem fz_scr (I : List Int) : fz (.scr I) = .scr I := rfl
@[simp] theorem fz_tup (ds : List D) : fz (.tup ds) = .tup (fzs ds) := by simp [fz]
@[simp] theorem fz_lst (o : Bool) (ds : List D) : fz (.lst o ds) = .lst false (fzs ds) := by simp [fz]
@[simp] theorem fz_ins (o : Bool) (C : Addr) (fn : List Str) (ds : List D) : fz (.ins o C fn ds) = .ins false C fn (fzs ds) := by simp [fz]
@[simp] theorem fz_dic (o : Bool) (ks : List (List Key)) (ds : List D) : fz (.dic o ks ds) = .dic false ks (fzs ds) := by simp [fz]
@[simp] theorem fzs_nil : fzs [] = [] := rfl
@[simp] theorem fzs_cons (d : D) (ds : List D) : fzs (d :: ds) = fz d :: fzs ds := by simp [fzs]
theorem fzs_eq_map : ∀ ds : List D, fzs ds = ds.map fz
  | [] => rfl
  | d :: ds => by rw [fzs_cons, fzs_eq_map ds]; rfl
theorem fzs_map {α : Type} {f : α → D} (h : ∀ x, fz (f x) = f x) (xs : List α) : fzs (xs.map f) = xs.map f := by
  rw [fzs_eq_map, List.map_map]; exact List.map_congr_left fun x _ => h x
@[simp] theorem fzs_ints' (xs : List Int) : fzs (xs.map D.int) = xs.map D.int := fzs_map (fun _ => rfl) xs
@[simp] theorem fzs_ran (n : Nat) : fzs (ranD n) = ranD n := fzs_map (fun _ => rfl) _
@[simp] theorem noL_int (i : Int) : noL (.int i) = true := rfl
@[simp] theorem noL_bl (i : Bool) : noL (.bl i) = true := rfl
@[simp] theorem noL_str (i : Str) : noL (.str i) = true := rfl
@[simp] theorem noL_non : noL .non = true := rfl
@[simp] theorem noL_tup (ds : List D) : noL (.tup ds) = noLs ds := by simp [noL]
@[simp] theorem noL_lst (o : Bool) (ds : List D) : noL (.lst o ds) = (o && noLs ds) := by simp [noL]
@[simp] theorem noLs_nil : noLs [] = true := rfl
@[simp] theorem noLs_cons (d : D) (ds : List D) : noLs (d :: ds) = (noL d && noLs ds) := by simp [noLs]
theorem noLs_map {α : Type} {f : α → D} (h : ∀ x, noL (f x) = true) : ∀ xs : List α, noLs (xs.map f) = true
  | [] => rfl
  | x :: xs => by rw [List.map_cons, noLs_cons, h x, noLs_map h xs]; rfl
@[simp] theorem noLs_ints (xs : List Int) : noLs (xs.map D.int) = true := noLs_map (fun _ => rfl) xs
@[simp] theorem items_lst (o : Bool) (ds : List D) : itemsD (.lst o ds) = some ds := rfl
@[simp] theorem items_tup (ds : List D) : itemsD (.tup ds) = some ds := rfl
@[simp] theorem items_scr (xs : List Int) : itemsD (.scr xs) = some (xs.map .int) := rfl
@[simp] theorem lstD_lst (o : Bool) (ds : List D) : DL.lstD (.lst o ds) = some ds := rfl
@[simp] theorem lstD_scr (xs : List Int) : DL.lstD (.scr xs) = some (xs.map .int) := rfl
@[simp] theorem tyD_non : tyD .non = some "NoneType" := rfl
@[simp] theorem tyD_bl (i : Bool) : tyD (.bl i) = some "bool" := rfl
@[simp] theorem tyD_int (i : Int) : tyD (.int i) = some "int" := rfl
@[simp] theorem tyD_str (i : Str) : tyD (.str i) = some "str" := rfl
@[simp] theorem tyD_tup (i : List D) : tyD (.tup i) = some "tuple" := rfl
@[simp] theorem tyD_lst (o : Bool) (i : List D) : tyD (.lst o i) = some "list" := rfl
@[simp] theorem kit_int_int : kitB "int" "int" = some true := by decide +kernel
@[simp] theorem kit_int_bool : kitB "int" "bool" = some false := by decide +kernel
@[simp] theorem kit_bool_int : kitB "bool" "int" = some true := by decide +kernel
@[simp] theorem kit_bool_bool : kitB "bool" "bool" = some true := by decide +kernel
@[simp] theorem kit_str_int : kitB "str" "int" = some false := by decide +kernel
@[simp] theorem kit_non_int : kitB "NoneType" "int" = some false := by decide +kernel
@[simp] theorem kit_tuple_int : kitB "tuple" "int" = some false := by decide +kernel
@[simp] theorem kit_list_int : kitB "list" "int" = some false := by decide +kernel
@[simp] theorem kit_tuple_tuple : kitB "tuple" "tuple" = some true := by decide +kernel
@[simp] theorem kit_list_tuple : kitB "list" "tuple" = some false := by decide +kernel
@[simp] theorem kit_int_tuple : kitB "int" "tuple" = some false := by decide +kernel
@[simp] theorem kit_bool_tuple : kitB "bool" "tuple" = some false := by decide +kernel
@[simp] theorem kit_str_tuple : kitB "str" "tuple" = some false := by decide +kernel
@[simp] theorem kit_non_tuple : kitB "NoneType" "tuple" = some false := by decide +kernel
@[simp] theorem kit_list_list : kitB "list" "list" = some true := by decide +kernel
@[simp] theorem kit_tuple_list : kitB "tuple" "list" = some false := by decide +kernel
@[simp] theorem kit_str_str : kitB "str" "str" = some true := by decide +kernel
/-! places -/
@[simp] theorem ixN_nat {n j : Nat} (h : j < n) : ixN n (j : Int) = some j := by
  unfold ixN
  rw [if_pos (by omega), if_pos (by omega)]; simp
theorem ixN_neg1 {n : Nat} (h : 0 < n) : ixN n (-1) = some (n - 1) := by
  unfold ixN
  rw [if_neg (by omega), if_pos (by omega)]
  congr 1; omega
theorem ixN_of {n : Nat} {i : Int} (h0 : 0 ≤ i) (h : i < n) : ixN n i = some i.toNat := by
  unfold ixN
  rw [if_pos h0, if_pos h]
theorem atI_natE {α : Type} (xs : List α) (j : Nat) : atI xs (j : Int) = xs[j]? := by
  by_cases h : j < xs.length
  · unfold atI; rw [ixN_nat h]; rfl
  · rw [List.getElem?_eq_none (by omega)]
    unfold atI ixN
    rw [if_pos (by omega), if_neg (by omega)]; rfl
theorem atI_ofE {α : Type} (xs : List α) {i : Int} (h : 0 ≤ i) : atI xs i = xs[i.toNat]? := by
  have e : i = ((i.toNat : Nat) : Int) := by omega
  conv => lhs; rw [e]
  exact atI_natE xs i.toNat
@[simp] theorem atI_0 {α : Type} (xs : List α) : atI xs 0 = xs[0]? := atI_natE xs 0
@[simp] theorem atI_1 {α : Type} (xs : List α) : atI xs 1 = xs[1]? := atI_natE xs 1
@[simp] theorem atI_2 {α : Type} (xs : List α) : atI xs 2 = xs[2]? := atI_natE xs 2
theorem size_le {n : Nat} (h : n ≤ 1000000) : n ≤ sizeLine := Nat.le_trans h (by rw [sizeLine_eq]; decide)
theorem size_lt {n : Nat} (h : n < 1000000) : n < sizeLine := Nat.lt_of_lt_of_le h (by rw [sizeLine_eq]; decide)
@[simp] theorem size1 : 1 ≤ sizeLine := size_le (by decide)
@[simp] theorem size2 : 2 ≤ sizeLine := size_le (by decide)
@[simp] theorem size3 : 3 ≤ sizeLine := size_le (by decide)
@[simp] theorem size4 : 4 ≤ sizeLine := size_le (by decide)
/-! loops -/
theorem turns_map {α : Type} {xs : List α} {enc : α → D} {tg : DTG} {b : DTS} {E : DEnds} {ρ : DEnv} (Pv : Nat → DEnv → Prop) (h0 : Pv 0 ρ)
    (hs : ∀ k x ρ', xs[k]? = some x → Pv k ρ' → tg (enc x) ρ' fun ρ2 => b { E with nx := Pv (k + 1), ct := Pv (k + 1), bk := E.nx } ρ2) (hd : ∀ ρ', Pv xs.length ρ' → E.nx ρ') : Turns (xs.map enc) tg b E ρ := by
  refine ⟨Pv, h0, fun k x ρ' hx p => ?_, fun ρ' p => hd ρ' (by rw [List.length_map] at p; exact p)⟩
  rw [List.getElem?_map] at hx
  obtain ⟨g, hg, rfl⟩ := Option.map_eq_some_iff.mp hx
  exact hs k g ρ' hg p
theorem turnsR_nat {n : Nat} {tg : DTG} {b : DTS} {E : DEnds} {ρ : DEnv} (Pv : Nat → DEnv → Prop) (h0 : Pv 0 ρ)
    (hs : ∀ (k : Nat) ρ', k < n → Pv k ρ' → tg (.int k) ρ' fun ρ2 => b { E with nx := Pv (k + 1), ct := Pv (k + 1), bk := E.nx } ρ2) (hd : ∀ ρ', Pv n ρ' → E.nx ρ') : TurnsR n tg b E ρ := ⟨Pv, h0, hs, hd⟩
/-- a comprehension whose turns are functions: what is kept, what is made of it -/
theorem lturns_by {α : Type} {xs : List α} {enc : α → D} {tg : DTG} {tt : DTT} {te : DTE} {own : List Nat} {ρ : DEnv} {R : D → Prop} (p : α → Bool) (f : α → D) (hz : xs.length < sizeLine)
    (h : ∀ x ∈ xs, ∀ Q : DEnv → Prop, (∀ ρ2, (∀ S : Bool → Prop, S (p x) → tt ρ2 S fun _ => False) → (p x = true → ∀ S : D → Prop, S (f x) → te ρ2 S fun _ => False) → Q ρ2) → tg (enc x) (wipeD ρ own) Q)
    (hR : R (.lst true ((xs.filter p).map f))) : LTurns (xs.map enc) tg tt te own ρ R := by
  refine ⟨fun k acc => k ≤ xs.length ∧ acc = ((xs.take k).filter p).map f, ⟨Nat.zero_le _, by simp⟩, fun k x acc hx ⟨hk, ha⟩ => ?_, fun acc ⟨_, ha⟩ => ?_⟩
  · rw [List.getElem?_map] at hx
    cases e : xs[k]? with
    | none => rw [e] at hx; cases hx
    | some y =>
      rw [e] at hx
      cases hx
      have hk' : k < xs.length := (List.getElem?_eq_some_iff.mp e).1
      have ht : xs.take (k + 1) = xs.take k ++ [y] := by rw [List.take_succ, e]; rfl
      refine h y (List.mem_of_getElem? e) _ fun ρ2 h1 h2 => h1 _ ?_
      cases q : p y with
      | true =>
        rw [if_pos rfl]
        refine h2 q _ ⟨?_, hk', ?_⟩
        · rw [ha, List.length_map]
          exact Nat.lt_of_le_of_lt (Nat.le_trans (List.length_filter_le _ _) (by rw [List.length_take]; omega)) hz
        · rw [ha, ht, List.filter_append]
          simp [q]
      | false =>
        rw [if_neg Bool.false_ne_true]
        refine ⟨hk', ?_⟩
        rw [ha, ht, List.filter_append]
        simp [q]
  · rw [ha, List.length_map, List.take_length]; exact hR
theorem lturns_all {α : Type} {xs : List α} {enc : α → D} {tg : DTG} {tt : DTT} {te : DTE} {own : List Nat} {ρ : DEnv} {R : D → Prop} (f : α → D) (hz : xs.length < sizeLine)
    (h : ∀ x ∈ xs, ∀ Q : DEnv → Prop, (∀ ρ2, (∀ S : Bool → Prop, S true → tt ρ2 S fun _ => False) → (∀ S : D → Prop, S (f x) → te ρ2 S fun _ => False) → Q ρ2) → tg (enc x) (wipeD ρ own) Q)
    (hR : R (.lst true (xs.map f))) : LTurns (xs.map enc) tg tt te own ρ R := by
  refine lturns_by (fun _ => true) f hz (fun x hx Q hQ => h x hx Q fun ρ2 h1 h2 => hQ ρ2 h1 fun _ => h2) ?_
  have e : xs.filter (fun _ => true) = xs := List.filter_eq_self.mpr fun _ _ => rfl
  rw [e]; exact hR
end DL
set_option Elab.async false
set_option linter.all false
set_option maxRecDepth 100000
namespace DL
open PySem L2
/-! ### a field of a new instance; a, b, c = .. -/
section
variable {K : PySem.W.Frag} {W : WX} {H H' H1 H2 : Hp} {Z Z' Z1 Z2 : Zn} {A A' A1 A2 : List Addr}
theorem Ows.getS : ∀ {ds : List D} {vs : List V} {A : List Addr} {j : Nat} {d : D}, Ows K H Z ds vs A → ds[j]? = some d → ∃ v A1, vs[j]? = some v ∧ Ow K H Z d v A1 ∧ A1.Sublist A
  | [], vs, A, j, d, h, e => by simp at e
  | x :: ds, vs, A, 0, d, h, e => by
    unfold Ows at h
    obtain ⟨v, vs', A1, A2, e1, eA, q, r⟩ := h
    have e' : x = d := by simpa using e
    subst e' e1 eA
    exact ⟨v, A1, rfl, q, List.sublist_append_left _ _⟩
  | x :: ds, vs, A, j + 1, d, h, e => by
    unfold Ows at h
    obtain ⟨v, vs', A1, A2, e1, eA, q, r⟩ := h
    subst e1 eA
    obtain ⟨u, A3, e2, o, s⟩ := Ows.getS r (by simpa using e)
    exact ⟨u, A3, by simpa using e2, o, s.trans (List.sublist_append_right _ _)⟩
theorem Fr.subl {B : List Addr} (f : Fr H H' Z' A) (s : B.Sublist A) : Fr H H' Z' B := ⟨f.nd.sublist s, fun p hp => f.af p (s.subset hp), fun p hp => f.ad p (s.subset hp), fun p hp => f.ak p (s.subset hp), fun p hp => f.nw p (s.subset hp)⟩
def dFldO (C : Addr) (FN : List Str) (i : Nat) (fo : DTE) : DTE := fun ρ R X => fo ρ (fun d => ∃ ds x, d = .ins true C FN ds ∧ ds[i]? = some x ∧ R x) X
theorem rf_fldO {C : Addr} {FN : List Str} {i : Nat} {f : Str} {to : TE} {fo : DTE} (h : RF K W to fo) (hi : ixF FN f = some i) (c : Cls K C) (n : NoAttr K C f) : RF K W (tFld K to f) (dFldO C FN i fo) := fun σ H Z A ρ Q R X w o q k x => by
  refine h σ H Z A ρ _ _ X w o q (fun d v H1 Z1 A1 r1 g1 zo1 fr1 ow1 => ?_) x
  obtain ⟨ds, y, ed, ey, r⟩ := r1
  subst ed
  obtain ⟨p, dx, vs, A', ev, eA, hp, hl, rs⟩ := ow1.insT
  obtain ⟨u, A3, eu, ou, su⟩ := rs.getS ey
  subst eA
  exact ⟨p, C, dx, _, u, ev, hp, c, n, by rw [lookup_ix hl hi, eu], k y u H1 Z1 A3 r g1 zo1 (fr1.subl (su.trans (List.sublist_cons_self _ _))) ou⟩
theorem rf_lcLE {ti : TE} {g : TG} {tt : TT} {te : TE} {fi : DTE} {dg : DTG} {dt : DTT} {de : DTE} {js own : List Nat} (hi : RE K W ti fi) (hg : RG K false js g dg) (ht : RT K WNo tt dt) (he : RF K WNo te de) (hs : ∀ j ∈ js, j ∈ own) :
    RF K W (tLc (iList K ti) g tt te own) (dLcL fi dg dt de own) := fun σ H Z A ρ Q R X w o q k x => by
  refine hi σ H Z A ρ _ _ X w o q (fun d v H1 Z1 A1 r1 g1 zo1 ad1 ow1 => ?_) x
  obtain ⟨o', ds, ed, fd, Pv, h0, hst, hd⟩ := r1
  subst ed
  have key : ∃ a vs, v = .ref a ∧ H1 a = some (.lst vs) ∧ ¬ Z1.di a ∧ Ows K H1 Z1 ds vs [] := by
    cases o' with
    | true =>
      obtain ⟨p, vs, A', ev, eA, hp, rs⟩ := ow1.lstT
      exact ⟨p, vs, ev, hp, ad1 p (by rw [eA]; exact List.mem_cons_self), rs.nil' fd⟩
    | false =>
      obtain ⟨a, vs, ev, _, hl, hz, rs⟩ := ow1.lstF
      exact ⟨a, vs, ev, hl, zo1.zd _ hz, rs⟩
  obtain ⟨a, vs, ev, hl, nd, rs⟩ := key
  refine ⟨a, ev, ⟨vs, SqL.of hl⟩, fun L hL => ?_⟩
  have w1 := w.gx g1 zo1
  refine lc_list (K := K) (a := a) (xs := vs) (fun i H' => CI K H1 Z1 L Pv i H') (ci_start zo1 hL h0) (fun i H' _ c => ?_) (fun i x H' hx c => ?_) fun H' c => ?_
  · obtain ⟨Z', Aa, us, acc, p, g', zo', _⟩ := c
    exact SqL.of (g'.kp _ _ hl nd)
  · have hi' : i < ds.length := by
      have := (List.getElem?_eq_some_iff.mp hx).1
      rw [rs.len]; exact this
    obtain ⟨u, A3, eu, ou, su⟩ := rs.get (List.getElem?_eq_getElem hi')
    have eA3 : A3 = [] := List.eq_nil_iff_forall_not_mem.mpr fun q hq => nomatch su q hq
    subst eA3
    rw [hx] at eu
    cases eu
    exact ci_turn hg ht he hs w1 (o.gx w g1) c ou fun acc p => hst i _ acc (List.getElem?_eq_getElem hi') p
  · exact ci_end g1 zo1 c fun acc Z' Aa p g zo fr ow => k _ _ _ Z' _ (hd acc (by rw [rs.len]; exact p)) g zo fr ow
end
section
variable {X : Cx} {W : WX} {pn : Bool} {e : Expr} {te : TE} {fe : DTE} {pos : Pos}
theorem df_fldO {C : Addr} {FN : List Str} {i : Nat} {n : Str} (h : DF X W e te fe) (hi : ixF FN n = some i) (c : Cls X.K C) (na : NoAttr X.K C n) (hb : attributeBase e n X.env (eval e X.env) = eval e X.env := by rfl) : DF X W (.Attribute e n pos) (tFld X.K te n) (dFldO C FN i fe) := ⟨pe_fld h.pe hb, rf_fldO h.re hi c na⟩
theorem dg_tup3 {i j l k : Nat} {x y z : Str} {p1 p2 p3 : Pos} (hc : X.calm = true) (hN : X.N.Nodup) (hi : X.N[i]? = some x) (hx : Loc X.env.scope x) (hj : X.N[j]? = some y) (hy : Loc X.env.scope y) (hl : X.N[l]? = some z) (hz : Loc X.env.scope z) (pi : pn = false ∨ i ≠ 0) (pj : pn = false ∨ j ≠ 0) (pl : pn = false ∨ l ≠ 0)
    (hf : X.fn x = true ∨ X.env.scope.names.lookup x = some .local := by first | exact .inl rfl | exact .inr rfl | assumption) (hf2 : X.fn y = true ∨ X.env.scope.names.lookup y = some .local := by first | exact .inl rfl | exact .inr rfl | assumption) (hf3 : X.fn z = true ∨ X.env.scope.names.lookup z = some .local := by first | exact .inl rfl | exact .inr rfl | assumption)
    (h1 : (assignEach [.Name x p1, .Name y p2, .Name z p3] X.env).length = 3 := by rfl) (h2 : (assignEach [.Name x p1, .Name y p2, .Name z p3] X.env).findIdx? (·.1) = none := by rfl)
    (h3 : (assignEach [.Name x p1, .Name y p2, .Name z p3] X.env).map (·.2) = assign (.Name x p1) X.env :: (assignEach [.Name y p2, .Name z p3] X.env).map (·.2) := by rfl) (h4 : (assignEach [.Name y p2, .Name z p3] X.env).map (·.2) = assign (.Name y p2) X.env :: (assignEach [.Name z p3] X.env).map (·.2) := by rfl)
    (h5 : (assignEach [.Name z p3] X.env).map (·.2) = assign (.Name z p3) X.env :: (assignEach [] X.env).map (·.2) := by rfl) :
    DG X pn [i, j, l] (.Tuple [.Name x p1, .Name y p2, .Name z p3] k pos) (gTup X.K 3 (gCons (gName i) (gCons (gName j) (gCons (gName l) gNil)))) (tgTup3 i j l) :=
  ⟨pg_tup hc (pgs_cons (pg_name hN hi hx hf) (pgs_cons (pg_name hN hj hy hf2) (pgs_cons (pg_name hN hl hz hf3) pgs_nil h5) h4) h3) h1 h2, rg_tup3 pi pj pl⟩
theorem df_lcLE {elt tg iter : Expr} {ifs : List Expr} {scope : Scope} {own : List (Str × Nat)} {g : TG} {dg : DTG} {js : List Nat} {ti : TE} {fi : DTE} {tc : TT} {dc : DTT} (hc : X.calm = true) (hN : X.N.Nodup) (hi : DE X W iter ti fi) (ok : BlkOk X.N X.env.scope scope own)
    (hg : ∀ (s : Shared) (H : Hp) (C : Addr) (cl : List (Str × Addr)) (fp : List Addr), DG (X.blk s H scope (compEnvC scope cl C X.env) fp) false js tg g dg) (ht : ∀ (s : Shared) (H : Hp) (C : Addr) (cl : List (Str × Addr)) (fp : List Addr), DTs (X.blk s H scope (compEnvC scope cl C X.env) fp) WNo ifs tc dc)
    (he : ∀ (s : Shared) (H : Hp) (C : Addr) (cl : List (Str × Addr)) (fp : List Addr), DF (X.blk s H scope (compEnvC scope cl C X.env) fp) WNo elt te fe) (hj : ∀ j ∈ js, j ∈ own.map (·.2)) (hs : ∀ x, foldedSetIterable iter X.env x = pure x := by intro _; rfl) :
    DF X W (.ListComp elt [⟨tg, iter, ifs, 0⟩] scope pos) (tLc (iList X.K ti) g tc te (own.map (·.2))) (dLcL fi dg dc fe (own.map (·.2))) :=
  ⟨pe_lc hc hN (pi_list hi.pe) ok (fun s H C cl fp => (hg s H C cl fp).pe) (fun s H C cl fp => (ht s H C cl fp).pe) (fun s H C cl fp => (he s H C cl fp).pe) hs,
    rf_lcLE hi.re (hg X.s_0 H00 0 [] []).re (ht X.s_0 H00 0 [] []).re (he X.s_0 H00 0 [] []).re hj⟩
@[simp] theorem e_fldO {C : Addr} {FN : List Str} {j : Nat} {e : DTE} {ρ : DEnv} {R : D → Prop} {X : XP} : dFldO C FN j e ρ R X = e ρ (fun d => ∃ ds x, d = .ins true C FN ds ∧ ds[j]? = some x ∧ R x) X := rfl
@[simp] theorem e_tg3 {i j l : Nat} {d : D} {ρ : DEnv} {Q : DEnv → Prop} : tgTup3 i j l d ρ Q = ∃ x y z, tupD d = some [x, y, z] ∧ frz x = true ∧ frz y = true ∧ frz z = true ∧ i < ρ.length ∧ j < ρ.length ∧ l < ρ.length ∧ Q (((ρ.set i (some x)).set j (some y)).set l (some z)) := by
  simp only [tupD_iff]; rfl
end
end DL
set_option Elab.async false
set_option linter.all false
set_option maxRecDepth 100000
namespace DL
open PySem L2
/-! ### texts: str(i), sep.join(xs), a module's tuple of texts -/
section
variable {K : PySem.W.Frag} {W : WX} {H H' H1 H2 : Hp} {Z Z' Z1 Z2 : Zn} {A A' A1 A2 : List Addr}
theorem ow_str' {i : Str} : Ow K H Z (.str i) (.str i) [] := by unfold Ow; exact ⟨rfl, rfl⟩
def gStrI : G1s := fun ds R => ∃ i : Int, ds = [.int i] ∧ i.natAbs.log2 < 1920 ∧ R (.str (toString i))
theorem rc_strI : RCF K (fun xs H Q => ∃ i : Int, xs = [V.int i] ∧ i.natAbs.log2 < 1920 ∧ Q (.str (toString i)) H) gStrI := fun H Z ds vs A1 Q R zo ad o ⟨i, ed, hz, r⟩ k => by
  subst ed
  obtain ⟨v, ev, ov⟩ := o.one
  have e := ov.int_of
  subst ev e
  exact ⟨i, rfl, hz, k _ _ H Z [] r Gx.refl zo Fr.nil ow_str'⟩
theorem Ows.strs : ∀ {ns : List Str} {vs : List V} {A : List Addr}, Ows K H Z (ns.map D.str) vs A → vs = ns.map V.str ∧ A = []
  | [], vs, A, h => by unfold Ows at h; exact h
  | n :: ns, vs, A, h => by
    rw [List.map_cons] at h
    unfold Ows at h
    obtain ⟨v, vs', A1, A2, e, eA, q, r⟩ := h
    unfold Ow at q
    obtain ⟨e1, e2⟩ := Ows.strs r
    rw [e, q.1, e1, eA, q.2, e2]; exact ⟨rfl, rfl⟩
theorem ows_strs : ∀ (ns : List Str), Ows K H Z (ns.map D.str) (ns.map V.str) []
  | [] => by simp [Ows]
  | n :: ns => by
    rw [List.map_cons, List.map_cons]; unfold Ows
    exact ⟨_, _, [], [], rfl, rfl, ow_str', ows_strs ns⟩
def rJoinK (K : PySem.W.Frag) : V → List V → Hp → VK → Prop := fun x xs H Q => ∃ a p, ∃ ys : List Str, x = .str a ∧ xs = [.ref p] ∧ (SqL K H p (ys.map V.str) ∨ SqT K H p (ys.map V.str)) ∧
  (ys.map (·.length)).sum + ys.length * a.length ≤ 16777216 ∧ Q (.str (Txt.join a ys)) H
/-- sep.join(a list of texts) -/
def dJoin (a b : DTE) : DTE := fun ρ R X => a ρ (fun x => (∃ s, x = .str s) ∧ b ρ (fun y => ∃ s o, ∃ ys : List Str, x = .str s ∧ y = .lst o (ys.map .str) ∧ (ys.map (·.length)).sum + ys.length * s.length ≤ 16777216 ∧ R (.str (Txt.join s ys))) X) X
theorem rf_join {to te : TE} {fo fe : DTE} (ho : RE K W to fo) (he : RE K W te fe) : RF K W (tM1 (rJoinK K) to te) (dJoin fo fe) := fun σ H Z A ρ Q R X w o q k x => by
  refine ho σ H Z A ρ _ _ X w o q (fun d v H1 Z1 A1 r1 g1 zo1 ad1 ow1 => ?_) x
  obtain ⟨⟨s, ed⟩, r1⟩ := r1
  subst ed
  have ev := ow1.str_of
  subst ev
  refine ⟨⟨s, rfl⟩, ?_⟩
  refine he σ H1 Z1 A ρ _ _ X (w.gx g1 zo1) (o.gx w g1) r1 (fun d2 v2 H2 Z2 A2 r2 g2 zo2 ad2 ow2 => ?_) fun C H' Z' xc g' zo' => x C H' Z' xc (g1.trans zo1 g') zo'
  obtain ⟨s', oo, ys, es, ed, hz, r2⟩ := r2
  cases es
  subst ed
  have sq : ∃ p, v2 = .ref p ∧ SqL K H2 p (ys.map V.str) := by
    cases oo with
    | true =>
      obtain ⟨l, vs, A', ev, eA, hp, rs⟩ := ow2.lstT
      obtain ⟨evs, _⟩ := rs.strs
      subst evs
      exact ⟨l, ev, SqL.of hp⟩
    | false =>
      obtain ⟨l, vs, ev, _, hl, hz, rs⟩ := ow2.lstF
      obtain ⟨evs, _⟩ := rs.strs
      subst evs
      exact ⟨l, ev, SqL.of hl⟩
  obtain ⟨p, ev, hs⟩ := sq
  exact ⟨s, p, ys, rfl, by rw [ev], .inl hs, hz, k _ _ H2 Z2 [] r2 (g1.trans zo1 g2) zo2 Fr.nil ow_str'⟩
end
section
variable {X : Cx} {W : WX} {e o : Expr} {to te : TE} {fo fe : DTE} {pos : Pos}
theorem df_join {apos : Pos} (K : PySem.W.Frag) (hK : X.K = K) (ho : DE X W o to fo) (he : DE X W e te fe) (hs : starEach [e] X.env = [(false, eval e X.env)] := by rfl) (hbase : attributeBase o "join" X.env (eval o X.env) = eval o X.env := by rfl) (hline : (apos.endLine == pos.line) = true := by rfl) :
    DF X W (.Call (.Attribute o "join" apos) [e] [] pos) (tM1 (rJoinK K) to te) (dJoin fo fe) := by
  subst hK
  exact ⟨pe_join ho.pe he.pe hs hbase hline, rf_join ho.re he.re⟩
/-- a module's tuple of two texts -/
theorem df_gT2 {x : Str} {a : Addr} {s t : Str} (hg : Gl X x) (hm : X.mg x = some (.ref a)) (sq : ∀ H, SqT X.K H a [.str s, .str t]) (hd : (x == ("__debug__" : Str)) = false := by decide) : DF X W (.Name x pos) (tC (.ref a)) (dC (.tup [.str s, .str t])) :=
  ⟨pe_glob hg hm rfl hd, rf_c fun _ _ => by unfold Ow; exact ⟨a, _, rfl, sq _, ows_strs [s, t]⟩⟩
def strI (i : Int) : Str := (toString i : String)
@[simp] theorem e_gStrI {ds : List D} {R : D → Prop} : gStrI ds R = ∃ i : Int, ds = [.int i] ∧ i.natAbs.log2 < 1920 ∧ R (.str (strI i)) := rfl
@[simp] theorem e_join {a b : DTE} {ρ : DEnv} {R : D → Prop} {Y : XP} : dJoin a b ρ R Y = a ρ (fun x => ∃ s, x = .str s ∧ b ρ (fun y => ∃ ys : List Str, listD y = some (ys.map .str) ∧ (ys.map (·.length)).sum + ys.length * s.length ≤ 16777216 ∧ R (.str (Txt.join s ys))) Y) Y := by
  have h : ∀ x, ((∃ s, x = D.str s) ∧ b ρ (fun y => ∃ s o, ∃ ys : List Str, x = .str s ∧ y = .lst o (ys.map .str) ∧ (ys.map (·.length)).sum + ys.length * s.length ≤ 16777216 ∧ R (.str (Txt.join s ys))) Y) =
      ∃ s, x = .str s ∧ b ρ (fun y => ∃ ys : List Str, listD y = some (ys.map .str) ∧ (ys.map (·.length)).sum + ys.length * s.length ≤ 16777216 ∧ R (.str (Txt.join s ys))) Y := fun x => by
    have e : ∀ s : Str, (fun y => ∃ s' o, ∃ ys : List Str, D.str s = .str s' ∧ y = .lst o (ys.map .str) ∧ (ys.map (·.length)).sum + ys.length * s'.length ≤ 16777216 ∧ R (.str (Txt.join s' ys))) = fun y => ∃ ys : List Str, listD y = some (ys.map .str) ∧ (ys.map (·.length)).sum + ys.length * s.length ≤ 16777216 ∧ R (.str (Txt.join s ys)) := fun s => by
      funext y
      refine propext ⟨fun ⟨s', o, ys, q, q2, q3, q4⟩ => ?_, fun ⟨ys, q, q3, q4⟩ => ?_⟩
      · cases q
        exact ⟨ys, listD_iff.mpr ⟨o, q2⟩, q3, q4⟩
      · obtain ⟨o, q2⟩ := listD_iff.mp q
        exact ⟨s, o, ys, rfl, q2, q3, q4⟩
    refine propext ⟨fun ⟨⟨s, q⟩, h⟩ => ?_, fun ⟨s, q, h⟩ => ?_⟩
    · subst q
      rw [e s] at h
      exact ⟨s, rfl, h⟩
    · subst q
      refine ⟨⟨s, rfl⟩, ?_⟩
      rw [e s]; exact h
  unfold dJoin
  simp only [h]
end
end DL
set_option Elab.async false
set_option linter.all false
set_option maxRecDepth 100000
namespace DL
open PySem L2

/-! ### encodings -/
def eG (g : List Int) : D := .tup (g.map .int)
def eR (r : List (List Int)) : D := .tup (r.map eG)
def eS (s : List (List (List Int))) : D := .tup (s.map eR)
structure Bk where
  ones : List (List (List Int))
  others : List (List (List Int))
def eB (b : Bk) : D := .tup [eS b.ones, eS b.others]
def eL (xs : List Int) : D := .lst false (xs.map .int)
def eLL (xs : List (List Int)) : D := .lst false (xs.map eL)
def eLLL (xs : List (List (List Int))) : D := .lst false (xs.map eLL)
@[simp] theorem tupD_eG (g : List Int) : tupD (eG g) = some (g.map .int) := rfl
@[simp] theorem tupD_eR (g : List (List Int)) : tupD (eR g) = some (g.map eG) := rfl
@[simp] theorem tupD_eS (g : List (List (List Int))) : tupD (eS g) = some (g.map eR) := rfl
@[simp] theorem tupD_eB (b : Bk) : tupD (eB b) = some [eS b.ones, eS b.others] := rfl
@[simp] theorem items_eG (g : List Int) : itemsD (eG g) = some (g.map .int) := rfl
@[simp] theorem items_eR (g : List (List Int)) : itemsD (eR g) = some (g.map eG) := rfl
@[simp] theorem items_eS (g : List (List (List Int))) : itemsD (eS g) = some (g.map eR) := rfl
@[simp] theorem items_eB (b : Bk) : itemsD (eB b) = some [eS b.ones, eS b.others] := rfl
@[simp] theorem listD_eL (g : List Int) : listD (eL g) = some (g.map .int) := rfl
@[simp] theorem listD_eLL (g : List (List Int)) : listD (eLL g) = some (g.map eL) := rfl
@[simp] theorem listD_eLLL (g : List (List (List Int))) : listD (eLLL g) = some (g.map eLL) := rfl
@[simp] theorem lstD_eL (g : List Int) : DL.lstD (eL g) = some (g.map .int) := rfl
@[simp] theorem lstD_eLL (g : List (List Int)) : DL.lstD (eLL g) = some (g.map eL) := rfl
@[simp] theorem lstD_eLLL (g : List (List (List Int))) : DL.lstD (eLLL g) = some (g.map eLL) := rfl
@[simp] theorem items_eL (g : List Int) : itemsD (eL g) = some (g.map .int) := rfl
@[simp] theorem items_eLL (g : List (List Int)) : itemsD (eLL g) = some (g.map eL) := rfl
@[simp] theorem items_eLLL (g : List (List (List Int))) : itemsD (eLLL g) = some (g.map eLL) := rfl
@[simp] theorem frzs_mG (g : List (List Int)) : frzs (g.map eG) = true := frzs_map (fun x => by simp [eG]) g
@[simp] theorem frz_eG (g : List Int) : frz (eG g) = true := by simp [eG]
@[simp] theorem frz_eR (g : List (List Int)) : frz (eR g) = true := by unfold eR; rw [frz_tup]; exact frzs_map frz_eG g
@[simp] theorem frz_eS (g : List (List (List Int))) : frz (eS g) = true := by unfold eS; rw [frz_tup]; exact frzs_map frz_eR g
@[simp] theorem frz_eB (b : Bk) : frz (eB b) = true := by simp [eB]
@[simp] theorem frz_eL (g : List Int) : frz (eL g) = true := by simp [eL]
@[simp] theorem frz_eLL (g : List (List Int)) : frz (eLL g) = true := by unfold eLL; rw [frz_lst]; simpa using frzs_map frz_eL g
@[simp] theorem frz_eLLL (g : List (List (List Int))) : frz (eLLL g) = true := by unfold eLLL; rw [frz_lst]; simpa using frzs_map frz_eLL g
@[simp] theorem fz_eG (g : List Int) : fz (eG g) = eG g := fz_of_frz _ (frz_eG g)
@[simp] theorem fz_eR (g : List (List Int)) : fz (eR g) = eR g := fz_of_frz _ (frz_eR g)
@[simp] theorem fz_eS (g : List (List (List Int))) : fz (eS g) = eS g := fz_of_frz _ (frz_eS g)
@[simp] theorem fz_eB (b : Bk) : fz (eB b) = eB b := fz_of_frz _ (frz_eB b)
@[simp] theorem fz_eL (g : List Int) : fz (eL g) = eL g := fz_of_frz _ (frz_eL g)
@[simp] theorem fz_eLL (g : List (List Int)) : fz (eLL g) = eLL g := fz_of_frz _ (frz_eLL g)
@[simp] theorem fz_eLLL (g : List (List (List Int))) : fz (eLLL g) = eLLL g := fz_of_frz _ (frz_eLLL g)
def n_law_flat : List Str := ["_law_row_here", "_law_out", "_law_group", "_law_number"]
def g_law_flat (c : CA) : DTS :=
  (dSeq (dSet 1 (dFz (dLst dNil)))
    (dSeq (dForT (dVar 0) (tgName 2) (dSet 1 (dFz (dOp (gCat) (dVar 1) (dLcT (dVar 2) (tgName 3) dYes (dTake (dVar 3)) [3])))))
    (dRet (dTake (dVar 1)))))
def sp_law_flat (c : CA) : DSp := fun ds R _ => ∃ row : List (List Int), ds = [eR row] ∧ row.flatten.length < 1000 ∧ R (eL row.flatten)
theorem flat_take {α : Type} {xs : List (List α)} {k : Nat} {g : List α} (h : xs[k]? = some g) : (xs.take (k + 1)).flatten = (xs.take k).flatten ++ g := by
  rw [List.take_succ, h]; simp
theorem flat_le {α : Type} (xs : List (List α)) (k : Nat) : (xs.take k).flatten.length ≤ xs.flatten.length := by
  have h : (xs.take k ++ xs.drop k).flatten.length = xs.flatten.length := by rw [List.take_append_drop]
  rw [List.flatten_append, List.length_append] at h
  omega
theorem law_law_flat (c : CA) : ∀ ds R X, sp_law_flat c ds R X → g_law_flat c { nx := fun _ => R .non, rt := fun d _ => R d, ex := fun C _ => X C } (startD n_law_flat ds) := by
  rintro ds R X ⟨row, rfl, hl, hR⟩
  simp [g_law_flat, n_law_flat]
  refine turns_map (fun k ρ => ∃ acc x y, acc = (row.take k).flatten ∧ ρ = [some (eR row), some (eL acc), x, y]) ⟨_, _, _, rfl, rfl⟩ ?_ ?_
  · rintro k g ρ' hg ⟨acc, x1, x2, ha, rfl⟩
    simp
    refine lturns_all D.int ?_ (fun x hx Q hQ => ?_) ?_
    · have h1 := flat_le row (k + 1)
      rw [flat_take hg, List.length_append] at h1
      exact size_lt (by omega)
    · simp
      exact hQ _ (by simp) (by simp)
    · have h1 := flat_le row (k + 1)
      rw [flat_take hg, List.length_append, ← ha] at h1
      simp
      refine ⟨size_le (by omega), ?_⟩
      rw [flat_take hg, eL, ha, List.map_append, fzs_eq_map, List.map_append, ← fzs_eq_map, ← fzs_eq_map, fzs_ints', fzs_ints']
  · rintro ρ' ⟨acc, x1, x2, ha, rfl⟩
    simp at ha
    simpa [ha] using hR

/-! ### promises -/
def sp_need (c : CA) : DSp := fun ds R X => ∃ b : Bool, ds = [.bl b] ∧ if b = true then R .non else X c.BadBook
def plainD : D → Bool
  | .non | .bl _ | .int _ | .str _ | .tup _ | .lst _ _ => true
  | _ => false
def numD : D → Bool
  | .int _ => true
  | _ => false
def sp_is_number (c : CA) : DSp := fun ds R _ => ∃ d : D, ds = [d] ∧ plainD d = true ∧ R (.bl (numD d))
structure okRow (row : List (List Int)) (m : Nat) : Prop where
  ne : ∀ g ∈ row, g ≠ []
  up : ∀ g ∈ row, g.Pairwise (· < ·)
  nd : row.flatten.Nodup
  rg : ∀ x ∈ row.flatten, 0 ≤ x ∧ x < m
structure okBook (b : Bk) : Prop where
  l1 : 1 ≤ b.ones.length ∧ b.ones.length ≤ 8
  l2 : 1 ≤ b.others.length ∧ b.others.length ≤ 8
  r1 : ∀ r ∈ b.ones, okRow r b.others.length
  r2 : ∀ r ∈ b.others, okRow r b.ones.length
def sp_need_row (c : CA) : DSp := fun ds R _ => ∃ (row : List (List Int)) (m : Nat), ds = [eR row, .int m] ∧ okRow row m ∧ m ≤ 8 ∧ R .non
def sp_need_book (c : CA) : DSp := fun ds R _ => ∃ b : Bk, ds = [eB b] ∧ okBook b ∧ R .non
def sp_wished (c : CA) : DSp := fun ds R _ => ∃ row : List (List Int), ds = [eR row] ∧ row.flatten.length < 1000 ∧ R (eL row.flatten)
def flatAt (a : List (List (List Int))) (i : Int) : List Int := (a.getD i.toNat []).flatten
def ordS (a b : List (List (List Int))) : List (List Int) := (List.range a.length).map fun i : Nat => (flatAt a (i : Int)).filter fun o => (flatAt b o).contains (i : Int)
def ords (b : Bk) : List (List (List Int)) := [ordS b.ones b.others, ordS b.others b.ones]
def mD (b : Bk) : D := .tup [.int b.ones.length, .int b.others.length]
def eW (c : CA) (b : Bk) : D := .ins false c.Wishes ["many", "orders"] [mD b, eLLL (ords b)]
def oW (c : CA) (b : Bk) : D := .ins true c.Wishes ["many", "orders"] [mD b, .lst true ((ords b).map eLL)]
def sp_Wishes_init (c : CA) : DSpM := fun d0 ds R _ => ∃ b : Bk, ds = [eB b] ∧ d0 = .ins true c.Wishes [] [] ∧ okBook b ∧ R .non (oW c b)
def sp_Wishes_order (c : CA) : DSp := fun ds R _ => ∃ (b : Bk) (s i : Int) (l : List (List Int)) (x : List Int), ds = [eW c b, .int s, .int i] ∧ atI (ords b) s = some l ∧ atI l i = some x ∧ R (eL x)
def sp_order (c : CA) : DSp := fun ds R _ => ∃ (b : Bk) (s i : Int) (l : List (List Int)) (x : List Int), ds = [eB b, .int s, .int i] ∧ okBook b ∧ atI (ords b) s = some l ∧ atI l i = some x ∧ R (.lst true (x.map .int))
def sp_law_cell_at (c : CA) : DSp := fun ds R _ => ∃ (ns : List Int) (k : Nat), ds = [.scr ns, .int k] ∧ ∀ n : Int, R (.int n)
def sp_law_dice (c : CA) : DSp := fun ds R _ => ∃ n : Int, ds = [.int n] ∧ R (.sh diceI)
def sp_law_roll (c : CA) : DSp := fun ds R _ => ∃ n : Int, ds = [.sh diceI, .int n] ∧ 0 < n ∧ n < 1073741824 ∧ ∀ r : Int, 0 ≤ r → r < n → R (.int r)
def sp_law_row (c : CA) : DSp := fun ds R _ => ∃ (m : Nat) (e : Int), ds = [.sh diceI, .int m, .int e] ∧ m ≤ 8 ∧ 0 < e ∧ e < 1000 ∧ ∀ row, okRow row m → R (eR row)
def sp_law_round (c : CA) : DSp := fun ds R _ => ∃ m : Nat, ds = [.sh diceI, .int m] ∧ 1 ≤ m ∧ m ≤ 8 ∧ ∀ b, okBook b → b.ones.length = m → b.others.length = m → R (eB b)
def sp_law_book (c : CA) : DSp := fun ds R _ => ∃ (ns : List Int) (m : Nat), ds = [.scr ns, .int m] ∧ 1 ≤ m ∧ m ≤ 8 ∧ ∀ b, okBook b → b.ones.length ≤ m → b.others.length ≤ m → R (eB b)
def sp_law_orders (c : CA) : DSp := fun ds R _ => ∃ b : Bk, ds = [eB b] ∧ okBook b ∧ R (.lst true ((ords b).map eLL))
def n_need : List Str := ["good"]
def g_need (c : CA) : DTS :=
  (dIf (dNot (dTest (dVar 0))) (dRaise c.BadBook) dSkip)
def n_is_number : List Str := ["thing"]
def g_is_number (c : CA) : DTS :=
  (dRet (dAndV (dIsi "int" (dVar 0)) (dNotV (dIsi "bool" (dVar 0)))))
def n_need_row : List Str := ["row", "many", "seen", "group", "last", "number"]
def g_need_row (c : CA) : DTS :=
  (dSeq (dDrop (dCall (sp_need c) (dCons (dIsi "tuple" (dVar 0)) dNil)))
    (dSeq (dSet 2 (dLst dNil))
    (dForT (dVar 0) (tgName 3) (dSeq (dDrop (dCall (sp_need c) (dCons (dAndV (dIsi "tuple" (dVar 3)) (dOp gNe (dVar 3) (dTup dNil))) dNil)))
    (dSeq (dSet 4 (dC (.int (-1))))
    (dForT (dVar 3) (tgName 5) (dSeq (dDrop (dCall (sp_need c) (dCons (dAndV (dCall (sp_is_number c) (dCons (dVar 5) dNil)) (dAndV (dChain (fun i j => decide (i < j)) (fun i j => decide (i < j)) (dVar 4) (dVar 5) (dVar 1)) (dOp (gIn true) (dVar 5) (dVar 2)))) dNil)))
    (dSeq (dSet 4 (dTake (dVar 5)))
    (sAppend (pVar 2) (dTake (dVar 5)))))))))))
def n_need_book : List Str := ["book", "side", "which", "row"]
def g_need_book (c : CA) : DTS :=
  (dSeq (dDrop (dCall (sp_need c) (dCons (dAndV (dIsi "tuple" (dVar 0)) (dOp gEq (dCB gLen (dCons (dVar 0) dNil)) (dC (.int 2)))) dNil)))
    (dSeq (dForT (dVar 0) (tgName 1) (dDrop (dCall (sp_need c) (dCons (dAndV (dIsi "tuple" (dVar 1)) (dChain (fun i j => decide (i ≤ j)) (fun i j => decide (i ≤ j)) (dC (.int 1)) (dCB gLen (dCons (dVar 1) dNil)) (dC (.int 8)))) dNil))))
    (dForR (dCons (dC (.int 2)) dNil) (tgName 2) (dForT (dOp gIxT (dVar 0) (dVar 2)) (tgName 3) (dDrop (dCall (sp_need_row c) (dCons (dVar 3) (dCons (dCB gLen (dCons (dOp gIxT (dVar 0) (dOp (gI fun i j => .int (i - j)) (dC (.int 1)) (dVar 2))) dNil)) dNil))))))))
def n_wished : List Str := ["row", "found", "group"]
def g_wished (c : CA) : DTS :=
  (dSeq (dSet 1 (dFz (dLst dNil)))
    (dSeq (dForT (dVar 0) (tgName 2) (dSet 1 (dFz (dOp (gCat) (dVar 1) (dCB gList (dCons (dVar 2) dNil))))))
    (dRet (dTake (dVar 1)))))
def n_Wishes_init : List Str := ["self", "book", "rows", "which", "side", "number", "row", "other"]
def g_Wishes_init (c : CA) : DTS :=
  (dSeq (dDrop (dCall (sp_need_book c) (dCons (dVar 1) dNil)))
    (dSeq (sNewFld c.Wishes [] "many" (dTup (dCons (dCB gLen (dCons (dOp gIxT (dVar 1) (dC (.int 0))) dNil)) (dCons (dCB gLen (dCons (dOp gIxT (dVar 1) (dC (.int 1))) dNil)) dNil))) (pVar 0))
    (dSeq (dSet 2 (dFz (dLcT (dVar 1) (tgName 4) dYes (dLcT (dVar 4) (tgName 6) dYes (dCall (sp_wished c) (dCons (dVar 6) dNil)) [6]) [4])))
    (dSeq (sNewFld c.Wishes ["many"] "orders" (dLst dNil) (pVar 0))
    (dForR (dCons (dC (.int 2)) dNil) (tgName 3) (dSeq (dSet 4 (dLst dNil))
    (dSeq (dForR (dCons (dCB gLen (dCons (dOp gIxL (dVar 2) (dVar 3)) dNil)) dNil) (tgName 5) (sAppend (pVar 4) (dLcL (dTake (dOp gIxL (dOp gIxL (dVar 2) (dVar 3)) (dVar 5))) (tgName 7) (dTest (dOp (gIn false) (dVar 5) (dOp gIxL (dOp gIxL (dVar 2) (dOp (gI fun i j => .int (i - j)) (dC (.int 1)) (dVar 3))) (dVar 7)))) (dTake (dVar 7)) [7])))
    (dGhost 4 (sAppend (pFld c.Wishes ["many", "orders"] 1 (pVar 0)) (dTake (dVar 4)))))))))))
def n_Wishes_order : List Str := ["self", "side", "number"]
def g_Wishes_order (c : CA) : DTS :=
  (dRet (dTake (dOp gIxL (dOp gIxL (dFld c.Wishes ["many", "orders"] 1 (dVar 0)) (dVar 1)) (dVar 2))))
def n_order : List Str := ["book", "side", "number"]
def g_order (c : CA) : DTS :=
  (dRet (dCB gList (dCons (dMeth c.Wishes ["many", "orders"] (sp_Wishes_order c) (dFz (dMake c.Wishes (sp_Wishes_init c) (dCons (dVar 0) dNil))) (dCons (dVar 1) (dCons (dVar 2) dNil))) dNil)))
def n_law_cell_at : List Str := ["_law_script", "_law_k"]
def g_law_cell_at (c : CA) : DTS :=
  (dSeq (dIf (dTest (dOp gLt (dVar 1) (dCB gLen (dCons (dVar 0) dNil)))) (dRet (dTake (dOp gIxL (dVar 0) (dVar 1)))) dSkip)
    (dRet (dC (.int 0))))
def n_law_dice : List Str := ["_law_cell"]
def g_law_dice (c : CA) : DTS :=
  (dRet (dSh diceI (dLst (dCons (dOp (gIc (fun _ j => 0 < j) fun i j => .int (i % j)) (dVar 0) (dC (.int 2147483647))) (dCons (dOp (gIc CMul fun i j => .int (i * j)) (dOp (gIc CDivW fun i j => .int (i / j)) (dVar 0) (dC (.int 2147483647))) (dCB gInt1 (dCons (dOp gGe (dVar 0) (dOp (gIc CPow fun i j => .int (i ^ j.toNat)) (dC (.int 10)) (dC (.int 18)))) dNil))) dNil)))))
def n_law_roll : List Str := ["_law_dice_here", "_law_most", "_law_found"]
def g_law_roll (c : CA) : DTS :=
  (dSeq (dIf (dTest (dOp gGt (dOp gIxSh (dVar 0) (dC (.int 1))) (dC (.int 0)))) (dSeq (dSet 2 (dOp (gIc (fun _ j => 0 < j) fun i j => .int (i % j)) (dOp gIxSh (dVar 0) (dC (.int 1))) (dVar 1)))
    (dSeq (sSetSh (dOp (gIc CDiv fun i j => .int (i / j)) (dOp gIxSh (dVar 0) (dC (.int 1))) (dVar 1)) (dVar 0) (dC (.int 1)))
    (dRet (dTake (dVar 2))))) dSkip)
    (dSeq (sSetSh (dOp (gIc (fun _ j => 0 < j) fun i j => .int (i % j)) (dOp (gI fun i j => .int (i + j)) (dOp (gIc CMul fun i j => .int (i * j)) (dOp gIxSh (dVar 0) (dC (.int 0))) (dC (.int 48271))) (dC (.int 11))) (dC (.int 2147483647))) (dVar 0) (dC (.int 0)))
    (dRet (dOp (gIc (fun _ j => 0 < j) fun i j => .int (i % j)) (dOp (gIc CDiv fun i j => .int (i / j)) (dOp gIxSh (dVar 0) (dC (.int 0))) (dC (.int 7))) (dVar 1)))))
def n_law_row : List Str := ["_law_dice_here", "_law_many", "_law_ends", "_law_left", "_law_out", "_law_pick", "_law_number"]
def g_law_row (c : CA) : DTS :=
  (dSeq (dSet 3 (dFz (dListR (dVar 1))))
    (dSeq (dSet 4 (dLst dNil))
    (dSeq (dWhile (dAnd (dTest (dOp gNe (dVar 3) (dLst dNil))) (dTest (dOp gGt (dCall (sp_law_roll c) (dCons (dVar 0) (dCons (dVar 2) dNil))) (dC (.int 0))))) (dSeq (dSet 5 (dTake (dOp gIxL (dVar 3) (dCall (sp_law_roll c) (dCons (dVar 0) (dCons (dCB gLen (dCons (dVar 3) dNil)) dNil))))))
    (dSeq (dSet 3 (dFz (dLcL (dTake (dVar 3)) (tgName 6) (dTest (dOp gNe (dVar 6) (dVar 5))) (dTake (dVar 6)) [6])))
    (dIf (dAnd (dTest (dOp gNe (dVar 4) (dLst dNil))) (dAnd (dTest (dOp gGt (dVar 5) (dOp gIxT (dOp gIxL (dVar 4) (gNeg (dC (.int 1)))) (gNeg (dC (.int 1)))))) (dTest (dOp gEq (dCall (sp_law_roll c) (dCons (dVar 0) (dCons (dC (.int 4)) dNil))) (dC (.int 0)))))) (sSetItem (dOp (gCatT) (dOp gIxL (dVar 4) (gNeg (dC (.int 1)))) (dTup (dCons (dTake (dVar 5)) dNil))) (pVar 4) (gNeg (dC (.int 1)))) (sAppend (pVar 4) (dTup (dCons (dTake (dVar 5)) dNil)))))))
    (dRet (dCB gTuple (dCons (dVar 4) dNil))))))
def n_law_round : List Str := ["_law_dice_here", "_law_many", "_law_ones", "_law_others", "_law_k", "_law_turn", "_law_row_here", "_law_at", "_law_one", "_law_j", "_law_side", "_law_number"]
def g_law_round (c : CA) : DTS :=
  (dSeq (dSet 2 (dLst dNil))
    (dSeq (dSet 3 (dLst dNil))
    (dSeq (dForR (dCons (dVar 1) dNil) (tgName 4) (dSeq (sAppend (pVar 2) (dShE (dLcR (dCons (dVar 1) dNil) (tgName 9) dYes (dOp (gIc (fun _ j => 0 < j) fun i j => .int (i % j)) (dOp (gI fun i j => .int (i + j)) (dVar 4) (dVar 9)) (dVar 1)) [9])))
    (sAppend (pVar 3) (dShE (dLcR (dCons (dVar 1) dNil) (tgName 9) dYes (dOp (gIc (fun _ j => 0 < j) fun i j => .int (i % j)) (dOp (gI fun i j => .int (i + j)) (dOp (gI fun i j => .int (i + j)) (dVar 4) (dC (.int 1))) (dVar 9)) (dVar 1)) [9])))))
    (dSeq (dForR (dCons (dCall (sp_law_roll c) (dCons (dVar 0) (dCons (dC (.int 3)) dNil))) dNil) (tgName 5) (dSeq (dGhost 2 (dGhost 3 (dSet 6 (dTake (dOp gIxL (dOp gIxL (dLst (dCons (dTake (dVar 2)) (dCons (dTake (dVar 3)) dNil))) (dCall (sp_law_roll c) (dCons (dVar 0) (dCons (dC (.int 2)) dNil)))) (dCall (sp_law_roll c) (dCons (dVar 0) (dCons (dVar 1) dNil))))))))
    (dSeq (dSet 7 (dCall (sp_law_roll c) (dCons (dVar 0) (dCons (dVar 1) dNil))))
    (sSwapSh 6 7 8))))
    (dGhost 2 (dGhost 3 (dRet (dCB gTuple (dCons (dLcL (dLst (dCons (dTake (dVar 2)) (dCons (dTake (dVar 3)) dNil))) (tgName 10) dYes (dCB gTuple (dCons (dLcL (dTake (dVar 10)) (tgName 6) dYes (dCB gTuple (dCons (dLcSh1 11 (dVar 6)) dNil)) [6]) dNil)) [10]) dNil)))))))))
def n_law_book : List Str := ["_law_script", "_law_most", "_law_dice_here", "_law_way", "_law_sizes", "_law_ends", "_law_ones", "_law_k"]
def g_law_book (c : CA) : DTS :=
  (dSeq (dSet 2 (dCall (sp_law_dice c) (dCons (dCall (sp_law_cell_at c) (dCons (dVar 0) (dCons (dC (.int 0)) dNil))) dNil)))
    (dSeq (dSet 3 (dOp (gIc (fun _ j => 0 < j) fun i j => .int (i % j)) (dCall (sp_law_cell_at c) (dCons (dVar 0) (dCons (dC (.int 1)) dNil))) (dC (.int 4))))
    (dSeq (dSet 4 (dLst (dCons (dOp (gI fun i j => .int (i + j)) (dC (.int 1)) (dCall (sp_law_roll c) (dCons (dVar 2) (dCons (dVar 1) dNil)))) (dCons (dOp (gI fun i j => .int (i + j)) (dC (.int 1)) (dCall (sp_law_roll c) (dCons (dVar 2) (dCons (dVar 1) dNil)))) dNil))))
    (dSeq (dIf (dTest (dOp gEq (dVar 3) (dC (.int 1)))) (dRet (dCall (sp_law_round c) (dCons (dVar 2) (dCons (dOp (gI fun i j => .int (i + j)) (dC (.int 1)) (dCall (sp_law_roll c) (dCons (dVar 2) (dCons (dVar 1) dNil)))) dNil)))) dSkip)
    (dSeq (dIf (dTest (dOp gEq (dVar 3) (dC (.int 2)))) (sSetItem (dTake (dOp gIxL (dVar 4) (dC (.int 0)))) (pVar 4) (dC (.int 1))) dSkip)
    (dSeq (dSet 5 (dTake (dOp gIxL (dLst (dCons (dC (.int 5)) (dCons (dC (.int 12)) (dCons (dC (.int 40)) dNil)))) (dCall (sp_law_roll c) (dCons (dVar 2) (dCons (dC (.int 3)) dNil))))))
    (dSeq (dSet 6 (dCB gTuple (dCons (dLcR (dCons (dOp gIxL (dVar 4) (dC (.int 0))) dNil) (tgName 7) dYes (dCall (sp_law_row c) (dCons (dVar 2) (dCons (dOp gIxL (dVar 4) (dC (.int 1))) (dCons (dVar 5) dNil)))) [7]) dNil)))
    (dRet (dTup (dCons (dTake (dVar 6)) (dCons (dCB gTuple (dCons (dLcR (dCons (dOp gIxL (dVar 4) (dC (.int 1))) dNil) (tgName 7) dYes (dCall (sp_law_row c) (dCons (dVar 2) (dCons (dOp gIxL (dVar 4) (dC (.int 0))) (dCons (dVar 5) dNil)))) [7]) dNil)) dNil)))))))))))
def n_law_orders : List Str := ["_law_book_here", "_law_out", "_law_side", "_law_rows", "_law_number", "_law_some", "_law_other"]
def g_law_orders (c : CA) : DTS :=
  (dSeq (dSet 1 (dLst dNil))
    (dSeq (dForR (dCons (dC (.int 2)) dNil) (tgName 2) (dSeq (dSet 3 (dLst dNil))
    (dSeq (dForR (dCons (dCB gLen (dCons (dOp gIxT (dVar 0) (dVar 2)) dNil)) dNil) (tgName 4) (dSeq (dSet 5 (dFz (dCall (sp_law_flat c) (dCons (dOp gIxT (dOp gIxT (dVar 0) (dVar 2)) (dVar 4)) dNil))))
    (sAppend (pVar 3) (dLcL (dTake (dVar 5)) (tgName 6) (dTest (dOp (gIn false) (dVar 4) (dCall (sp_law_flat c) (dCons (dOp gIxT (dOp gIxT (dVar 0) (dOp (gI fun i j => .int (i - j)) (dC (.int 1)) (dVar 2))) (dVar 6)) dNil)))) (dTake (dVar 6)) [6]))))
    (dGhost 3 (sAppend (pVar 1) (dTake (dVar 3)))))))
    (dRetV 1)))
end DL
set_option Elab.async false
set_option linter.all false
set_option maxRecDepth 100000
namespace DL
open PySem L2

/-! ### what may be compared, what comes of it -/
structure okn (k : Nat) (d : D) : Prop where
  pl : plain d = true
  cl : (py d).canLay0 = true
  dp : (py d).depth ≤ k
theorem okd_of {k : Nat} {d : D} (h : okn k d) (hk : k ≤ 64 := by decide) : okd d = true := by
  unfold okd SeqAt.shaped
  simp only [Bool.and_eq_true, decide_eq_true_eq]
  exact ⟨h.pl, h.cl, Nat.le_trans h.dp hk⟩
theorem okn_int {k : Nat} {i : Int} : okn k (.int i) := ⟨by unfold plain; rfl, by unfold py; simp only [PyData.canLay0], by unfold py; simp only [PyData.depth]; omega⟩
theorem okn_bl {k : Nat} {i : Bool} : okn k (.bl i) := ⟨by unfold plain; rfl, by unfold py; simp only [PyData.canLay0], by unfold py; simp only [PyData.depth]; omega⟩
theorem okn_str {k : Nat} {i : Str} (h : PyData.strOk i = true) : okn k (.str i) := ⟨by unfold plain; rfl, by unfold py; simp only [PyData.canLay0]; exact h, by unfold py; simp only [PyData.depth]; omega⟩
theorem okn_non {k : Nat} : okn k .non := ⟨by unfold plain; rfl, by unfold py; simp only [PyData.canLay0], by unfold py; simp only [PyData.depth]; omega⟩
theorem okns {k : Nat} : ∀ {ds : List D}, (∀ d ∈ ds, okn k d) → plains ds = true ∧ PyData.canLayAll0 (pys ds) = true ∧ PyData.depthAll (pys ds) ≤ k
  | [], _ => by unfold plains pys; simp only [PyData.canLayAll0, PyData.depthAll]; exact ⟨trivial, trivial, Nat.zero_le _⟩
  | d :: ds, h => by
    have h1 := h d List.mem_cons_self
    have h2 := okns (ds := ds) fun e he => h e (List.mem_cons_of_mem _ he)
    unfold plains pys
    simp only [PyData.canLayAll0, PyData.depthAll, Bool.and_eq_true]
    exact ⟨⟨h1.pl, h2.1⟩, ⟨h1.cl, h2.2.1⟩, Nat.max_le.mpr ⟨h1.dp, h2.2.2⟩⟩
theorem okn_tup {k : Nat} {ds : List D} (h : ∀ d ∈ ds, okn k d) : okn (k + 1) (.tup ds) := by
  have q := okns h
  refine ⟨?_, ?_, ?_⟩
  · unfold plain; exact q.1
  · unfold py; simp only [PyData.canLay0]; exact q.2.1
  · unfold py; simp only [PyData.depth]; omega
theorem okn_lst {k : Nat} {o : Bool} {ds : List D} (h : ∀ d ∈ ds, okn k d) : okn (k + 1) (.lst o ds) := by
  have q := okns h
  refine ⟨?_, ?_, ?_⟩
  · unfold plain; exact q.1
  · unfold py; simp only [PyData.canLay0]; exact q.2.1
  · unfold py; simp only [PyData.depth]; omega
theorem okn_map {α : Type} {k : Nat} {f : α → D} {xs : List α} (h : ∀ x, okn k (f x)) : ∀ d ∈ xs.map f, okn k d := fun d hd => by
  obtain ⟨x, _, rfl⟩ := List.mem_map.mp hd
  exact h x
theorem okn_eG (g : List Int) : okn 1 (eG g) := okn_tup (okn_map fun _ => okn_int)
theorem okn_eR (g : List (List Int)) : okn 2 (eR g) := okn_tup (okn_map okn_eG)
theorem okn_eS (g : List (List (List Int))) : okn 3 (eS g) := okn_tup (okn_map okn_eR)
theorem okn_eB (b : Bk) : okn 4 (eB b) := okn_tup fun d hd => by
  rcases List.mem_cons.mp hd with rfl | hd
  · exact okn_eS _
  · rcases List.mem_cons.mp hd with rfl | hd
    · exact okn_eS _
    · cases hd
theorem okn_eL (g : List Int) : okn 1 (eL g) := okn_lst (okn_map fun _ => okn_int)
theorem okn_eLL (g : List (List Int)) : okn 2 (eLL g) := okn_lst (okn_map okn_eL)
theorem okn_eLLL (g : List (List (List Int))) : okn 3 (eLLL g) := okn_lst (okn_map okn_eLL)
@[simp] theorem okd_int (i : Int) : okd (.int i) = true := okd_of (k := 0) okn_int
@[simp] theorem okd_bl (i : Bool) : okd (.bl i) = true := okd_of (k := 0) okn_bl
@[simp] theorem okd_non : okd .non = true := okd_of (k := 0) okn_non
@[simp] theorem okd_eG (g : List Int) : okd (eG g) = true := okd_of (okn_eG g)
@[simp] theorem okd_eR (g : List (List Int)) : okd (eR g) = true := okd_of (okn_eR g)
@[simp] theorem okd_eS (g : List (List (List Int))) : okd (eS g) = true := okd_of (okn_eS g)
@[simp] theorem okd_eB (b : Bk) : okd (eB b) = true := okd_of (okn_eB b)
@[simp] theorem okd_eL (g : List Int) : okd (eL g) = true := okd_of (okn_eL g)
@[simp] theorem okd_eLL (g : List (List Int)) : okd (eLL g) = true := okd_of (okn_eLL g)
@[simp] theorem okd_eLLL (g : List (List (List Int))) : okd (eLLL g) = true := okd_of (okn_eLLL g)
@[simp] theorem okd_lints (o : Bool) (g : List Int) : okd (.lst o (g.map .int)) = true := okd_of (k := 1) (okn_lst (okn_map fun _ => okn_int))
@[simp] theorem okd_lnil (o : Bool) : okd (.lst o []) = true := okd_of (k := 1) (okn_lst (k := 0) fun _ h => nomatch h)
@[simp] theorem okd_tnil : okd (.tup []) = true := okd_of (k := 1) (okn_tup (k := 0) fun _ h => nomatch h)
@[simp] theorem okd_lG (o : Bool) (g : List (List Int)) : okd (.lst o (g.map eG)) = true := okd_of (k := 2) (okn_lst (okn_map okn_eG))
@[simp] theorem okd_lR (o : Bool) (g : List (List (List Int))) : okd (.lst o (g.map eR)) = true := okd_of (k := 3) (okn_lst (okn_map okn_eR))
def deqs (a b : List D) : Bool := PyData.eqvAll (pys a) (pys b)
@[simp] theorem deqs_nn : deqs [] [] = true := by unfold deqs pys; simp only [PyData.eqvAll]
@[simp] theorem deqs_nc (a : D) (as : List D) : deqs [] (a :: as) = false := by unfold deqs pys; simp only [PyData.eqvAll]
@[simp] theorem deqs_cn (a : D) (as : List D) : deqs (a :: as) [] = false := by unfold deqs pys; simp only [PyData.eqvAll]
@[simp] theorem deqs_cc (a b : D) (as bs : List D) : deqs (a :: as) (b :: bs) = (deq a b && deqs as bs) := by
  have e : ∀ (x : D) (xs : List D), pys (x :: xs) = py x :: pys xs := fun x xs => by simp [pys]
  unfold deqs
  rw [e, e]
  simp only [PyData.eqvAll]; rfl
@[simp] theorem deq_tup (a b : List D) : deq (.tup a) (.tup b) = deqs a b := by unfold deq py; simp only [PyData.eqv]; rfl
@[simp] theorem deq_lst (o o' : Bool) (a b : List D) : deq (.lst o a) (.lst o' b) = deqs a b := by unfold deq py; simp only [PyData.eqv]; rfl
@[simp] theorem deq_int (a b : Int) : deq (.int a) (.int b) = decide (a = b) := by
  unfold deq py; simp only [PyData.eqv]
  by_cases h : a = b <;> simp [h]
@[simp] theorem deq_bl (a b : Bool) : deq (.bl a) (.bl b) = decide (a = b) := by
  unfold deq py; simp only [PyData.eqv]
  cases a <;> cases b <;> rfl
@[simp] theorem deq_non : deq .non .non = true := by unfold deq py; simp only [PyData.eqv]
@[simp] theorem deq_nonI (i : Int) : deq .non (.int i) = false := by unfold deq py; simp only [PyData.eqv]
@[simp] theorem deq_Inon (i : Int) : deq (.int i) .non = false := by unfold deq py; simp only [PyData.eqv]
@[simp] theorem deq_lt (o : Bool) (a b : List D) : deq (.lst o a) (.tup b) = false := by unfold deq py; simp only [PyData.eqv]
@[simp] theorem deq_tl (o : Bool) (a b : List D) : deq (.tup a) (.lst o b) = false := by unfold deq py; simp only [PyData.eqv]
theorem deqs_map {α : Type} [DecidableEq α] {f : α → D} (h : ∀ x y, deq (f x) (f y) = decide (x = y)) : ∀ xs ys : List α, deqs (xs.map f) (ys.map f) = decide (xs = ys)
  | [], [] => by simp
  | [], y :: ys => by simp
  | x :: xs, [] => by simp
  | x :: xs, y :: ys => by
    rw [List.map_cons, List.map_cons, deqs_cc, h, deqs_map h xs ys]
    by_cases e : x = y <;> simp [e]
@[simp] theorem deqs_ints (a b : List Int) : deqs (a.map .int) (b.map .int) = decide (a = b) := deqs_map deq_int a b
@[simp] theorem deq_eG (a b : List Int) : deq (eG a) (eG b) = decide (a = b) := by unfold eG; rw [deq_tup, deqs_ints]
@[simp] theorem deqs_mG (a b : List (List Int)) : deqs (a.map eG) (b.map eG) = decide (a = b) := deqs_map deq_eG a b
@[simp] theorem deq_eR (a b : List (List Int)) : deq (eR a) (eR b) = decide (a = b) := by unfold eR; rw [deq_tup, deqs_mG]
@[simp] theorem deq_eS (a b : List (List (List Int))) : deq (eS a) (eS b) = decide (a = b) := by unfold eS; rw [deq_tup]; exact deqs_map deq_eR a b
@[simp] theorem deq_eB (a b : Bk) : deq (eB a) (eB b) = decide (a.ones = b.ones ∧ a.others = b.others) := by
  unfold eB; rw [deq_tup]; simp only [deqs_cc, deqs_nn, deq_eS, Bool.and_true]
  by_cases h : a.ones = b.ones <;> simp [h]
@[simp] theorem deq_eL (a b : List Int) : deq (eL a) (eL b) = decide (a = b) := by unfold eL; rw [deq_lst, deqs_ints]
@[simp] theorem deqs_mL (a b : List (List Int)) : deqs (a.map eL) (b.map eL) = decide (a = b) := deqs_map deq_eL a b
@[simp] theorem deq_eLL (a b : List (List Int)) : deq (eLL a) (eLL b) = decide (a = b) := by unfold eLL; rw [deq_lst, deqs_mL]
@[simp] theorem deq_eLLL (a b : List (List (List Int))) : deq (eLLL a) (eLLL b) = decide (a = b) := by unfold eLLL; rw [deq_lst]; exact deqs_map deq_eLL a b
@[simp] theorem deq_eL_l (a b : List Int) (o : Bool) : deq (eL a) (.lst o (b.map .int)) = decide (a = b) := by unfold eL; rw [deq_lst, deqs_ints]
@[simp] theorem deq_l_eL (a b : List Int) (o : Bool) : deq (.lst o (b.map .int)) (eL a) = decide (b = a) := by unfold eL; rw [deq_lst, deqs_ints]
@[simp] theorem deq_eL_n (a : List Int) (o : Bool) : deq (eL a) (.lst o []) = decide (a = []) := deq_eL_l a [] o
@[simp] theorem deq_eG_n (a : List Int) : deq (eG a) (.tup []) = decide (a = []) := deq_eG a []
theorem memD_map {α : Type} [DecidableEq α] {f : α → D} (h : ∀ x y, deq (f x) (f y) = decide (x = y)) (xs : List α) (x : α) : memD (xs.map f) (f x) = decide (x ∈ xs) := by
  unfold memD
  induction xs with
  | nil => simp
  | cons y ys ih =>
    rw [List.map_cons, List.any_cons, ih, h]
    by_cases e : y = x
    · subst e; simp
    · have e' : ¬ x = y := fun q => e q.symm
      simp [e, e']
@[simp] theorem memD_ints (xs : List Int) (x : Int) : memD (xs.map .int) (.int x) = decide (x ∈ xs) := memD_map deq_int xs x
@[simp] theorem memD_mG (xs : List (List Int)) (x : List Int) : memD (xs.map eG) (eG x) = decide (x ∈ xs) := by rw [memD_map deq_eG]; exact decide_eq_decide.mpr Iff.rfl
@[simp] theorem memD_mL (xs : List (List Int)) (x : List Int) : memD (xs.map eL) (eL x) = decide (x ∈ xs) := by rw [memD_map deq_eL]; exact decide_eq_decide.mpr Iff.rfl
@[simp] theorem tyD_eG (g : List Int) : tyD (eG g) = some "tuple" := rfl
@[simp] theorem tyD_eR (g : List (List Int)) : tyD (eR g) = some "tuple" := rfl
@[simp] theorem tyD_eS (g : List (List (List Int))) : tyD (eS g) = some "tuple" := rfl
@[simp] theorem tyD_eB (b : Bk) : tyD (eB b) = some "tuple" := rfl
@[simp] theorem tyD_eL (g : List Int) : tyD (eL g) = some "list" := rfl
@[simp] theorem tyD_eLL (g : List (List Int)) : tyD (eLL g) = some "list" := rfl
@[simp] theorem tyD_eLLL (g : List (List (List Int))) : tyD (eLLL g) = some "list" := rfl
@[simp] theorem numD_int (i : Int) : numD (.int i) = true := rfl
@[simp] theorem plainD_int (i : Int) : plainD (.int i) = true := rfl
@[simp] theorem frzs_mR (g : List (List (List Int))) : frzs (g.map eR) = true := frzs_map frz_eR g
@[simp] theorem frzs_mS (g : List (List (List (List Int)))) : frzs (g.map eS) = true := frzs_map frz_eS g
@[simp] theorem frzs_mL (g : List (List Int)) : frzs (g.map eL) = true := frzs_map frz_eL g
@[simp] theorem frzs_mLL (g : List (List (List Int))) : frzs (g.map eLL) = true := frzs_map frz_eLL g
@[simp] theorem fzs_mG (g : List (List Int)) : fzs (g.map eG) = g.map eG := fzs_map fz_eG g
@[simp] theorem fzs_mR (g : List (List (List Int))) : fzs (g.map eR) = g.map eR := fzs_map fz_eR g
@[simp] theorem fzs_mL (g : List (List Int)) : fzs (g.map eL) = g.map eL := fzs_map fz_eL g
@[simp] theorem fzs_mLL (g : List (List (List Int))) : fzs (g.map eLL) = g.map eLL := fzs_map fz_eLL g
theorem fzs_app (a b : List D) : fzs (a ++ b) = fzs a ++ fzs b := by simp [fzs_eq_map]
theorem eL_app (a b : List Int) : D.lst false (fzs (a.map D.int ++ b.map D.int)) = eL (a ++ b) := by
  rw [fzs_app, fzs_ints', fzs_ints', eL, List.map_append]
theorem take_ext {α : Type} {xs : List α} {j : Nat} {x : α} (h : xs[j]? = some x) : xs.take (j + 1) = xs.take j ++ [x] := by rw [List.take_succ, h]; rfl
theorem flat_split {α : Type} {xs : List (List α)} {k : Nat} {g : List α} (h : xs[k]? = some g) : xs.flatten = (xs.take k).flatten ++ (g ++ (xs.drop (k + 1)).flatten) := by
  have hk : k < xs.length := (List.getElem?_eq_some_iff.mp h).1
  have e : xs = xs.take k ++ g :: xs.drop (k + 1) := by
    have e1 : xs.drop k = g :: xs.drop (k + 1) := by
      rw [List.drop_eq_getElem_cons hk]
      congr 1
      exact (List.getElem?_eq_some_iff.mp h).2
    rw [← e1, List.take_append_drop]
  conv => lhs; rw [e]
  rw [List.flatten_append, List.flatten_cons]
theorem deqs_nr (as : List D) : deqs as [] = decide (as = []) := by cases as <;> simp
@[simp] theorem deqs_app (as : List D) (a : D) : deqs (as ++ [a]) [] = false := by rw [deqs_nr]; simp
theorem len_flat {α : Type} : ∀ {xs : List (List α)}, (∀ g ∈ xs, g ≠ []) → xs.length ≤ xs.flatten.length
  | [], _ => by simp
  | g :: xs, h => by
    have h1 := len_flat (xs := xs) fun g' hg' => h g' (List.mem_cons_of_mem _ hg')
    have h2 := List.length_pos_iff.mpr (h g List.mem_cons_self)
    rw [List.flatten_cons, List.length_append, List.length_cons]
    omega
/-! loops, the invariant kept shut -/
theorem turnsI {α : Type} {xs : List α} {enc : α → D} {tg : DTG} {b : DTS} {E : DEnds} {ρ : DEnv} (Pv : Nat → DEnv → Prop) (h0 : Pv 0 ρ)
    (hs : ∀ k x ρ' (Q : DEnv → Prop), xs[k]? = some x → Pv k ρ' → (∀ ρ2, Pv (k + 1) ρ2 → Q ρ2) → tg (enc x) ρ' fun ρ2 => b { E with nx := Q, ct := Q, bk := E.nx } ρ2) (hd : ∀ ρ', Pv xs.length ρ' → E.nx ρ') : Turns (xs.map enc) tg b E ρ :=
  turns_map Pv h0 (fun k x ρ' hx p => hs k x ρ' _ hx p fun _ h => h) hd
theorem turnsRI {n : Nat} {tg : DTG} {b : DTS} {E : DEnds} {ρ : DEnv} (Pv : Nat → DEnv → Prop) (h0 : Pv 0 ρ)
    (hs : ∀ (k : Nat) ρ' (Q : DEnv → Prop), k < n → Pv k ρ' → (∀ ρ2, Pv (k + 1) ρ2 → Q ρ2) → tg (.int k) ρ' fun ρ2 => b { E with nx := Q, ct := Q, bk := E.nx } ρ2) (hd : ∀ ρ', Pv n ρ' → E.nx ρ') : TurnsR n tg b E ρ :=
  turnsR_nat Pv h0 (fun k ρ' hx p => hs k ρ' _ hx p fun _ h => h) hd
theorem whileI {cc : DTT} {b : DTS} {E : DEnds} {ρ : DEnv} (Pv : Nat → DEnv → Prop) (m0 : Nat) (h0 : Pv m0 ρ)
    (hs : ∀ m ρ' (Q : DEnv → Prop), Pv m ρ' → (∀ m' ρ2, m' < m → Pv m' ρ2 → Q ρ2) → cc ρ' (fun x => if x = true then b { E with nx := Q, ct := Q, bk := E.nx } ρ' else E.nx ρ') (fun C => E.ex C ρ')) : dWhile cc b E ρ :=
  ⟨Pv, ⟨m0, h0⟩, fun m ρ' p => hs m ρ' _ p fun m' ρ2 h q => ⟨m', h, q⟩⟩
/-- a comprehension whose items are not functions of its turns -/
theorem lturnsR {α : Type} {xs : List α} {enc : α → D} {tg : DTG} {tt : DTT} {te : DTE} {own : List Nat} {ρ : DEnv} {R : D → Prop} (Pv : Nat → List D → Prop) (h0 : Pv 0 [])
    (h : ∀ k x acc (Q : DEnv → Prop), xs[k]? = some x → Pv k acc → (∀ ρ2, (tt ρ2 (fun b => if b = true then te ρ2 (fun y => acc.length < sizeLine ∧ Pv (k + 1) (acc ++ [y])) (fun _ => False) else Pv (k + 1) acc) fun _ => False) → Q ρ2) → tg (enc x) (wipeD ρ own) Q)
    (hR : ∀ acc, Pv xs.length acc → R (.lst true acc)) : LTurns (xs.map enc) tg tt te own ρ R := by
  refine ⟨Pv, h0, fun k x acc hx p => ?_, fun acc p => hR acc (by rw [List.length_map] at p; exact p)⟩
  rw [List.getElem?_map] at hx
  obtain ⟨y, hy, rfl⟩ := Option.map_eq_some_iff.mp hx
  exact h k y acc _ hy p fun ρ2 q => q
theorem lturnsD {ds : List D} {tg : DTG} {tt : DTT} {te : DTE} {own : List Nat} {ρ : DEnv} {R : D → Prop} (Pv : Nat → List D → Prop) (h0 : Pv 0 [])
    (h : ∀ k x acc (Q : DEnv → Prop), ds[k]? = some x → Pv k acc → (∀ ρ2, (tt ρ2 (fun b => if b = true then te ρ2 (fun y => acc.length < sizeLine ∧ Pv (k + 1) (acc ++ [y])) (fun _ => False) else Pv (k + 1) acc) fun _ => False) → Q ρ2) → tg x (wipeD ρ own) Q)
    (hR : ∀ acc, Pv ds.length acc → R (.lst true acc)) : LTurns ds tg tt te own ρ R :=
  ⟨Pv, h0, fun k x acc hx p => h k x acc _ hx p fun ρ2 q => q, hR⟩
end DL
set_option Elab.async false
set_option linter.all false
set_option maxRecDepth 100000
namespace DL
open PySem L2
theorem law_need (c : CA) : ∀ ds R X, sp_need c ds R X → g_need c { nx := fun _ => R .non, rt := fun d _ => R d, ex := fun C _ => X C } (startD n_need ds) := by
  rintro ds R X ⟨b, rfl, h⟩
  cases b <;> simpa [g_need, n_need] using h
theorem law_is_number (c : CA) : ∀ ds R X, sp_is_number c ds R X → g_is_number c { nx := fun _ => R .non, rt := fun d _ => R d, ex := fun C _ => X C } (startD n_is_number ds) := by
  rintro ds R X ⟨d, rfl, hp, h⟩
  cases d <;> simp [plainD] at hp <;> simpa [g_is_number, n_is_number, numD] using h
theorem law_law_cell_at (c : CA) : ∀ ds R X, sp_law_cell_at c ds R X → g_law_cell_at c { nx := fun _ => R .non, rt := fun d _ => R d, ex := fun C _ => X C } (startD n_law_cell_at ds) := by
  rintro ds R X ⟨ns, k, rfl, h⟩
  simp [g_law_cell_at, n_law_cell_at]
  by_cases hk : ns.length ≤ k
  · exact .inl ⟨hk, h 0⟩
  · refine .inr ⟨by omega, .int (ns[k]'(by omega)), ?_, rfl, h _⟩
    rw [atI_natE, List.getElem?_map, List.getElem?_eq_getElem (by omega)]; rfl
theorem law_law_dice (c : CA) : ∀ ds R X, sp_law_dice c ds R X → g_law_dice c { nx := fun _ => R .non, rt := fun d _ => R d, ex := fun C _ => X C } (startD n_law_dice ds) := by
  rintro ds R X ⟨n, rfl, h⟩
  simp [g_law_dice, n_law_dice]
  refine ⟨⟨by decide, by decide +kernel⟩, ⟨by decide, by decide, by decide⟩, ?_⟩
  by_cases hn : n < 1000000000000000000
  · exact .inl ⟨hn, .inr ⟨by decide, by decide⟩, ⟨[n % 2147483647, 0], rfl, rfl⟩, h⟩
  · exact .inr ⟨by omega, .inr ⟨by decide, by decide⟩, ⟨[n % 2147483647, n / 2147483647], rfl, rfl⟩, h⟩
theorem dice_at {xs : List Int} (h : diceI xs) : ∃ a b, xs = [a, b] := by
  unfold diceI at h
  match xs, h with
  | [a, b], _ => exact ⟨a, b, rfl⟩
theorem law_law_roll (c : CA) : ∀ ds R X, sp_law_roll c ds R X → g_law_roll c { nx := fun _ => R .non, rt := fun d _ => R d, ex := fun C _ => X C } (startD n_law_roll ds) := by
  rintro ds R X ⟨n, rfl, h0, h1, h⟩
  simp [g_law_roll, n_law_roll]
  rintro xs hx
  obtain ⟨a, b, rfl⟩ := dice_at hx
  refine ⟨b, rfl, ?_⟩
  by_cases hb : b ≤ 0
  · refine .inl ⟨hb, fun xs hx => ?_⟩
    obtain ⟨a, b, rfl⟩ := dice_at hx
    refine ⟨a, rfl, .inr ⟨by decide, by decide⟩, fun xs hx => ?_, fun xs hx => ?_⟩
    · obtain ⟨a, b, rfl⟩ := dice_at hx
      exact ⟨0, rfl, rfl⟩
    · obtain ⟨a, b, rfl⟩ := dice_at hx
      exact ⟨a, rfl, ⟨by decide, by decide⟩, h0, h _ (Int.emod_nonneg _ (by omega)) (Int.emod_lt_of_pos _ h0)⟩
  · refine .inr ⟨by omega, fun xs hx => ?_⟩
    obtain ⟨a, b, rfl⟩ := dice_at hx
    refine ⟨b, rfl, h0, fun xs hx => ?_⟩
    obtain ⟨a', b', rfl⟩ := dice_at hx
    refine ⟨b', rfl, ⟨h0, h1⟩, fun xs hx => ?_, h _ (Int.emod_nonneg _ (by omega)) (Int.emod_lt_of_pos _ h0)⟩
    obtain ⟨a', b', rfl⟩ := dice_at hx
    exact ⟨1, rfl, rfl⟩
theorem law_Wishes_order (c : CA) : ∀ ds R X, sp_Wishes_order c ds R X → g_Wishes_order c { nx := fun _ => R .non, rt := fun d _ => R d, ex := fun C _ => X C } (startD n_Wishes_order ds) := by
  rintro ds R X ⟨b, s, i, l, x, rfl, hl, hx, h⟩
  simp [g_Wishes_order, n_Wishes_order, eW]
  exact ⟨eLL l, by rw [atI_map, hl]; rfl, _, rfl, eL x, by rw [atI_map, hx]; rfl, by simp, h⟩
theorem eW_eq (c : CA) (b : Bk) : fz (oW c b) = eW c b := by
  unfold oW eW eLLL mD
  simp
theorem law_order (c : CA) : ∀ ds R X, sp_order c ds R X → g_order c { nx := fun _ => R .non, rt := fun d _ => R d, ex := fun C _ => X C } (startD n_order ds) := by
  rintro ds R X ⟨b, s, i, l, x, rfl, hb, hl, hx, h⟩
  simp [g_order, n_order, sp_Wishes_init]
  refine ⟨b, rfl, hb, ?_⟩
  rw [eW_eq]
  refine ⟨⟨_, rfl⟩, ?_⟩
  refine ⟨b, s, i, l, x, ?_, hl, hx, ?_⟩
  · simp [eW, mD]
  · simpa [eW, mD] using h
theorem law_wished (c : CA) : ∀ ds R X, sp_wished c ds R X → g_wished c { nx := fun _ => R .non, rt := fun d _ => R d, ex := fun C _ => X C } (startD n_wished ds) := by
  rintro ds R X ⟨row, rfl, hl, h⟩
  simp [g_wished, n_wished]
  refine turnsI (fun k ρ => ∃ acc x, acc = (row.take k).flatten ∧ ρ = [some (eR row), some (eL acc), x]) ⟨_, _, rfl, rfl⟩ ?_ ?_
  · rintro k g ρ' Q hg ⟨acc, x1, ha, rfl⟩ hQ
    simp
    have h1 := flat_le row (k + 1)
    rw [flat_take hg, List.length_append, ← ha] at h1
    rw [eL_app]
    exact ⟨size_le (by omega), hQ _ ⟨_, _, by rw [flat_take hg, ha], rfl⟩⟩
  · rintro ρ' ⟨acc, x1, ha, rfl⟩
    simp at ha
    simpa [ha] using h
theorem flatAt_nat (a : List (List (List Int))) (i : Nat) (r : List (List Int)) (h : a[i]? = some r) : flatAt a (i : Int) = r.flatten := by
  unfold flatAt
  rw [List.getD_eq_getElem?_getD, Int.toNat_natCast, h]; rfl
theorem nodup_len : ∀ (m : Nat) (l : List Int), l.Nodup → (∀ x ∈ l, 0 ≤ x ∧ x < m) → l.length ≤ m
  | 0, l, _, h => by
    cases l with
    | nil => simp
    | cons x xs => have := h x List.mem_cons_self; omega
  | m + 1, l, nd, h => by
    by_cases hm : (m : Int) ∈ l
    · have h1 := nodup_len m (l.erase m) (nd.erase _) fun x hx => by
        have h2 := (List.Nodup.mem_erase_iff nd).mp hx
        have h3 := h x h2.2
        have h4 := h2.1
        omega
      rw [List.length_erase_of_mem hm] at h1
      omega
    · have h1 := nodup_len m l nd fun x hx => by
        have h3 := h x hx
        have h4 : x ≠ m := fun e => hm (e ▸ hx)
        omega
      omega
theorem okRow.len {r : List (List Int)} {m : Nat} (h : okRow r m) : r.flatten.length ≤ m := nodup_len m _ h.nd h.rg
theorem law_need_row (c : CA) : ∀ ds R X, sp_need_row c ds R X → g_need_row c { nx := fun _ => R .non, rt := fun d _ => R d, ex := fun C _ => X C } (startD n_need_row ds) := by
  rintro ds R X ⟨row, m, rfl, hr, hm, h⟩
  simp [g_need_row, n_need_row, sp_need, sp_is_number]
  refine turnsI (fun k ρ => ∃ acc x y z, acc = (row.take k).flatten ∧ ρ = [some (eR row), some (.int m), some (.lst true (acc.map .int)), x, y, z]) ⟨[], _, _, _, by simp, rfl⟩ ?_ ?_
  · rintro k g ρ' Q1 hg ⟨acc, x, y, z, ha, rfl⟩ hQ1
    have hne : g ≠ [] := hr.ne g (List.mem_of_getElem? hg)
    have fs := flat_split hg
    have nd := hr.nd
    rw [fs, ← ha] at nd
    simp [sp_need, hne]
    refine turnsI (fun j ρ => ∃ last acc' z, acc' = acc ++ g.take j ∧ (j = 0 → last = -1) ∧ (∀ i, j = i + 1 → g[i]? = some last) ∧ ρ = [some (eR row), some (.int m), some (.lst true (acc'.map .int)), some (eG g), some (.int last), z]) ⟨-1, acc, _, by simp, by simp, by simp, rfl⟩ ?_ ?_
    · rintro j n ρ' Q hn ⟨last, acc', z, ha', hl0, hl1, rfl⟩ hQ
      have hmem : n ∈ row.flatten := by rw [fs]; exact List.mem_append_right _ (List.mem_append_left _ (List.mem_of_getElem? hn))
      have hrg := hr.rg n hmem
      have hlast : last < n := by
        cases j with
        | zero => rw [hl0 rfl]; omega
        | succ i =>
          have h1 := hl1 i rfl
          have h2 := List.pairwise_iff_getElem.mp (hr.up g (List.mem_of_getElem? hg))
          obtain ⟨a, b⟩ := List.getElem?_eq_some_iff.mp h1
          obtain ⟨a', b'⟩ := List.getElem?_eq_some_iff.mp hn
          have := h2 i (i + 1) a a' (by omega)
          omega
      have hnot : n ∉ acc' := by
        intro hin
        have gs : g = g.take j ++ n :: g.drop (j + 1) := by
          obtain ⟨a', b'⟩ := List.getElem?_eq_some_iff.mp hn
          have e1 : g.drop j = n :: g.drop (j + 1) := by
            rw [List.drop_eq_getElem_cons a', b']
          rw [← e1, List.take_append_drop]
        rw [gs, ← List.append_assoc, ← List.append_assoc, ← ha'] at nd
        have := (List.nodup_append.mp nd).1
        have := (List.nodup_append.mp this).2.2 n hin n List.mem_cons_self
        exact this rfl
      have hlen : acc'.length < 100 := by
        have h1 := hr.len
        rw [fs, List.length_append, List.length_append] at h1
        rw [← ha] at h1
        have h2 := List.length_take_le' j g
        rw [ha', List.length_append]
        omega
      simp [sp_need, sp_is_number, hlast, hrg.2, hnot]
      refine .inr ⟨size_lt (by omega), hQ _ ⟨n, acc' ++ [n], _, by rw [ha', take_ext hn, List.append_assoc], by simp, fun i hi => ?_, by rw [List.map_append]; rfl⟩⟩
      cases hi; exact hn
    · rintro ρ' ⟨last, acc', z, ha', hl0, hl1, rfl⟩
      exact hQ1 _ ⟨acc', _, _, _, by rw [ha', ha, flat_take hg, List.take_length], rfl⟩
  · rintro ρ' ⟨acc, x, y, z, ha, rfl⟩
    simpa using h
theorem law_need_book (c : CA) : ∀ ds R X, sp_need_book c ds R X → g_need_book c { nx := fun _ => R .non, rt := fun d _ => R d, ex := fun C _ => X C } (startD n_need_book ds) := by
  rintro ds R X ⟨b, rfl, hb, h⟩
  simp [g_need_book, n_need_book, sp_need]
  have l1 := hb.l1
  have l2 := hb.l2
  refine turnsI (enc := eS) (xs := [b.ones, b.others]) (fun k ρ => ∃ x, ρ = [some (eB b), x, none, none]) ⟨_, rfl⟩ ?_ ?_
  · rintro k s ρ' Q hs ⟨x, rfl⟩ hQ
    have hl : 1 ≤ s.length ∧ s.length ≤ 8 := by
      match k, hs with
      | 0, hs => cases hs; exact l1
      | 1, hs => cases hs; exact l2
    have h1 : (1 : Int) ≤ s.length := by omega
    have h8 : (s.length : Int) ≤ 8 := by omega
    simp [sp_need, h1, h8]
    exact .inr (hQ _ ⟨_, rfl⟩)
  · rintro ρ' ⟨x, rfl⟩
    simp
    refine turnsRI (fun k ρ => ∃ x y z, ρ = [some (eB b), x, y, z]) ⟨_, _, _, rfl⟩ ?_ ?_
    · rintro k ρ' Q1 hs ⟨x, y, z, rfl⟩ hQ1
      have hk : k = 0 ∨ k = 1 := by omega
      rcases hk with rfl | rfl
      · simp
        refine turnsI (fun k ρ => ∃ x z, ρ = [some (eB b), x, some (.int 0), z]) ⟨_, _, rfl⟩ ?_ ?_
        · rintro k r ρ' Q hs ⟨x, z, rfl⟩ hQ
          simp [sp_need_row]
          exact ⟨r, b.others.length, ⟨rfl, by simp⟩, hb.r1 r (List.mem_of_getElem? hs), l2.2, hQ _ ⟨_, _, rfl⟩⟩
        · rintro ρ' ⟨x, z, rfl⟩
          exact hQ1 _ ⟨_, _, _, rfl⟩
      · simp
        refine turnsI (fun k ρ => ∃ x z, ρ = [some (eB b), x, some (.int 1), z]) ⟨_, _, rfl⟩ ?_ ?_
        · rintro k r ρ' Q hs ⟨x, z, rfl⟩ hQ
          simp [sp_need_row]
          exact ⟨r, b.ones.length, ⟨rfl, by simp⟩, hb.r2 r (List.mem_of_getElem? hs), l1.2, hQ _ ⟨_, _, rfl⟩⟩
        · rintro ρ' ⟨x, z, rfl⟩
          exact hQ1 _ ⟨_, _, _, rfl⟩
    · rintro ρ' ⟨x, y, z, rfl⟩
      simpa using h
end DL
set_option Elab.async false
set_option linter.all false
set_option maxRecDepth 100000
namespace DL
open PySem L2
/-- what is left, what is made -/
structure RowInv (m : Nat) (left : List Int) (out : List (List Int)) : Prop where
  nd : left.Nodup
  rg : ∀ x ∈ left, 0 ≤ x ∧ x < m
  ok : okRow out m
  dj : ∀ x ∈ left, x ∉ out.flatten
theorem okRow_nil (m : Nat) : okRow [] m := ⟨by simp, by simp, by simp, by simp⟩
theorem RowInv.start (m : Nat) : RowInv m ((List.range m).map fun k : Nat => (k : Int)) [] := by
  refine ⟨?_, ?_, okRow_nil m, by simp⟩
  · refine List.Pairwise.map _ ?_ List.nodup_range
    intro a b h e; exact h (by omega)
  · intro x hx
    obtain ⟨k, hk, rfl⟩ := List.mem_map.mp hx
    have := List.mem_range.mp hk
    omega
theorem RowInv.new {m : Nat} {left : List Int} {out : List (List Int)} {p : Int} (h : RowInv m left out) (hp : p ∈ left) : RowInv m (left.filter (· ≠ p)) (out ++ [[p]]) := by
  have hr := h.rg p hp
  have hd := h.dj p hp
  refine ⟨h.nd.filter _, fun x hx => h.rg x (List.mem_filter.mp hx).1, ⟨?_, ?_, ?_, ?_⟩, ?_⟩
  · intro g hg
    rcases List.mem_append.mp hg with hg | hg
    · exact h.ok.ne g hg
    · simp at hg; subst hg; simp
  · intro g hg
    rcases List.mem_append.mp hg with hg | hg
    · exact h.ok.up g hg
    · simp at hg; subst hg; simp
  · rw [List.flatten_append]
    refine List.nodup_append.mpr ⟨h.ok.nd, by simp, fun a ha b hb e => ?_⟩
    simp at hb; subst hb e; exact hd ha
  · intro x hx
    rw [List.flatten_append] at hx
    rcases List.mem_append.mp hx with hx | hx
    · exact h.ok.rg x hx
    · simp at hx; subst hx; exact hr
  · intro x hx hm
    have hx' := List.mem_filter.mp hx
    rw [List.flatten_append] at hm
    rcases List.mem_append.mp hm with hm | hm
    · exact h.dj x hx'.1 hm
    · simp at hm; subst hm; simp at hx'
theorem RowInv.more {m : Nat} {left : List Int} {out : List (List Int)} {g : List Int} {z p : Int} (h : RowInv m left (out ++ [g ++ [z]])) (hp : p ∈ left) (hz : z < p) : RowInv m (left.filter (· ≠ p)) (out ++ [g ++ [z] ++ [p]]) := by
  have hr := h.rg p hp
  have hd := h.dj p hp
  have ef : (out ++ [g ++ [z] ++ [p]]).flatten = (out ++ [g ++ [z]]).flatten ++ [p] := by simp
  have hg := h.ok.up (g ++ [z]) (by simp)
  refine ⟨h.nd.filter _, fun x hx => h.rg x (List.mem_filter.mp hx).1, ⟨?_, ?_, ?_, ?_⟩, ?_⟩
  · intro g' hg'
    rcases List.mem_append.mp hg' with hg' | hg'
    · exact h.ok.ne g' (List.mem_append_left _ hg')
    · simp at hg'; subst hg'; simp
  · intro g' hg'
    rcases List.mem_append.mp hg' with hg' | hg'
    · exact h.ok.up g' (List.mem_append_left _ hg')
    · rw [List.mem_singleton.mp hg']
      refine List.pairwise_append.mpr ⟨hg, by simp, fun a ha b hb => ?_⟩
      rw [List.mem_singleton.mp hb]
      have h3 := (List.pairwise_append.mp hg).2.2
      rcases List.mem_append.mp ha with ha | ha
      · have := h3 a ha z (by simp); omega
      · rw [List.mem_singleton.mp ha]; exact hz
  · rw [ef]
    refine List.nodup_append.mpr ⟨h.ok.nd, by simp, fun a ha b hb e => ?_⟩
    simp at hb; subst hb e; exact hd ha
  · intro x hx
    rw [ef] at hx
    rcases List.mem_append.mp hx with hx | hx
    · exact h.ok.rg x hx
    · simp at hx; subst hx; exact hr
  · intro x hx hm
    have hx' := List.mem_filter.mp hx
    rw [ef] at hm
    rcases List.mem_append.mp hm with hm | hm
    · exact h.dj x hx'.1 hm
    · simp at hm; subst hm; simp at hx'
theorem ranD_eq (m : Nat) : ranD m = ((List.range m).map fun k : Nat => (k : Int)).map D.int := by
  unfold ranD; rw [List.map_map]; rfl
theorem atI_last {α : Type} (xs : List α) (x : α) : atI (xs ++ [x]) (-1) = some x := by
  unfold atI
  rw [ixN_neg1 (by simp)]
  simp
theorem atI_some {α : Type} {xs : List α} {i : Int} (h0 : 0 ≤ i) (h : i < xs.length) : ∃ x, xs[i.toNat]? = some x ∧ x ∈ xs ∧ atI xs i = some x := by
  have hl : i.toNat < xs.length := by omega
  exact ⟨xs[i.toNat], List.getElem?_eq_getElem hl, List.getElem_mem hl, by rw [atI_ofE xs h0, List.getElem?_eq_getElem hl]⟩
theorem nil_or_last {α : Type} (xs : List α) : xs = [] ∨ ∃ ys y, xs = ys ++ [y] := by
  rcases List.eq_nil_or_concat xs with h | ⟨ys, y, h⟩
  · exact .inl h
  · exact .inr ⟨ys, y, by rw [h]; simp⟩
theorem law_law_row (c : CA) : ∀ ds R X, sp_law_row c ds R X → g_law_row c { nx := fun _ => R .non, rt := fun d _ => R d, ex := fun C _ => X C } (startD n_law_row ds) := by
  rintro ds R X ⟨m, e, rfl, hm, he0, he, h⟩
  simp [g_law_row, n_law_row]
  refine ⟨by omega, ?_⟩
  refine whileI (fun n ρ => ∃ left out x y, n = left.length ∧ RowInv m left out ∧ ρ = [some (.sh diceI), some (.int m), some (.int e), some (eL left), some (.lst true (out.map eG)), x, y]) m
    ⟨(List.range m).map fun k : Nat => (k : Int), [], _, _, by simp, RowInv.start m, by rw [ranD_eq]; rfl⟩ ?_
  rintro n ρ' Q ⟨left, out, x, y, hn, inv, rfl⟩ hQ
  have hlen : left.length ≤ 8 := Nat.le_trans (nodup_len m left inv.nd inv.rg) hm
  have hend : R (D.tup (out.map eG)) := h out inv.ok
  have hol : out.length ≤ 8 := Nat.le_trans (len_flat inv.ok.ne) (Nat.le_trans inv.ok.len hm)
  simp [sp_law_roll]
  by_cases hne : left = []
  · exact .inl ⟨hne, hend⟩
  refine .inr ⟨hne, he0, by omega, fun r hr0 hre => ?_⟩
  by_cases hr : r ≤ 0
  · exact .inl ⟨hr, hend⟩
  have hpos : 0 < left.length := List.length_pos_iff.mpr hne
  refine .inr ⟨by omega, hpos, by omega, fun r2 h20 h2l => ?_⟩
  obtain ⟨p, hp, hmem, hat⟩ := atI_some h20 h2l
  have hfl : (left.filter (· ≠ p)).length < left.length := List.length_filter_lt_length_iff_exists.mpr ⟨p, hmem, by simp⟩
  refine ⟨.int p, by rw [atI_map, hat]; rfl, rfl, lturns_by (fun x => decide (x ≠ p)) D.int (size_lt (by omega)) (fun z hz Q hQ => ?_) ?_⟩
  · simp
    exact hQ _ (fun S hS => by by_cases e : z = p <;> simpa [e] using hS) (by simp)
  · rcases nil_or_last out with ho | ⟨o, g, ho⟩
    · subst ho
      refine .inl ⟨by simp, rfl, size_lt (by simp), hQ _ _ (by rw [hn]; exact hfl) ⟨_, _, some (.int p), y, rfl, inv.new hmem, ?_⟩⟩
      simp [eL, eG]
    · subst ho
      have hg : g ≠ [] := inv.ok.ne g (by simp)
      rcases nil_or_last g with hg' | ⟨g', z, hg'⟩
      · exact absurd hg' hg
      subst hg'
      refine .inr ⟨by simp, eG (g' ++ [z]), by rw [List.map_append]; exact atI_last _ _, _, rfl, .int z, by rw [List.map_append]; exact atI_last _ _, p, rfl, z, rfl, ?_⟩
      by_cases hz : p ≤ z
      · refine .inl ⟨hz, rfl, size_lt (by omega), hQ _ _ (by rw [hn]; exact hfl) ⟨_, _, some (.int p), y, rfl, inv.new hmem, ?_⟩⟩
        simp [eL, eG]
      · refine .inr ⟨by omega, fun r3 _ _ => ?_⟩
        by_cases h3 : r3 = 0
        · refine .inr ⟨h3, ?_⟩
          have hst : ((o ++ [g' ++ [z]]).map eG).set o.length (.tup ((g' ++ [z]).map D.int ++ [.int p])) = (o ++ [g' ++ [z] ++ [p]]).map eG := by
            simp [eG]
          refine ⟨eG (g' ++ [z]), by rw [List.map_append]; exact atI_last _ _, rfl, _, rfl, by simp, rfl, size_le ?_, o.length, by rw [ixN_neg1 (by simp)]; simp, hQ _ _ (by rw [hn]; exact hfl) ⟨_, _, some (.int p), y, rfl, inv.more hmem (by omega), ?_⟩⟩
          · have h5 := inv.ok.len
            simp at h5 ⊢
            omega
          · rw [hst]; simp [eL]
        · refine .inl ⟨h3, rfl, size_lt (by omega), hQ _ _ (by rw [hn]; exact hfl) ⟨_, _, some (.int p), y, rfl, inv.new hmem, ?_⟩⟩
          simp [eL, eG]
end DL
set_option Elab.async false
set_option linter.all false
set_option maxRecDepth 100000
namespace DL
open PySem L2
structure permI (m : Nat) (xs : List Int) : Prop where
  ln : xs.length = m
  nd : xs.Nodup
  rg : ∀ x ∈ xs, 0 ≤ x ∧ x < m
theorem nodup_inj {α : Type} {xs : List α} (h : xs.Nodup) {a b : Nat} (ha : a < xs.length) (hb : b < xs.length) (e : xs[a] = xs[b]) : a = b := by
  have h1 := List.pairwise_iff_getElem.mp h
  rcases Nat.lt_trichotomy a b with q | q | q
  · exact absurd e (h1 a b ha hb q)
  · exact q
  · exact absurd e.symm (h1 b a hb ha q)
theorem permI.swap {m : Nat} {xs : List Int} {j j1 : Nat} {x y : Int} (h : permI m xs) (hx : xs[j]? = some x) (hy : xs[j1]? = some y) : permI m ((xs.set j y).set j1 x) := by
  obtain ⟨hj, ex⟩ := List.getElem?_eq_some_iff.mp hx
  obtain ⟨hj1, ey⟩ := List.getElem?_eq_some_iff.mp hy
  have mx : x ∈ xs := ex ▸ List.getElem_mem hj
  have my : y ∈ xs := ey ▸ List.getElem_mem hj1
  refine ⟨by simp [h.ln], ?_, fun z hz => ?_⟩
  · refine List.pairwise_iff_getElem.mpr fun a b ha hb hab e => ?_
    have ha' : a < xs.length := by simpa using ha
    have hb' : b < xs.length := by simpa using hb
    rw [List.getElem_set, List.getElem_set, List.getElem_set, List.getElem_set] at e
    have key : ∀ c d (hc : c < xs.length) (hd : d < xs.length), xs[c] = xs[d] → c = d := fun c d hc hd q => nodup_inj h.nd hc hd q
    subst ex ey
    split at e
    · split at e
      · omega
      · split at e
        · have := key _ _ _ _ e; omega
        · have := key _ _ _ _ e; omega
    · split at e
      · split at e
        · have := key _ _ _ _ e; omega
        · split at e
          · omega
          · have := key _ _ _ _ e; omega
      · split at e
        · have := key _ _ _ _ e; omega
        · split at e
          · have := key _ _ _ _ e; omega
          · have := key _ _ _ _ e; omega
  · rcases List.mem_or_eq_of_mem_set hz with hz | rfl
    · rcases List.mem_or_eq_of_mem_set hz with hz | rfl
      · exact h.rg z hz
      · exact h.rg _ my
    · exact h.rg _ mx
theorem permI.turned {m : Nat} (hm : 1 ≤ m) (k : Int) : permI m ((List.range m).map fun j : Nat => (k + j) % m) := by
  have m0 : (0 : Int) < m := by omega
  refine ⟨by simp, ?_, fun x hx => ?_⟩
  · refine List.pairwise_map.mpr (List.pairwise_iff_getElem.mpr fun a b ha hb hab e => ?_)
    simp at ha hb e
    have h1 : ((k + a) - (k + b)) % (m : Int) = 0 := by
      rw [Int.sub_emod, e, Int.sub_self]; rfl
    have h2 : (m : Int) ∣ (k + a) - (k + b) := Int.dvd_of_emod_eq_zero h1
    obtain ⟨q, hq⟩ := h2
    have h3 : (m : Int) * q = (a : Int) - b := by omega
    have h4 : q = 0 := by
      rcases Int.lt_trichotomy q 0 with h | h | h
      · have : (m : Int) * q ≤ (m : Int) * (-1) := Int.mul_le_mul_of_nonneg_left (by omega) (by omega)
        omega
      · exact h
      · have : (m : Int) * 1 ≤ (m : Int) * q := Int.mul_le_mul_of_nonneg_left (by omega) (by omega)
        omega
    subst h4
    omega
  · obtain ⟨j, hj, rfl⟩ := List.mem_map.mp hx
    exact ⟨Int.emod_nonneg _ (by omega), Int.emod_lt_of_pos _ m0⟩
theorem permI.row {m : Nat} {xs : List Int} (h : permI m xs) : okRow (xs.map fun n => [n]) m := by
  have e : (xs.map fun n => [n]).flatten = xs := by
    clear h
    induction xs with
    | nil => rfl
    | cons x xs ih => simp [ih]
  refine ⟨?_, ?_, by rw [e]; exact h.nd, by rw [e]; exact h.rg⟩
  · intro g hg
    obtain ⟨n, _, rfl⟩ := List.mem_map.mp hg
    simp
  · intro g hg
    obtain ⟨n, _, rfl⟩ := List.mem_map.mp hg
    simp
theorem sh_fz (m : Nat) (I : List Int → Prop) : fzs (List.replicate m (D.sh I)) = List.replicate m (D.sh I) := by
  rw [fzs_eq_map, List.map_replicate]; rfl
theorem sh_frz (m : Nat) (I : List Int → Prop) : frzs (List.replicate m (D.sh I)) = true := frzs_iff.mpr fun d hd => by
  rw [(List.mem_replicate.mp hd).2]; rfl
theorem law_law_round (c : CA) : ∀ ds R X, sp_law_round c ds R X → g_law_round c { nx := fun _ => R .non, rt := fun d _ => R d, ex := fun C _ => X C } (startD n_law_round ds) := by
  rintro ds R X ⟨m, rfl, hm1, hm8, h⟩
  simp [g_law_round, n_law_round]
  refine ⟨by omega, ?_⟩
  refine turnsRI (fun k ρ => ∃ x, ρ = [some (.sh diceI), some (.int m), some (.lst true (List.replicate k (.sh (permI m)))), some (.lst true (List.replicate k (.sh (permI m)))), x, none, none, none, none, none, none, none]) ⟨none, rfl⟩ ?_ ?_
  · rintro k ρ' Q hk ⟨x, rfl⟩ hQ
    simp
    have m0 : (0 : Int) < m := by omega
    have sz : m < sizeLine := size_lt (by omega)
    refine ⟨by omega, ?_⟩
    refine lturns_all (xs := List.range m) (enc := fun j : Nat => D.int j) (fun j : Nat => D.int (((k : Int) + j) % m)) (by simpa using sz) (fun j hj Q hQ => ?_) ?_
    · simp
      exact hQ _ (by simp) (by simp; exact fun S h => ⟨by omega, h⟩)
    refine ⟨permI m, (List.range m).map fun j : Nat => ((k : Int) + j) % m, by rw [List.map_map]; rfl, permI.turned hm1 k, size_lt (by omega), by omega, ?_⟩
    refine lturns_all (xs := List.range m) (enc := fun j : Nat => D.int j) (fun j : Nat => D.int (((k : Int) + 1 + j) % m)) (by simpa using sz) (fun j hj Q hQ => ?_) ?_
    · simp
      exact hQ _ (by simp) (by simp; exact fun S h => ⟨by omega, h⟩)
    refine ⟨permI m, (List.range m).map fun j : Nat => ((k : Int) + 1 + j) % m, by rw [List.map_map]; rfl, permI.turned hm1 (k + 1), size_lt (by omega), hQ _ ⟨some (.int k), by rw [List.replicate_succ']⟩⟩
  · rintro ρ' ⟨x, rfl⟩
    simp [sp_law_roll]
    rintro r hr0 hr3
    refine ⟨by omega, by omega, ?_⟩
    refine turnsRI (fun k ρ => ∃ o o' x5 x6 x7 x8, ρ = [some (.sh diceI), some (.int m), some (.lst o (List.replicate m (.sh (permI m)))), some (.lst o' (List.replicate m (.sh (permI m)))), x, x5, x6, x7, x8, none, none, none]) ⟨_, _, _, _, _, _, rfl⟩ ?_ ?_
    · rintro k ρ' Q hk ⟨o, o', x5, x6, x7, x8, rfl⟩ hQ
      simp [sp_law_roll, sh_fz, sh_frz]
      rintro r1 h10 h12
      refine ⟨.lst false (List.replicate m (.sh (permI m))), ?_, by omega, by omega, fun r2 h20 h2m => ?_⟩
      · have : r1 = 0 ∨ r1 = 1 := by omega
        rcases this with rfl | rfl <;> rfl
      refine ⟨_, rfl, .sh (permI m), ?_, rfl, by omega, by omega, fun r3 h30 h3m => ⟨permI m, rfl, fun xs hx => ?_⟩⟩
      · rw [atI_ofE _ h20, List.getElem?_replicate, if_pos (by omega)]
      have hl := hx.ln
      have e1 : ixN xs.length r3 = some r3.toNat := ixN_of h30 (by omega)
      have e2 : ∃ j1, j1 < xs.length ∧ ixN xs.length (r3 - 1) = some j1 := by
        by_cases h0 : r3 = 0
        · subst h0
          exact ⟨xs.length - 1, by omega, ixN_neg1 (by omega)⟩
        · exact ⟨(r3 - 1).toNat, by omega, ixN_of (by omega) (by omega)⟩
      obtain ⟨j1, hj1, e2⟩ := e2
      have hj : r3.toNat < xs.length := by omega
      refine ⟨_, e1, _, e2, _, List.getElem?_eq_getElem hj, _, List.getElem?_eq_getElem hj1, hx.swap (List.getElem?_eq_getElem hj) (List.getElem?_eq_getElem hj1), hQ _ ⟨_, _, _, _, _, _, rfl⟩⟩
    · rintro ρ' ⟨o, o', x5, x6, x7, x8, rfl⟩
      simp [sh_fz, sh_frz]
      refine lturnsR (xs := [(), ()]) (enc := fun _ => D.lst false (List.replicate m (.sh (permI m)))) (fun k acc => ∃ sides : List (List (List (List Int))), acc = sides.map eS ∧ sides.length = k ∧ ∀ s ∈ sides, s.length = m ∧ ∀ r ∈ s, okRow r m) ⟨[], rfl, rfl, by simp⟩ ?_ ?_
      · rintro k _ acc Q hk ⟨sides, rfl, hl, hs⟩ hQ
        simp
        refine hQ _ ?_
        simp [sh_frz]
        refine lturnsD (fun k acc => ∃ rows : List (List (List Int)), acc = rows.map eR ∧ rows.length = k ∧ ∀ r ∈ rows, okRow r m) ⟨[], rfl, rfl, by simp⟩ ?_ ?_
        · rintro k2 d acc Q hk2 ⟨rows, rfl, hl2, hs2⟩ hQ
          have hd : d = .sh (permI m) := by
            have := List.mem_of_getElem? hk2
            exact (List.mem_replicate.mp this).2
          subst hd
          have hk2' : k2 < m := by
            have := (List.getElem?_eq_some_iff.mp hk2).1
            simpa using this
          simp
          refine hQ _ ?_
          simp
          rintro xs hx
          refine ⟨by have := hx.ln; omega, ?_, size_lt (by omega), rows ++ [xs.map fun n => [n]], ?_, by simp [hl2], fun r hr => ?_⟩
          · exact frzs_iff.mpr fun d hd => by
              obtain ⟨n, _, rfl⟩ := List.mem_map.mp hd
              simp
          · rw [List.map_append, List.map_singleton, eR, List.map_map]; rfl
          · rcases List.mem_append.mp hr with hr | hr
            · exact hs2 r hr
            · rw [List.mem_singleton.mp hr]; exact hx.row
        · rintro acc ⟨rows, rfl, hl2, hs2⟩
          have hk' : k < 2 := (List.getElem?_eq_some_iff.mp hk).1
          simp
          refine ⟨size_lt (by omega), sides ++ [rows], by rw [List.map_append]; rfl, by simp [hl], fun s hs' => ?_⟩
          rcases List.mem_append.mp hs' with hs' | hs'
          · exact hs s hs'
          · rw [List.mem_singleton.mp hs']
            exact ⟨by simpa using hl2, hs2⟩
      · rintro acc ⟨sides, rfl, hl, hs⟩
        match sides, hl with
        | [a, b], _ =>
          have ha := hs a (by simp)
          have hb := hs b (by simp)
          simp
          exact h ⟨a, b⟩ ⟨by simp only; omega, by simp only; omega, fun r hr => by simp only at *; rw [hb.1]; exact ha.2 r hr, fun r hr => by simp only at *; rw [ha.1]; exact hb.2 r hr⟩ ha.1 hb.1
end DL
set_option Elab.async false
set_option linter.all false
set_option maxRecDepth 100000
namespace DL
open PySem L2
@[simp] theorem ixN_21 : ixN 2 1 = some 1 := by decide
@[simp] theorem ixN_20 : ixN 2 0 = some 0 := by decide
def g_book_tail (c : CA) : DTS := (dSeq (dSet 5 (dTake (dOp gIxL (dLst (dCons (dC (.int 5)) (dCons (dC (.int 12)) (dCons (dC (.int 40)) dNil)))) (dCall (sp_law_roll c) (dCons (dVar 2) (dCons (dC (.int 3)) dNil))))))
    (dSeq (dSet 6 (dCB gTuple (dCons (dLcR (dCons (dOp gIxL (dVar 4) (dC (.int 0))) dNil) (tgName 7) dYes (dCall (sp_law_row c) (dCons (dVar 2) (dCons (dOp gIxL (dVar 4) (dC (.int 1))) (dCons (dVar 5) dNil)))) [7]) dNil)))
    (dRet (dTup (dCons (dTake (dVar 6)) (dCons (dCB gTuple (dCons (dLcR (dCons (dOp gIxL (dVar 4) (dC (.int 1))) dNil) (tgName 7) dYes (dCall (sp_law_row c) (dCons (dVar 2) (dCons (dOp gIxL (dVar 4) (dC (.int 0))) (dCons (dVar 5) dNil)))) [7]) dNil)) dNil))))))
theorem rows_comp {c : CA} {ρ : DEnv} {n m : Nat} {e : Int} {te : DTE} {R : D → Prop} (hn : n ≤ 8) (hm : m ≤ 8) (he : 0 < e ∧ e < 1000)
    (hte : ∀ (d : D) (S : D → Prop), (∀ row, okRow row m → S (eR row)) → te ((ρ.set 7 none).set 7 (some d)) S fun _ => False) (h7 : 7 < ρ.length)
    (hR : ∀ rows : List (List (List Int)), rows.length = n → (∀ r ∈ rows, okRow r m) → R (.lst true (rows.map eR))) : LTurns (ranD n) (tgName 7) dYes te [7] ρ R := by
  refine lturnsD (fun k acc => ∃ rows : List (List (List Int)), acc = rows.map eR ∧ rows.length = k ∧ ∀ r ∈ rows, okRow r m) ⟨[], rfl, rfl, by simp⟩ ?_ ?_
  · rintro k d acc Q hk ⟨rows, rfl, hl, hs⟩ hQ
    simp
    refine ⟨h7, hQ _ ?_⟩
    rw [← List.set_set none]
    have hk' : k < n := by
      have := (List.getElem?_eq_some_iff.mp hk).1
      simpa [ranD] using this
    simp only [e_yes, if_true]
    refine hte d _ fun row hrow => ⟨by rw [List.length_map]; exact size_lt (by omega), rows ++ [row], by rw [List.map_append]; rfl, by simp [hl], fun r hr => ?_⟩
    rcases List.mem_append.mp hr with hr | hr
    · exact hs r hr
    · rw [List.mem_singleton.mp hr]; exact hrow
  · rintro acc ⟨rows, rfl, hl, hs⟩
    exact hR rows (by rw [hl]; simp [ranD]) hs
theorem tail_ok (c : CA) {E : DEnds} {x0 x1 x3 : Option D} {a b : Int} (ha : 1 ≤ a ∧ a ≤ 8) (hb : 1 ≤ b ∧ b ≤ 8) (h : ∀ bk, okBook bk → (bk.ones.length : Int) = a → (bk.others.length : Int) = b → ∀ ρ, E.rt (eB bk) ρ) :
    g_book_tail c E [x0, x1, some (.sh diceI), x3, some (.lst true [.int a, .int b]), none, none, none] := by
  obtain ⟨a', rfl⟩ : ∃ n : Nat, a = n := ⟨a.toNat, by omega⟩
  obtain ⟨b', rfl⟩ : ∃ n : Nat, b = n := ⟨b.toNat, by omega⟩
  simp [g_book_tail, sp_law_roll]
  rintro r hr0 hr3
  have he : ∃ e, atI [D.int 5, D.int 12, D.int 40] r = some (.int e) ∧ 0 < e ∧ e < 1000 := by
    have : r = 0 ∨ r = 1 ∨ r = 2 := by omega
    rcases this with rfl | rfl | rfl
    · exact ⟨5, rfl, by decide, by decide⟩
    · exact ⟨12, rfl, by decide, by decide⟩
    · exact ⟨40, rfl, by decide, by decide⟩
  obtain ⟨e, e1, e2⟩ := he
  refine ⟨.int e, e1, rfl, by omega, ?_⟩
  refine rows_comp (c := c) (m := b') (e := e) (by omega) (by omega) e2 (fun d S hS => ?_) (by simp) fun rows hl hs => ?_
  · simp [sp_law_row]
    exact ⟨b', e, ⟨rfl, rfl⟩, by omega, e2.1, e2.2, hS⟩
  · simp
    refine ⟨by omega, ?_⟩
    refine rows_comp (c := c) (m := a') (e := e) (by omega) (by omega) e2 (fun d S hS => ?_) (by simp) fun rows2 hl2 hs2 => ?_
    · simp [sp_law_row]
      exact ⟨a', e, ⟨rfl, rfl⟩, by omega, e2.1, e2.2, hS⟩
    · simp
      exact h ⟨rows, rows2⟩ ⟨by simp only; omega, by simp only; omega, fun r hr => by simp only at *; rw [hl2]; exact hs r hr, fun r hr => by simp only at *; rw [hl]; exact hs2 r hr⟩ (by simp only; omega) (by simp only; omega) _
theorem law_law_book (c : CA) : ∀ ds R X, sp_law_book c ds R X → g_law_book c { nx := fun _ => R .non, rt := fun d _ => R d, ex := fun C _ => X C } (startD n_law_book ds) := by
  rintro ds R X ⟨ns, m, rfl, hm, hm8, h⟩
  have e : g_law_book c = (dSeq (dSet 2 (dCall (sp_law_dice c) (dCons (dCall (sp_law_cell_at c) (dCons (dVar 0) (dCons (dC (.int 0)) dNil))) dNil)))
    (dSeq (dSet 3 (dOp (gIc (fun _ j => 0 < j) fun i j => .int (i % j)) (dCall (sp_law_cell_at c) (dCons (dVar 0) (dCons (dC (.int 1)) dNil))) (dC (.int 4))))
    (dSeq (dSet 4 (dLst (dCons (dOp (gI fun i j => .int (i + j)) (dC (.int 1)) (dCall (sp_law_roll c) (dCons (dVar 2) (dCons (dVar 1) dNil)))) (dCons (dOp (gI fun i j => .int (i + j)) (dC (.int 1)) (dCall (sp_law_roll c) (dCons (dVar 2) (dCons (dVar 1) dNil)))) dNil))))
    (dSeq (dIf (dTest (dOp gEq (dVar 3) (dC (.int 1)))) (dRet (dCall (sp_law_round c) (dCons (dVar 2) (dCons (dOp (gI fun i j => .int (i + j)) (dC (.int 1)) (dCall (sp_law_roll c) (dCons (dVar 2) (dCons (dVar 1) dNil)))) dNil)))) dSkip)
    (dSeq (dIf (dTest (dOp gEq (dVar 3) (dC (.int 2)))) (sSetItem (dTake (dOp gIxL (dVar 4) (dC (.int 0)))) (pVar 4) (dC (.int 1))) dSkip)
    (g_book_tail c)))))) := rfl
  rw [e]
  simp [n_law_book, sp_law_cell_at, sp_law_dice, sp_law_roll]
  refine ⟨⟨0, rfl⟩, ⟨1, rfl⟩, fun n => ⟨by omega, by omega, fun r hr0 hrm => ⟨by omega, by omega, fun r1 hr10 hr1m => ?_⟩⟩⟩
  by_cases h1 : n % 4 = 1
  · refine .inr ⟨h1, by omega, by omega, fun r2 hr20 hr2m => ?_⟩
    refine ⟨(1 + r2).toNat, ?_, by omega, by omega, fun b hb l1 l2 => h b hb (by omega) (by omega)⟩
    rw [Int.toNat_of_nonneg (by omega)]
  · refine .inl ⟨h1, ?_⟩
    by_cases h2 : n % 4 = 2
    · refine .inr ⟨h2, ?_⟩
      exact tail_ok c (by omega) (by omega) fun bk hb l1 l2 _ => h bk hb (by omega) (by omega)
    · refine .inl ⟨h2, ?_⟩
      exact tail_ok c (by omega) (by omega) fun bk hb l1 l2 _ => h bk hb (by omega) (by omega)
end DL
set_option Elab.async false
set_option linter.all false
set_option maxRecDepth 100000
namespace DL
open PySem L2
def ordRow (a b : List (List (List Int))) (i : Nat) : List Int := (flatAt a (i : Int)).filter fun o => (flatAt b o).contains (i : Int)
theorem ordS_eq (a b : List (List (List Int))) : ordS a b = (List.range a.length).map (ordRow a b) := rfl
theorem flatAt_get {a : List (List (List Int))} {i : Int} (h0 : 0 ≤ i) (h : i < a.length) : ∃ r, a[i.toNat]? = some r ∧ r ∈ a ∧ flatAt a i = r.flatten := by
  have hl : i.toNat < a.length := by omega
  refine ⟨a[i.toNat], List.getElem?_eq_getElem hl, List.getElem_mem hl, ?_⟩
  unfold flatAt
  rw [List.getD_eq_getElem?_getD, List.getElem?_eq_getElem hl]; rfl
/-- one side with the other -/
structure okSides (a b : List (List (List Int))) : Prop where
  la : a.length ≤ 8
  lb : b.length ≤ 8
  ra : ∀ r ∈ a, okRow r b.length
  rb : ∀ r ∈ b, okRow r a.length
theorem okBook.s1 {b : Bk} (h : okBook b) : okSides b.ones b.others := ⟨h.l1.2, h.l2.2, h.r1, h.r2⟩
theorem okBook.s2 {b : Bk} (h : okBook b) : okSides b.others b.ones := ⟨h.l2.2, h.l1.2, h.r2, h.r1⟩
theorem okSides.flat {a b : List (List (List Int))} (h : okSides a b) {i : Nat} (hi : i < a.length) : ∃ r, a[i]? = some r ∧ okRow r b.length ∧ flatAt a (i : Int) = r.flatten := by
  obtain ⟨r, h1, h2, h3⟩ := flatAt_get (a := a) (i := (i : Int)) (by omega) (by omega)
  exact ⟨r, by simpa using h1, h.ra r h2, h3⟩
def oL (xs : List Int) : D := .lst true (xs.map .int)
@[simp] theorem fz_oL (xs : List Int) : fz (oL xs) = eL xs := by simp [oL, eL]
@[simp] theorem fzs_moL (xs : List (List Int)) : fzs (xs.map oL) = xs.map eL := by
  rw [fzs_eq_map, List.map_map]; exact List.map_congr_left fun x _ => fz_oL x
theorem ordRow_len {a b : List (List (List Int))} (h : okSides a b) (i : Nat) : (ordRow a b i).length ≤ 8 := by
  refine Nat.le_trans (List.length_filter_le _ _) ?_
  unfold flatAt
  rw [List.getD_eq_getElem?_getD]
  cases e : a[(i : Int).toNat]? with
  | none => simp
  | some r => exact Nat.le_trans (h.ra r (List.mem_of_getElem? e)).len h.lb
theorem ordS_take {a b : List (List (List Int))} {k : Nat} (hk : k < a.length) : (ordS a b).take (k + 1) = (ordS a b).take k ++ [ordRow a b k] := by
  refine take_ext ?_
  rw [ordS_eq, List.getElem?_map, List.getElem?_range hk]; rfl
theorem ordS_len (a b : List (List (List Int))) : (ordS a b).length = a.length := by rw [ordS_eq]; simp
theorem ordS_all (a b : List (List (List Int))) : (ordS a b).take a.length = ordS a b := by rw [← ordS_len a b, List.take_length]
def g_ord_body (c : CA) : DTS := (dSeq (dSet 5 (dFz (dCall (sp_law_flat c) (dCons (dOp gIxT (dOp gIxT (dVar 0) (dVar 2)) (dVar 4)) dNil))))
            (sAppend (pVar 3)
              (dLcL (dTake (dVar 5)) (tgName 6)
                (dTest
                  (dOp (gIn false) (dVar 4)
                    (dCall (sp_law_flat c)
                      (dCons
                        (dOp gIxT (dOp gIxT (dVar 0) (dOp (gI fun i j => D.int (i - j)) (dC (D.int 1)) (dVar 2)))
                          (dVar 6))
                        dNil))))
                (dTake (dVar 6)) [6])))
theorem orders_inner (c : CA) {b : Bk} {s : Int} {u v : List (List (List Int))} (hs : okSides u v) (h1 : atI [eS b.ones, eS b.others] s = some (eS u)) (h2 : atI [eS b.ones, eS b.others] (1 - s) = some (eS v)) {E : DEnds} {x1 x4 x5 : Option D}
    (hE : ∀ x4 x5, E.nx [some (eB b), x1, some (.int s), some (.lst true ((ordS u v).map oL)), x4, x5, none]) : TurnsR u.length (tgName 4) (g_ord_body c) E [some (eB b), x1, some (.int s), some (.lst true []), x4, x5, none] := by
  refine turnsRI (fun k ρ => ∃ x4 x5, ρ = [some (eB b), x1, some (.int s), some (.lst true (((ordS u v).take k).map oL)), x4, x5, none]) ⟨_, _, rfl⟩ ?_ ?_
  · rintro k ρ' Q hk ⟨x4, x5, rfl⟩ hQ
    obtain ⟨r, hr1, hr2, hr3⟩ := hs.flat hk
    have hl := hr2.len
    have l2 := hs.lb
    simp [g_ord_body, sp_law_flat, h1, h2, -List.map_flatten, -List.length_flatten, -List.map_take]
    refine ⟨eR r, by rw [atI_map, atI_natE, hr1]; rfl, r, by simp, by omega, by simp, ?_⟩
    refine lturns_by (xs := r.flatten) (fun o => decide ((k : Int) ∈ flatAt v o)) D.int (size_lt (by omega)) (fun o ho Q hQ => ?_) ?_
    · obtain ⟨h0, h8⟩ := hr2.rg o ho
      obtain ⟨r2, q1, q2, q3⟩ := flatAt_get h0 h8
      have hl2 := (hs.rb r2 q2).len
      have la := hs.la
      simp [-List.map_flatten, -List.length_flatten, -List.map_take]
      refine hQ _ (fun S hS => ?_) (by simp)
      simp [sp_law_flat, h1, h2, -List.map_flatten, -List.length_flatten, -List.map_take, -List.mem_flatten]
      refine ⟨eR r2, by rw [atI_map, atI_ofE _ h0, q1]; rfl, r2, by simp, by omega, by simp, ?_⟩
      rw [← q3]
      by_cases e : (k : Int) ∈ flatAt v o <;> simpa [e] using hS
    · have e : r.flatten.filter (fun o => decide ((k : Int) ∈ flatAt v o)) = ordRow u v k := by
        unfold ordRow
        rw [hr3]
        refine List.filter_congr fun o _ => ?_
        simp
      rw [e]
      refine ⟨size_lt ?_, hQ _ ⟨some (.int k), some (eL r.flatten), ?_⟩⟩
      · have := hs.la; simp [ordS_len]; omega
      · rw [ordS_take hk, List.map_append]; rfl
  · rintro ρ' ⟨x4, x5, rfl⟩
    rw [ordS_all]
    exact hE _ _
theorem law_law_orders (c : CA) : ∀ ds R X, sp_law_orders c ds R X → g_law_orders c { nx := fun _ => R .non, rt := fun d _ => R d, ex := fun C _ => X C } (startD n_law_orders ds) := by
  rintro ds R X ⟨b, rfl, hb, h⟩
  have e : g_law_orders c = dSeq (dSet 1 (dLst dNil)) (dSeq (dForR (dCons (dC (.int 2)) dNil) (tgName 2) (dSeq (dSet 3 (dLst dNil)) (dSeq (dForR (dCons (dCB gLen (dCons (dOp gIxT (dVar 0) (dVar 2)) dNil)) dNil) (tgName 4) (g_ord_body c))
    (dGhost 3 (sAppend (pVar 1) (dTake (dVar 3))))))) (dRetV 1)) := rfl
  rw [e]
  simp [n_law_orders]
  have l1 := hb.l1
  have l2 := hb.l2
  refine turnsRI (fun k ρ => ∃ x2 x3 x4 x5, ρ = [some (eB b), some (.lst true (((ords b).take k).map eLL)), x2, x3, x4, x5, none]) ⟨_, _, _, _, rfl⟩ ?_ ?_
  · rintro k ρ' Q hk ⟨x2, x3, x4, x5, rfl⟩ hQ
    have hk' : k = 0 ∨ k = 1 := by omega
    rcases hk' with rfl | rfl
    · simp [-List.map_take]
      refine ⟨by omega, ?_⟩
      refine orders_inner c hb.s1 (by rfl) (by rfl) fun x4 x5 => ?_
      simp [-List.map_take]
      refine ⟨size_lt (by decide), hQ _ ⟨some (.int 0), some (eLL (ordS b.ones b.others)), x4, x5, ?_⟩⟩
      simp [ords, eLL]
    · simp [-List.map_take]
      refine ⟨by omega, ?_⟩
      refine orders_inner c hb.s2 (by rfl) (by rfl) fun x4 x5 => ?_
      simp [-List.map_take]
      refine ⟨size_lt (by simp [ords]), hQ _ ⟨some (.int 1), some (eLL (ordS b.others b.ones)), x4, x5, ?_⟩⟩
      simp [ords, eLL]
  · rintro ρ' ⟨x2, x3, x4, x5, rfl⟩
    simpa [ords] using h
def flats (a : List (List (List Int))) : List (List Int) := a.map List.flatten
@[simp] theorem flats_len (a : List (List (List Int))) : (flats a).length = a.length := by simp [flats]
theorem flats_get {a : List (List (List Int))} {i : Int} (h0 : 0 ≤ i) (h : i < a.length) : atI (flats a) i = some (flatAt a i) := by
  obtain ⟨r, h1, h2, h3⟩ := flatAt_get h0 h
  rw [atI_ofE _ h0, flats, List.getElem?_map, h1, h3]; rfl
def g_init_body (c : CA) : DTS := (sAppend (pVar 4)
                    (dLcL (dTake (dOp gIxL (dOp gIxL (dVar 2) (dVar 3)) (dVar 5))) (tgName 7)
                      (dTest
                        (dOp (gIn false) (dVar 5)
                          (dOp gIxL (dOp gIxL (dVar 2) (dOp (gI fun i j => D.int (i - j)) (dC (D.int 1)) (dVar 3)))
                            (dVar 7))))
                      (dTake (dVar 7)) [7]))
theorem init_inner (c : CA) {l : List (List (List (List Int)))} {s : Int} {u v : List (List (List Int))} (hs : okSides u v) (h1 : atI (l.map fun a => eLL (flats a)) s = some (eLL (flats u))) (h2 : atI (l.map fun a => eLL (flats a)) (1 - s) = some (eLL (flats v))) {E : DEnds} {x0 x1 x5 : Option D}
    (hE : ∀ x5, E.nx [x0, x1, some (.lst false (l.map fun a => eLL (flats a))), some (.int s), some (.lst true ((ordS u v).map oL)), x5, none, none]) :
    TurnsR u.length (tgName 5) (g_init_body c) E [x0, x1, some (.lst false (l.map fun a => eLL (flats a))), some (.int s), some (.lst true []), x5, none, none] := by
  refine turnsRI (fun k ρ => ∃ x5, ρ = [x0, x1, some (.lst false (l.map fun a => eLL (flats a))), some (.int s), some (.lst true (((ordS u v).take k).map oL)), x5, none, none]) ⟨_, rfl⟩ ?_ ?_
  · rintro k ρ' Q hk ⟨x5, rfl⟩ hQ
    obtain ⟨r, hr1, hr2, hr3⟩ := hs.flat hk
    have hl := hr2.len
    have l2 := hs.lb
    have hk2 := flats_get (a := u) (i := (k : Int)) (by omega) (by omega)
    simp [g_init_body, h1, h2, -List.map_flatten, -List.length_flatten, -List.map_take]
    refine ⟨eL (flatAt u k), by rw [atI_map, hk2]; rfl, by simp, _, rfl, by simp, ?_⟩
    rw [hr3]
    refine lturns_by (xs := r.flatten) (fun o => decide ((k : Int) ∈ flatAt v o)) D.int (size_lt (by omega)) (fun o ho Q hQ => ?_) ?_
    · obtain ⟨h0, h8⟩ := hr2.rg o ho
      have hg := flats_get h0 h8
      simp [-List.map_flatten, -List.length_flatten, -List.map_take]
      refine hQ _ (fun S hS => ?_) (by simp)
      simp [h1, h2, -List.map_flatten, -List.length_flatten, -List.map_take, -List.mem_flatten]
      refine ⟨eL (flatAt v o), by rw [atI_map, hg]; rfl, _, rfl, by simp, ?_⟩
      by_cases e : (k : Int) ∈ flatAt v o <;> simpa [e] using hS
    · have e : r.flatten.filter (fun o => decide ((k : Int) ∈ flatAt v o)) = ordRow u v k := by
        unfold ordRow
        rw [hr3]
        refine List.filter_congr fun o _ => ?_
        simp
      rw [e]
      refine ⟨size_lt ?_, hQ _ ⟨some (.int k), ?_⟩⟩
      · have := hs.la; simp [ordS_len]; omega
      · rw [ordS_take hk, List.map_append]; rfl
  · rintro ρ' ⟨x5, rfl⟩
    rw [ordS_all]
    exact hE _
theorem law_Wishes_init (c : CA) : ∀ d0 ds R X, sp_Wishes_init c d0 ds R X → g_Wishes_init c { nx := fun ρ => ∃ d, ρ[0]? = some (some d) ∧ R .non d, rt := fun r ρ => ∃ d, ρ[0]? = some (some d) ∧ R r d, ex := fun C _ => X C } (startD n_Wishes_init (d0 :: ds)) := by
  rintro d0 ds R X ⟨b, rfl, rfl, hb, h⟩
  have e : g_Wishes_init c = (dSeq (dDrop (dCall (sp_need_book c) (dCons (dVar 1) dNil)))
    (dSeq (sNewFld c.Wishes [] "many" (dTup (dCons (dCB gLen (dCons (dOp gIxT (dVar 1) (dC (.int 0))) dNil)) (dCons (dCB gLen (dCons (dOp gIxT (dVar 1) (dC (.int 1))) dNil)) dNil))) (pVar 0))
    (dSeq (dSet 2 (dFz (dLcT (dVar 1) (tgName 4) dYes (dLcT (dVar 4) (tgName 6) dYes (dCall (sp_wished c) (dCons (dVar 6) dNil)) [6]) [4])))
    (dSeq (sNewFld c.Wishes ["many"] "orders" (dLst dNil) (pVar 0))
    (dForR (dCons (dC (.int 2)) dNil) (tgName 3) (dSeq (dSet 4 (dLst dNil))
    (dSeq (dForR (dCons (dCB gLen (dCons (dOp gIxL (dVar 2) (dVar 3)) dNil)) dNil) (tgName 5) (g_init_body c))
    (dGhost 4 (sAppend (pFld c.Wishes ["many", "orders"] 1 (pVar 0)) (dTake (dVar 4))))))))))) := rfl
  rw [e]
  simp [n_Wishes_init, sp_need_book]
  refine ⟨b, rfl, hb, ?_⟩
  have l1 := hb.l1
  have l2 := hb.l2
  have hsd : ∀ s ∈ [b.ones, b.others], s.length ≤ 8 ∧ ∀ r ∈ s, r.flatten.length ≤ 8 := by
    intro s hs
    simp at hs
    rcases hs with rfl | rfl
    · exact ⟨l1.2, fun r hr => Nat.le_trans (hb.r1 r hr).len l2.2⟩
    · exact ⟨l2.2, fun r hr => Nat.le_trans (hb.r2 r hr).len l1.2⟩
  refine lturns_all (xs := [b.ones, b.others]) (enc := eS) (fun s => .lst true ((flats s).map eL)) (size_lt (by simp)) (fun s hs Q hQ => ?_) ?_
  · simp
    refine hQ _ (by simp) fun S hS => ?_
    simp
    refine lturns_all (xs := s) (enc := eR) (fun r => eL r.flatten) (size_lt (by have := (hsd s hs).1; omega)) (fun r hr Q hQ => ?_) ?_
    · simp
      refine hQ _ (by simp) fun S hS => ?_
      simp [sp_wished, -List.map_flatten, -List.length_flatten]
      exact ⟨r, rfl, by have := (hsd s hs).2 r hr; omega, hS⟩
    · have e3 : (flats s).map eL = s.map fun r => eL r.flatten := by unfold flats; rw [List.map_map]; rfl
      rw [e3] at hS; exact hS
  have e2 : fz (D.lst true ([b.ones, b.others].map fun s => .lst true ((flats s).map eL))) = .lst false ([b.ones, b.others].map fun a => eLL (flats a)) := by
    simp [eLL]
  rw [e2]
  refine turnsRI (fun k ρ => ∃ x3 x4 x5, ρ = [some (.ins true c.Wishes ["many", "orders"] [mD b, .lst true (((ords b).take k).map eLL)]), some (eB b), some (.lst false ([b.ones, b.others].map fun a => eLL (flats a))), x3, x4, x5, none, none]) ⟨_, _, _, rfl⟩ ?_ ?_
  · rintro k ρ' Q hk ⟨x3, x4, x5, rfl⟩ hQ
    have hk' : k = 0 ∨ k = 1 := by omega
    rcases hk' with rfl | rfl
    · simp [-List.map_take, -List.map_cons]
      refine ⟨by omega, init_inner c (l := [b.ones, b.others]) hb.s1 rfl rfl fun x5 => ?_⟩
      simp [-List.map_take, -List.map_cons]
      refine ⟨size_lt (by decide), hQ _ ⟨some (.int 0), some (eLL (ordS b.ones b.others)), x5, ?_⟩⟩
      simp [ords, eLL]
    · simp [-List.map_take, -List.map_cons]
      refine ⟨by omega, init_inner c (l := [b.ones, b.others]) hb.s2 rfl rfl fun x5 => ?_⟩
      simp [-List.map_take, -List.map_cons]
      refine ⟨size_lt (by simp [ords]), hQ _ ⟨some (.int 1), some (eLL (ordS b.others b.ones)), x5, ?_⟩⟩
      simp [ords, eLL]
  · rintro ρ' ⟨x3, x4, x5, rfl⟩
    simpa [ords, oW] using h
end DL
set_option Elab.async false
set_option linter.all false
set_option maxRecDepth 100000
namespace DL
open PySem L2
/-! ### texts -/
theorem sapp (a b c : Str) : a ++ b ++ c = a ++ (b ++ c) := by
  show Str.append (Str.append a b) c = Str.append a (Str.append b c)
  simp [Str.append, Array.append_assoc]
theorem slen_app (a b : Str) : (a ++ b).length = a.length + b.length := by
  show (Str.append a b).length = _
  simp [Str.append, Str.length]
theorem join_cons (sep x : Str) : ∀ ys : List Str, ys ≠ [] → Str.join sep (x :: ys) = x ++ sep ++ Str.join sep ys
  | [], h => absurd rfl h
  | y :: ys, _ => rfl
theorem join_app (sep a b : Str) (ys : List Str) : Str.join sep ((a ++ b) :: ys) = a ++ Str.join sep (b :: ys) := by
  cases ys with
  | nil => rfl
  | cons y ys =>
    show a ++ b ++ sep ++ Str.join sep (y :: ys) = a ++ (b ++ sep ++ Str.join sep (y :: ys))
    rw [sapp, sapp, sapp]
theorem join_fold (sep : Str) : ∀ (gs : List Str) (h : Str), Str.join sep (h :: gs) = gs.foldl (fun t g => t ++ sep ++ g) h
  | [], h => rfl
  | g :: gs, h => by
    rw [List.foldl_cons, ← join_fold sep gs, join_cons _ _ _ (by simp), join_app]
theorem slen_join (sep : Str) (m : Nat) : ∀ ys : List Str, (∀ y ∈ ys, y.length ≤ m) → (Str.join sep ys).length ≤ ys.length * (m + sep.length)
  | [], _ => Nat.le_of_eq (by simp [Str.join]; rfl)
  | [y], h => by
    have := h y (by simp)
    show y.length ≤ _
    simp; omega
  | y :: z :: ys, h => by
    have h1 := h y (by simp)
    have h2 := slen_join sep m (z :: ys) fun w hw => h w (List.mem_cons_of_mem _ hw)
    rw [join_cons _ _ _ (by simp), slen_app, slen_app]
    rw [List.length_cons, Nat.succ_mul]
    omega
theorem slen_sum (m : Nat) : ∀ ys : List Str, (∀ y ∈ ys, y.length ≤ m) → (ys.map (·.length)).sum ≤ ys.length * m
  | [], _ => by simp
  | y :: ys, h => by
    have h1 := h y (by simp)
    have h2 := slen_sum m ys fun w hw => h w (List.mem_cons_of_mem _ hw)
    rw [List.map_cons, List.sum_cons, List.length_cons, Nat.succ_mul]
    omega
theorem strI_len {i : Int} (h0 : 0 ≤ i) (h8 : i < 8) : (strI i).length = 1 ∧ PyData.strOk (strI i) = true := by
  have : i = 0 ∨ i = 1 ∨ i = 2 ∨ i = 3 ∨ i = 4 ∨ i = 5 ∨ i = 6 ∨ i = 7 := by omega
  rcases this with rfl | rfl | rfl | rfl | rfl | rfl | rfl | rfl <;> exact ⟨by decide +kernel, by decide +kernel⟩
def gT (g : List Int) : Str := Str.join "=" (g.map strI)
def hdT (w : Str) (n : Int) : Str := w ++ " " ++ strI n ++ ":"
def rowT (w : Str) (n : Int) (row : List (List Int)) : Str := Str.join " " (hdT w n :: row.map gT)
def rowsT (w : Str) (side : List (List (List Int))) : List Str := (List.range side.length).map fun k : Nat => rowT w k (side.getD k [])
def bookT (b : Bk) : Str := Str.join "\n" (rowsT "one" b.ones ++ rowsT "other" b.others)
def sp_row_text (c : CA) : DSp := fun ds R _ => ∃ (w : Str) (n : Nat) (row : List (List Int)) (m : Nat), ds = [.str w, .int n, eR row] ∧ w.length ≤ 5 ∧ n < 8 ∧ m ≤ 8 ∧ okRow row m ∧ R (.str (rowT w n row))
def sp_written (c : CA) : DSp := fun ds R _ => ∃ b : Bk, ds = [eB b] ∧ okBook b ∧ R (.str (bookT b))
def sp_law_text (c : CA) : DSp := fun ds R _ => ∃ b : Bk, ds = [eB b] ∧ okBook b ∧ R (.str (bookT b))
def n_row_text : List Str := ["word", "number", "row", "groups", "group", "one"]
def g_row_text (c : CA) : DTS :=
  (dSeq (dSet 3 (dFz (dLcT (dVar 2) (tgName 4) dYes (dJoin (dC (.str "=")) (dLcT (dVar 4) (tgName 5) dYes (dCB gStrI (dCons (dVar 5) dNil)) [5])) [4])))
    (dRet (dJoin (dC (.str " ")) (dOp (gCat) (dLst (dCons (dOp (gAddS) (dOp (gAddS) (dOp (gAddS) (dVar 0) (dC (.str " "))) (dCB gStrI (dCons (dVar 1) dNil))) (dC (.str ":"))) dNil)) (dVar 3)))))
def n_written : List Str := ["book", "rows", "side", "number"]
def g_written (c : CA) : DTS :=
  (dSeq (dDrop (dCall (sp_need_book c) (dCons (dVar 0) dNil)))
    (dSeq (dSet 1 (dLst dNil))
    (dSeq (dForR (dCons (dC (.int 2)) dNil) (tgName 2) (dForR (dCons (dCB gLen (dCons (dOp gIxT (dVar 0) (dVar 2)) dNil)) dNil) (tgName 3) (sAppend (pVar 1) (dCall (sp_row_text c) (dCons (dOp gIxT (dC (.tup [.str "one", .str "other"])) (dVar 2)) (dCons (dVar 3) (dCons (dOp gIxT (dOp gIxT (dVar 0) (dVar 2)) (dVar 3)) dNil)))))))
    (dRet (dJoin (dC (.str "\n")) (dVar 1))))))
def n_law_text : List Str := ["_law_book_here", "_law_rows", "_law_word", "_law_side", "_law_number", "_law_text_here", "_law_group", "_law_one"]
def g_law_text (c : CA) : DTS :=
  (dSeq (dSet 1 (dLst dNil))
    (dSeq (dForL (dLst (dCons (dTup (dCons (dC (.str "one")) (dCons (dTake (dOp gIxT (dVar 0) (dC (.int 0)))) dNil))) (dCons (dTup (dCons (dC (.str "other")) (dCons (dTake (dOp gIxT (dVar 0) (dC (.int 1)))) dNil))) dNil))) (tgTup2 2 3) (dForR (dCons (dCB gLen (dCons (dVar 3) dNil)) dNil) (tgName 4) (dSeq (dSet 5 (dOp (gAddS) (dOp (gAddS) (dOp (gAddS) (dVar 2) (dC (.str " "))) (dCB gStrI (dCons (dVar 4) dNil))) (dC (.str ":"))))
    (dSeq (dForT (dOp gIxT (dVar 3) (dVar 4)) (tgName 6) (dSet 5 (dOp (gAddS) (dOp (gAddS) (dVar 5) (dC (.str " "))) (dJoin (dC (.str "=")) (dLcT (dVar 6) (tgName 7) dYes (dCB gStrI (dCons (dVar 7) dNil)) [7])))))
    (sAppend (pVar 1) (dTake (dVar 5)))))))
    (dRet (dJoin (dC (.str "\n")) (dVar 1)))))
theorem gT_len {row : List (List Int)} {m : Nat} (h : okRow row m) (hm : m ≤ 8) {g : List Int} (hg : g ∈ row) : g.length ≤ 8 ∧ (∀ x ∈ g, 0 ≤ x ∧ x < 8) ∧ (gT g).length ≤ 16 := by
  have hl : g.length ≤ row.flatten.length := by
    obtain ⟨k, hk⟩ := List.mem_iff_getElem?.mp hg
    rw [flat_split hk]; simp; omega
  have h1 := h.len
  have hx : ∀ x ∈ g, 0 ≤ x ∧ x < 8 := fun x hx => by
    have := h.rg x (List.mem_flatten.mpr ⟨g, hg, hx⟩)
    omega
  refine ⟨by omega, hx, ?_⟩
  have h2 := slen_join "=" 1 (g.map strI) fun y hy => by
    obtain ⟨x, hx', rfl⟩ := List.mem_map.mp hy
    exact Nat.le_of_eq (strI_len (hx x hx').1 (hx x hx').2).1
  rw [List.length_map] at h2
  have e : ("=" : Str).length = 1 := by decide +kernel
  rw [e] at h2
  unfold gT
  omega
theorem law_row_text (c : CA) : ∀ ds R X, sp_row_text c ds R X → g_row_text c { nx := fun _ => R .non, rt := fun d _ => R d, ex := fun C _ => X C } (startD n_row_text ds) := by
  rintro ds R X ⟨w, n, row, m, rfl, hw, hn, hm, hr, h⟩
  simp [g_row_text, n_row_text]
  have hrl : row.length ≤ 8 := Nat.le_trans (len_flat hr.ne) (Nat.le_trans hr.len hm)
  have lsp : (" " : Str).length = 1 := by decide +kernel
  have lco : (":" : Str).length = 1 := by decide +kernel
  have leq : ("=" : Str).length = 1 := by decide +kernel
  have hsn := (strI_len (i := (n : Int)) (by omega) (by omega)).1
  have lhd : (hdT w n).length ≤ 8 := by unfold hdT; rw [slen_app, slen_app, slen_app, lsp, lco, hsn]; omega
  refine lturns_all (xs := row) (fun g => D.str (gT g)) (size_lt (by omega)) (fun g hg Q hQ => ?_) ?_
  · obtain ⟨g1, g2, g3⟩ := gT_len hr hm hg
    simp
    refine hQ _ (by simp) fun S hS => ?_
    simp
    refine lturns_all (xs := g) (fun x => D.str (strI x)) (size_lt (by omega)) (fun x hx Q hQ => ?_) ?_
    · simp
      refine hQ _ (by simp) fun S hS => ?_
      have hx' := g2 x hx
      have hlog : x.natAbs.log2 < 1920 := by
        have : x.natAbs < 8 := by omega
        have h1 := Nat.log2_le_self x.natAbs
        omega
      simp
      exact ⟨hlog, hS⟩
    · refine ⟨g.map strI, by rw [List.map_map]; rfl, ?_, by rw [TL.join_eq]; exact hS⟩
      have h1 := slen_sum 1 (g.map strI) fun y hy => by
        obtain ⟨x, hx', rfl⟩ := List.mem_map.mp hy
        exact Nat.le_of_eq (strI_len (g2 x hx').1 (g2 x hx').2).1
      rw [List.length_map] at h1 ⊢
      rw [leq]
      omega
  · have hlog : n.log2 < 1920 := by
      have h1 := Nat.log2_le_self n
      omega
    have e1 : listD (fz (D.lst true (row.map fun g => D.str (gT g)))) = some ((row.map gT).map D.str) := by
      rw [fz_lst, fzs_map (fun _ => rfl), List.map_map]; rfl
    refine ⟨size_le (by rw [lsp]; omega), hlog, size_le (by rw [slen_app, lsp, hsn]; omega), size_le (by rw [slen_app, slen_app, lsp, hsn, lco]; omega), _, e1, frzs_map (fun _ => rfl) _, size_le (by simp; omega), hdT w n :: row.map gT, rfl, ?_, by rw [TL.join_eq]; exact h⟩
    have h1 := slen_sum 16 (hdT w n :: row.map gT) fun y hy => by
      rcases List.mem_cons.mp hy with q | q
      · rw [q]; omega
      · obtain ⟨g, hg, rfl⟩ := List.mem_map.mp q
        exact (gT_len hr hm hg).2.2
    rw [List.length_cons, List.length_map] at h1 ⊢
    rw [lsp]
    omega
theorem rowT_len {w : Str} {n : Nat} {row : List (List Int)} {m : Nat} (hw : w.length ≤ 5) (hn : n < 8) (hm : m ≤ 8) (hr : okRow row m) : (rowT w n row).length ≤ 200 := by
  have hrl : row.length ≤ 8 := Nat.le_trans (len_flat hr.ne) (Nat.le_trans hr.len hm)
  have lsp : (" " : Str).length = 1 := by decide +kernel
  have lco : (":" : Str).length = 1 := by decide +kernel
  have hsn := (strI_len (i := (n : Int)) (by omega) (by omega)).1
  have lhd : (hdT w n).length ≤ 8 := by unfold hdT; rw [slen_app, slen_app, slen_app, lsp, lco, hsn]; omega
  have h1 := slen_join " " 16 (hdT w n :: row.map gT) fun y hy => by
    rcases List.mem_cons.mp hy with q | q
    · rw [q]; omega
    · obtain ⟨g, hg, rfl⟩ := List.mem_map.mp q
      exact (gT_len hr hm hg).2.2
  rw [List.length_cons, List.length_map, lsp] at h1
  unfold rowT
  omega
theorem rowsT_take {w : Str} {side : List (List (List Int))} {k : Nat} (hk : k < side.length) : ((List.range (k + 1)).map fun k : Nat => rowT w k (side.getD k [])) = ((List.range k).map fun k : Nat => rowT w k (side.getD k [])) ++ [rowT w k (side.getD k [])] := by
  rw [List.range_succ, List.map_append]; rfl
theorem rowsT_len {w : Str} {u v : List (List (List Int))} (hs : okSides u v) (hw : w.length ≤ 5) {y : Str} (hy : y ∈ rowsT w u) : y.length ≤ 200 := by
  obtain ⟨k, hk, rfl⟩ := List.mem_map.mp hy
  have hk' := List.mem_range.mp hk
  have h2 : u.getD k [] = u[k] := by rw [List.getD_eq_getElem?_getD, List.getElem?_eq_getElem hk']; rfl
  rw [h2]
  have := hs.la
  exact rowT_len hw (by omega) hs.lb (hs.ra _ (List.getElem_mem hk'))
theorem law_written (c : CA) : ∀ ds R X, sp_written c ds R X → g_written c { nx := fun _ => R .non, rt := fun d _ => R d, ex := fun C _ => X C } (startD n_written ds) := by
  rintro ds R X ⟨b, rfl, hb, h⟩
  have l1 := hb.l1
  have l2 := hb.l2
  simp [g_written, n_written, sp_need_book]
  refine ⟨b, rfl, hb, ?_⟩
  refine turnsRI (fun k ρ => ∃ acc x2 x3, acc = (if k = 0 then [] else if k = 1 then rowsT "one" b.ones else rowsT "one" b.ones ++ rowsT "other" b.others) ∧ ρ = [some (eB b), some (.lst true (acc.map .str)), x2, x3]) ⟨[], none, none, rfl, rfl⟩ ?_ ?_
  · rintro k ρ' Q hk ⟨acc, x2, x3, hacc, rfl⟩ hQ
    have key : ∃ (u v : List (List (List Int))) (w : Str), okSides u v ∧ w.length ≤ 5 ∧ acc.length ≤ 8 ∧ atI [eS b.ones, eS b.others] (k : Int) = some (eS u) ∧ atI [D.str "one", D.str "other"] (k : Int) = some (.str w) ∧
        (acc ++ rowsT w u) = (if k + 1 = 0 then [] else if k + 1 = 1 then rowsT "one" b.ones else rowsT "one" b.ones ++ rowsT "other" b.others) := by
      have hk' : k = 0 ∨ k = 1 := by omega
      rcases hk' with rfl | rfl
      · exact ⟨_, _, "one", hb.s1, by decide +kernel, by rw [hacc]; simp, rfl, rfl, by rw [hacc]; simp⟩
      · exact ⟨_, _, "other", hb.s2, by decide +kernel, by rw [hacc]; simp [rowsT]; omega, rfl, rfl, by rw [hacc]; simp⟩
    obtain ⟨u, v, w, hs, hw, hal, a1, a2, a3⟩ := key
    have la := hs.la
    have lb := hs.lb
    simp [a1]
    refine ⟨by omega, ?_⟩
    refine turnsRI (fun j ρ => ∃ x3, ρ = [some (eB b), some (.lst true ((acc ++ (List.range j).map fun k : Nat => rowT w k (u.getD k [])).map .str)), some (.int k), x3]) ⟨x3, by simp⟩ ?_ ?_
    · rintro j ρ' Q hj ⟨x3, rfl⟩ hQ
      have h1 : u[j]? = some u[j] := List.getElem?_eq_getElem hj
      have h2 : u.getD j [] = u[j] := by rw [List.getD_eq_getElem?_getD, h1]; rfl
      simp [a1, a2, sp_row_text, -List.map_append]
      refine ⟨eR u[j], by rw [atI_map, atI_natE, h1]; rfl, w, j, u[j], ⟨rfl, rfl, by simp⟩, hw, by omega, v.length, lb, hs.ra _ (List.getElem_mem hj), size_lt (by omega), hQ _ ⟨some (.int j), ?_⟩⟩
      rw [rowsT_take hj, h2, ← List.append_assoc, List.map_append (l₂ := [_])]
      simp
    · rintro ρ' ⟨x3, rfl⟩
      exact hQ _ ⟨_, _, _, a3, rfl⟩
  · rintro ρ' ⟨acc, x2, x3, hacc, rfl⟩
    simp at hacc
    have lnl : ("\n" : Str).length = 1 := by decide +kernel
    simp
    refine ⟨acc, rfl, ?_, by rw [TL.join_eq, hacc]; exact h⟩
    have h1 := slen_sum 200 acc fun y hy => by
      rw [hacc] at hy
      rcases List.mem_append.mp hy with q | q
      · exact rowsT_len hb.s1 (by decide +kernel) q
      · exact rowsT_len hb.s2 (by decide +kernel) q
    have h2 : acc.length ≤ 16 := by rw [hacc]; simp [rowsT]; omega
    rw [lnl]
    omega
theorem law_law_text (c : CA) : ∀ ds R X, sp_law_text c ds R X → g_law_text c { nx := fun _ => R .non, rt := fun d _ => R d, ex := fun C _ => X C } (startD n_law_text ds) := by
  rintro ds R X ⟨b, rfl, hb, h⟩
  have l1 := hb.l1
  have l2 := hb.l2
  have lsp : (" " : Str).length = 1 := by decide +kernel
  have lco : (":" : Str).length = 1 := by decide +kernel
  have leq : ("=" : Str).length = 1 := by decide +kernel
  have lnl : ("\n" : Str).length = 1 := by decide +kernel
  simp [g_law_text, n_law_text]
  refine turnsI (xs := [(("one" : Str), b.ones), (("other" : Str), b.others)]) (enc := fun q => D.tup [.str q.1, eS q.2]) (fun k ρ => ∃ acc x2 x3 x4 x5 x6, acc = (if k = 0 then [] else if k = 1 then rowsT "one" b.ones else rowsT "one" b.ones ++ rowsT "other" b.others) ∧ ρ = [some (eB b), some (.lst true (acc.map .str)), x2, x3, x4, x5, x6, none]) ⟨[], none, none, none, none, none, rfl, rfl⟩ ?_ ?_
  · rintro k q ρ' Q hq ⟨acc, x2, x3, x4, x5, x6, hacc, rfl⟩ hQ
    have key : ∃ v : List (List (List Int)), okSides q.2 v ∧ q.1.length ≤ 5 ∧ acc.length ≤ 8 ∧ (acc ++ rowsT q.1 q.2) = (if k + 1 = 0 then [] else if k + 1 = 1 then rowsT "one" b.ones else rowsT "one" b.ones ++ rowsT "other" b.others) := by
      have hk' : k = 0 ∨ k = 1 := by
        have := (List.getElem?_eq_some_iff.mp hq).1
        simp at this; omega
      rcases hk' with rfl | rfl
      · cases hq
        exact ⟨_, hb.s1, (by show ("one" : Str).length ≤ 5; decide +kernel), by rw [hacc]; simp, by rw [hacc]; simp⟩
      · cases hq
        exact ⟨_, hb.s2, (by show ("other" : Str).length ≤ 5; decide +kernel), by rw [hacc]; simp [rowsT]; omega, by rw [hacc]; simp⟩
    obtain ⟨v, hs, hw, hal, a3⟩ := key
    obtain ⟨w, u⟩ := q
    have la := hs.la
    have lb := hs.lb
    simp only at hw hs a3 la
    simp
    refine ⟨.str w, eS u, ⟨rfl, rfl⟩, rfl, by simp, u.map eR, rfl, by simp; omega, ?_⟩
    rw [List.length_map]
    refine turnsRI (fun j ρ => ∃ x4 x5 x6, ρ = [some (eB b), some (.lst true ((acc ++ (List.range j).map fun k : Nat => rowT w k (u.getD k [])).map .str)), some (.str w), some (eS u), x4, x5, x6, none]) ⟨x4, x5, x6, by simp⟩ ?_ ?_
    · rintro j ρ' Q hj ⟨x4, x5, x6, rfl⟩ hQ
      have h1 : u[j]? = some u[j] := List.getElem?_eq_getElem hj
      have h2 : u.getD j [] = u[j] := by rw [List.getD_eq_getElem?_getD, h1]; rfl
      have hr := hs.ra _ (List.getElem_mem hj)
      have hsn := (strI_len (i := (j : Int)) (by omega) (by omega)).1
      have hlog : j.log2 < 1920 := by
        have := Nat.log2_le_self j
        omega
      have lhd : (hdT w j).length ≤ 8 := by unfold hdT; rw [slen_app, slen_app, slen_app, lsp, lco, hsn]; omega
      have hrl : u[j].length ≤ 8 := Nat.le_trans (len_flat hr.ne) (Nat.le_trans hr.len lb)
      simp [-List.map_append]
      refine ⟨size_le (by rw [lsp]; omega), hlog, size_le (by rw [slen_app, lsp, hsn]; omega), size_le (by rw [slen_app, slen_app, lsp, hsn, lco]; omega), eR u[j], by rw [atI_map, atI_natE, h1]; rfl, _, rfl, by simp, ?_⟩
      refine turnsI (xs := u[j]) (enc := eG) (fun k ρ => ∃ t x6, t = ((u[j].take k).map gT).foldl (fun (t g : Str) => t ++ (" " : Str) ++ g) (hdT w j) ∧ t.length ≤ 8 + 17 * k ∧
        ρ = [some (eB b), some (.lst true ((acc ++ (List.range j).map fun k : Nat => rowT w k (u[k]?.getD [])).map .str)), some (.str w), some (eS u), some (.int j), some (.str t), x6, none]) ⟨hdT w j, x6, rfl, by omega, rfl⟩ ?_ ?_
      · rintro k g ρ' Q hg ⟨t, x6, ht, htl, rfl⟩ hQ
        have hk8 : k < u[j].length := (List.getElem?_eq_some_iff.mp hg).1
        obtain ⟨g1, g2, g3⟩ := gT_len hr lb (List.mem_of_getElem? hg)
        simp [-List.map_append]
        refine ⟨size_le (by rw [lsp]; omega), ?_⟩
        refine lturns_all (xs := g) (fun x => D.str (strI x)) (size_lt (by omega)) (fun x hx Q hQ => ?_) ?_
        · simp
          refine hQ _ (by simp) fun S hS => ?_
          have hx' := g2 x hx
          have hlog : x.natAbs.log2 < 1920 := by
            have : x.natAbs < 8 := by omega
            have h1 := Nat.log2_le_self x.natAbs
            omega
          simp
          exact ⟨hlog, hS⟩
        · refine ⟨g.map strI, by rw [List.map_map]; rfl, ?_, ?_⟩
          · have h1 := slen_sum 1 (g.map strI) fun y hy => by
              obtain ⟨x, hx', rfl⟩ := List.mem_map.mp hy
              exact Nat.le_of_eq (strI_len (g2 x hx').1 (g2 x hx').2).1
            rw [List.length_map] at h1 ⊢
            rw [leq]
            omega
          · rw [TL.join_eq]
            refine ⟨size_le (by show _ + (gT g).length ≤ _; rw [slen_app, lsp]; omega), hQ _ ⟨t ++ " " ++ gT g, some (eG g), ?_, by rw [slen_app, slen_app, lsp]; omega, rfl⟩⟩
            rw [take_ext hg, List.map_append, List.foldl_append, ← ht]; rfl
      · rintro ρ' ⟨t, x6, ht, htl, rfl⟩
        rw [List.take_length, ← join_fold] at ht
        simp [-List.map_append]
        refine ⟨size_lt (by omega), hQ _ ⟨some (.int j), some (.str t), x6, ?_⟩⟩
        rw [rowsT_take hj, h2, ← List.append_assoc, List.map_append (l₂ := [_]), ht]
        simp [rowT]
    · rintro ρ' ⟨x4, x5, x6, rfl⟩
      exact hQ _ ⟨_, _, _, _, _, _, a3, rfl⟩
  · rintro ρ' ⟨acc, x2, x3, x4, x5, x6, hacc, rfl⟩
    simp at hacc
    simp
    refine ⟨acc, rfl, ?_, by rw [TL.join_eq, hacc]; exact h⟩
    have h1 := slen_sum 200 acc fun y hy => by
      rw [hacc] at hy
      rcases List.mem_append.mp hy with q | q
      · exact rowsT_len hb.s1 (by decide +kernel) q
      · exact rowsT_len hb.s2 (by decide +kernel) q
    have h2 : acc.length ≤ 16 := by rw [hacc]; simp [rowsT]; omega
    rw [lnl]
    omega
end DL
set_option Elab.async false
set_option linter.all false
set_option maxRecDepth 100000
namespace DL
open PySem L2
theorem sok_app {a b : Str} (ha : PyData.strOk a = true) (hb : PyData.strOk b = true) : PyData.strOk (a ++ b) = true := by
  unfold PyData.strOk at *
  show (Str.append a b).cps.all _ = true
  simp only [Str.append, Array.all_append, ha, hb, Bool.and_self]
theorem sok_join {sep : Str} (hs : PyData.strOk sep = true) : ∀ ys : List Str, (∀ y ∈ ys, PyData.strOk y = true) → PyData.strOk (Str.join sep ys) = true
  | [], _ => by show PyData.strOk Str.empty = true; decide +kernel
  | [y], h => h y (by simp)
  | y :: z :: ys, h => by
    rw [join_cons _ _ _ (by simp)]
    exact sok_app (sok_app (h y (by simp)) hs) (sok_join hs (z :: ys) fun w hw => h w (List.mem_cons_of_mem _ hw))
theorem sok_rows {w : Str} {u v : List (List (List Int))} (hs : okSides u v) (hw : PyData.strOk w = true) : ∀ y ∈ rowsT w u, PyData.strOk y = true := fun y hy => by
  obtain ⟨k, hk, rfl⟩ := List.mem_map.mp hy
  have hk' := List.mem_range.mp hk
  have h2 : u.getD k [] = u[k] := by rw [List.getD_eq_getElem?_getD, List.getElem?_eq_getElem hk']; rfl
  rw [h2]
  have la := hs.la
  have hr := hs.ra _ (List.getElem_mem hk')
  unfold rowT
  refine sok_join (by decide +kernel) _ fun y hy => ?_
  rcases List.mem_cons.mp hy with q | q
  · rw [q]
    unfold hdT
    exact sok_app (sok_app (sok_app hw (by decide +kernel)) (strI_len (i := (k : Int)) (by omega) (by omega)).2) (by decide +kernel)
  · obtain ⟨g, hg, rfl⟩ := List.mem_map.mp q
    unfold gT
    refine sok_join (by decide +kernel) _ fun y hy => ?_
    obtain ⟨x, hx, rfl⟩ := List.mem_map.mp hy
    have := (gT_len hr hs.lb hg).2.1 x hx
    exact (strI_len this.1 this.2).2
theorem sok_book {b : Bk} (hb : okBook b) : PyData.strOk (bookT b) = true := by
  unfold bookT
  refine sok_join (by decide +kernel) _ fun y hy => ?_
  rcases List.mem_append.mp hy with q | q
  · exact sok_rows hb.s1 (by decide +kernel) y q
  · exact sok_rows hb.s2 (by decide +kernel) y q
theorem deq_str (a b : Str) : deq (.str a) (.str b) = decide (a = b) := by
  unfold deq py; simp only [PyData.eqv]
  by_cases h : a = b <;> simp [h]
def n_law : List Str := ["_law_script", "_law_book_here", "_law_found"]
def g_law (c : CA) : DTS :=
  (dSeq (dSet 1 (dCall (sp_law_book c) (dCons (dVar 0) (dCons (dC (.int 8)) dNil))))
    (dSeq (dSet 2 (dCall (sp_written c) (dCons (dVar 1) dNil)))
    (dRet (dAndV (dIsi "str" (dVar 2)) (dOp gEq (dVar 2) (dCall (sp_law_text c) (dCons (dVar 1) dNil)))))))
theorem law_law (c : CA) : ∀ ds R X, spEnd ds R X → g_law c { nx := fun _ => R .non, rt := fun d _ => R d, ex := fun C _ => X C } (startD n_law ds) := by
  rintro ds R X ⟨ns, rfl, hl, h⟩
  simp [g_law, n_law, sp_law_book, sp_written, sp_law_text]
  refine ⟨ns, 8, ⟨rfl, rfl⟩, by decide, by decide, fun b hb l1 l2 => ⟨b, rfl, hb, b, rfl, hb, ?_⟩⟩
  have hk : okd (.str (bookT b)) = true := okd_of (k := 0) (okn_str (sok_book hb))
  have hd : deq (.str (bookT b)) (.str (bookT b)) = true := by rw [deq_str]; simp
  simp [hk, hd]
  exact h
end DL
set_option Elab.async false
set_option linter.all false
set_option maxRecDepth 100000
set_option maxHeartbeats 4000000
namespace DL
open PySem L2

/-! ### the law's text by places -/
def top (i : Nat) : Stmt := PySem.Challenge.pw_pairlattice_k24_written.main.body.getD i (.Pass ⟨0, 0, 0, 0⟩)
abbrev s_law_cell_at : Stmt := top 15
theorem sc_law_cell_at : FnScope ["_law_script", "_law_k"] ["_law_script", "_law_k"] (defScope s_law_cell_at) := ⟨rfl, rfl, rfl, by decide +kernel, rfl, by decide +kernel, by decide +kernel⟩
abbrev s_law_dice : Stmt := top 16
theorem sc_law_dice : FnScope ["_law_cell"] ["_law_cell"] (defScope s_law_dice) := ⟨rfl, rfl, rfl, by decide +kernel, rfl, by decide +kernel, by decide +kernel⟩
abbrev s_law_roll : Stmt := top 17
theorem sc_law_roll : FnScope ["_law_dice_here", "_law_most", "_law_found"] ["_law_dice_here", "_law_most"] (defScope s_law_roll) := ⟨rfl, rfl, rfl, by decide +kernel, rfl, by decide +kernel, by decide +kernel⟩
abbrev s_law_round : Stmt := top 19
theorem sc_law_round : FnScope ["_law_dice_here", "_law_many", "_law_ones", "_law_others", "_law_k", "_law_turn", "_law_row_here", "_law_at", "_law_one", "_law_j", "_law_side", "_law_number"] ["_law_dice_here", "_law_many"] (defScope s_law_round) := ⟨rfl, rfl, rfl, by decide +kernel, rfl, by decide +kernel, by decide +kernel⟩
abbrev s_law_row : Stmt := top 18
theorem sc_law_row : FnScope ["_law_dice_here", "_law_many", "_law_ends", "_law_left", "_law_out", "_law_pick", "_law_number"] ["_law_dice_here", "_law_many", "_law_ends"] (defScope s_law_row) := ⟨rfl, rfl, rfl, by decide +kernel, rfl, by decide +kernel, by decide +kernel⟩
abbrev s_law_book : Stmt := top 20
theorem sc_law_book : FnScope ["_law_script", "_law_most", "_law_dice_here", "_law_way", "_law_sizes", "_law_ends", "_law_ones", "_law_k"] ["_law_script", "_law_most"] (defScope s_law_book) := ⟨rfl, rfl, rfl, by decide +kernel, rfl, by decide +kernel, by decide +kernel⟩
abbrev s_need : Stmt := top 6
theorem sc_need : FnScope ["good"] ["good"] (defScope s_need) := ⟨rfl, rfl, rfl, by decide +kernel, rfl, by decide +kernel, by decide +kernel⟩
abbrev s_is_number : Stmt := top 7
theorem sc_is_number : FnScope ["thing"] ["thing"] (defScope s_is_number) := ⟨rfl, rfl, rfl, by decide +kernel, rfl, by decide +kernel, by decide +kernel⟩
abbrev s_need_row : Stmt := top 8
theorem sc_need_row : FnScope ["row", "many", "seen", "group", "last", "number"] ["row", "many"] (defScope s_need_row) := ⟨rfl, rfl, rfl, by decide +kernel, rfl, by decide +kernel, by decide +kernel⟩
abbrev s_need_book : Stmt := top 9
theorem sc_need_book : FnScope ["book", "side", "which", "row"] ["book"] (defScope s_need_book) := ⟨rfl, rfl, rfl, by decide +kernel, rfl, by decide +kernel, by decide +kernel⟩
abbrev s_row_text : Stmt := top 12
theorem sc_row_text : FnScope ["word", "number", "row", "groups", "group", "one"] ["word", "number", "row"] (defScope s_row_text) := ⟨rfl, rfl, rfl, by decide +kernel, rfl, by decide +kernel, by decide +kernel⟩
abbrev s_written : Stmt := top 13
theorem sc_written : FnScope ["book", "rows", "side", "number"] ["book"] (defScope s_written) := ⟨rfl, rfl, rfl, by decide +kernel, rfl, by decide +kernel, by decide +kernel⟩
abbrev s_law_text : Stmt := top 21
theorem sc_law_text : FnScope ["_law_book_here", "_law_rows", "_law_word", "_law_side", "_law_number", "_law_text_here", "_law_group", "_law_one"] ["_law_book_here"] (defScope s_law_text) := ⟨rfl, rfl, rfl, by decide +kernel, rfl, by decide +kernel, by decide +kernel⟩
abbrev s_law : Stmt := top 22
theorem sc_law : FnScope ["_law_script", "_law_book_here", "_law_found"] ["_law_script"] (defScope s_law) := ⟨rfl, rfl, rfl, by decide +kernel, rfl, by decide +kernel, by decide +kernel⟩
structure Txt (K : PySem.W.Frag) (mg : Str → Option Value) (c : CA) : Prop where
  b_bool : mg "bool" = none
  b_int : mg "int" = none
  b_isinstance : mg "isinstance" = none
  b_len : mg "len" = none
  b_list : mg "list" = none
  b_range : mg "range" = none
  b_str : mg "str" = none
  b_tuple : mg "tuple" = none
  g_BadBook : mg "BadBook" = some (.ref c.BadBook)
  k_ALONE : ∃ t, mg "ALONE" = some (.int (-1) t)
  k_MOST : ∃ t, mg "MOST" = some (.int (8) t)
  k_SIDES : ∃ a, mg "SIDES" = some (.ref a) ∧ ∀ H, SqT K H a [.str "one", .str "other"]
  kk_BadBook : PySem.W.keepIn K (.ref c.BadBook) = true
  sb_BadBook : PySem.W.subIn K (.ref c.BadBook) (.type "BaseException") = some true
  ty_BadBook : PySem.W.typeIn K (.ref c.BadBook) = some (.type "type")
  x_BadBook : PySem.W.excIn K c.BadBook [.type "ValueError", .type "Exception", .type "BaseException", .type "object"] "ValueError.__new__" = true
  f_law_cell_at : ∃ f fd, Fun K "_law_cell_at" "_law_cell_at" s_law_cell_at f fd ∧ mg "_law_cell_at" = some (.ref f) ∧ PySem.W.keepIn K (.ref f) = true ∧ Binds K fd ["_law_script", "_law_k"] []
  f_law_dice : ∃ f fd, Fun K "_law_dice" "_law_dice" s_law_dice f fd ∧ mg "_law_dice" = some (.ref f) ∧ PySem.W.keepIn K (.ref f) = true ∧ Binds K fd ["_law_cell"] []
  f_law_roll : ∃ f fd, Fun K "_law_roll" "_law_roll" s_law_roll f fd ∧ mg "_law_roll" = some (.ref f) ∧ PySem.W.keepIn K (.ref f) = true ∧ Binds K fd ["_law_dice_here", "_law_most"] []
  f_law_round : ∃ f fd, Fun K "_law_round" "_law_round" s_law_round f fd ∧ mg "_law_round" = some (.ref f) ∧ PySem.W.keepIn K (.ref f) = true ∧ Binds K fd ["_law_dice_here", "_law_many"] []
  f_law_row : ∃ f fd, Fun K "_law_row" "_law_row" s_law_row f fd ∧ mg "_law_row" = some (.ref f) ∧ PySem.W.keepIn K (.ref f) = true ∧ Binds K fd ["_law_dice_here", "_law_many", "_law_ends"] []
  f_law_book : ∃ f fd, Fun K "_law_book" "_law_book" s_law_book f fd ∧ mg "_law_book" = some (.ref f) ∧ PySem.W.keepIn K (.ref f) = true ∧ Binds K fd ["_law_script", "_law_most"] []
  f_need : ∃ f fd, Fun K "need" "need" s_need f fd ∧ mg "need" = some (.ref f) ∧ PySem.W.keepIn K (.ref f) = true ∧ Binds K fd ["good"] []
  f_is_number : ∃ f fd, Fun K "is_number" "is_number" s_is_number f fd ∧ mg "is_number" = some (.ref f) ∧ PySem.W.keepIn K (.ref f) = true ∧ Binds K fd ["thing"] []
  f_need_row : ∃ f fd, Fun K "need_row" "need_row" s_need_row f fd ∧ mg "need_row" = some (.ref f) ∧ PySem.W.keepIn K (.ref f) = true ∧ Binds K fd ["row", "many"] []
  f_need_book : ∃ f fd, Fun K "need_book" "need_book" s_need_book f fd ∧ mg "need_book" = some (.ref f) ∧ PySem.W.keepIn K (.ref f) = true ∧ Binds K fd ["book"] []
  f_row_text : ∃ f fd, Fun K "row_text" "row_text" s_row_text f fd ∧ mg "row_text" = some (.ref f) ∧ PySem.W.keepIn K (.ref f) = true ∧ Binds K fd ["word", "number", "row"] []
  f_written : ∃ f fd, Fun K "written" "written" s_written f fd ∧ mg "written" = some (.ref f) ∧ PySem.W.keepIn K (.ref f) = true ∧ Binds K fd ["book"] []
  f_law_text : ∃ f fd, Fun K "_law_text" "_law_text" s_law_text f fd ∧ mg "_law_text" = some (.ref f) ∧ PySem.W.keepIn K (.ref f) = true ∧ Binds K fd ["_law_book_here"] []
section
variable {P : Program} {w : World} {K : PySem.W.Frag} {mg : Str → Option Value} {base : Heap} {c : CA}
theorem ok_law_cell_at (T : Txt K mg c) : ∃ f fd, Cal P w K mg base "_law_cell_at" 1 ["_law_script", "_law_k"] (liftP K (sp_law_cell_at c)) f fd := by
  obtain ⟨f, fd, F, m, kp, b⟩ := T.f_law_cell_at
  refine ⟨f, fd, okP F sc_law_cell_at (fun ds R X h => by unfold sp_law_cell_at at h; repeat (first | (obtain ⟨rfl, _⟩ := h; rfl) | obtain ⟨_, h⟩ := h))
    (fun cdv A outer s H E hr tk => ⟨_, (dss_cons (ds_if (dt_lt (de_v 1) (DF.toE (df_callB (ck_len K (by rfl)) rc_len (by rfl) T.b_len (by decide +kernel) (da_cons (de_v 0) da_nil)))) (dss_one (ds_ret (DE.toF (de_ixL (de_v 0) (de_v 1))))) dss_nil)
    (dss_one (ds_ret df_int)))⟩)
    ?_, m, kp, b⟩
  exact (law_law_cell_at c)
theorem ok_law_dice (T : Txt K mg c) : ∃ f fd, Cal P w K mg base "_law_dice" 1 ["_law_cell"] (liftP K (sp_law_dice c)) f fd := by
  obtain ⟨f, fd, F, m, kp, b⟩ := T.f_law_dice
  refine ⟨f, fd, okP F sc_law_dice (fun ds R X h => by unfold sp_law_dice at h; repeat (first | (obtain ⟨rfl, _⟩ := h; rfl) | obtain ⟨_, h⟩ := h))
    (fun cdv A outer s H E hr tk => ⟨_, (dss_one (ds_ret (DF.toSh diceI (df_lst (daf_cons (df_mod (de_v 0) (DF.toE df_int)) (daf_cons (df_mul (DF.toE (df_fdivW (de_v 0) (DF.toE df_int))) (DF.toE (df_callTy call_int1 rc_int1 (by rfl) T.b_int (by decide +kernel) (da_cons (DF.toE (df_ge (de_v 0) (DF.toE (df_pow (DF.toE df_int) (DF.toE df_int))))) da_nil)))) daf_nil))))))⟩)
    ?_, m, kp, b⟩
  exact (law_law_dice c)
theorem ok_law_roll (T : Txt K mg c) : ∃ f fd, Cal P w K mg base "_law_roll" 1 ["_law_dice_here", "_law_most"] (liftP K (sp_law_roll c)) f fd := by
  obtain ⟨f, fd, F, m, kp, b⟩ := T.f_law_roll
  refine ⟨f, fd, okP F sc_law_roll (fun ds R X h => by unfold sp_law_roll at h; repeat (first | (obtain ⟨rfl, _⟩ := h; rfl) | obtain ⟨_, h⟩ := h))
    (fun cdv A outer s H E hr tk => ⟨_, (dss_cons (ds_if (dt_gt (de_ixSh (de_v 0) (DF.toE df_int)) (DF.toE df_int)) (dss_cons (ds_set (i := 2) sc_law_roll.nd rfl (.inl rfl) (.inl rfl) (df_mod (de_ixSh (de_v 0) (DF.toE df_int)) (de_v 1)))
    (dss_cons (ds_setSh (DF.toE (df_fdiv (de_ixSh (de_v 0) (DF.toE df_int)) (de_v 1))) (de_v 0) (DF.toE df_int))
    (dss_one (ds_ret (DE.toF (de_v 2)))))) dss_nil)
    (dss_cons (ds_setSh (DF.toE (df_mod (DF.toE (df_add (DF.toE (df_mul (de_ixSh (de_v 0) (DF.toE df_int)) (DF.toE df_int))) (DF.toE df_int))) (DF.toE df_int))) (de_v 0) (DF.toE df_int))
    (dss_one (ds_ret (df_mod (DF.toE (df_fdiv (de_ixSh (de_v 0) (DF.toE df_int)) (DF.toE df_int))) (de_v 1))))))⟩)
    ?_, m, kp, b⟩
  exact (law_law_roll c)
theorem ok_law_round (T : Txt K mg c) : ∃ f fd, Cal P w K mg base "_law_round" 2 ["_law_dice_here", "_law_many"] (liftP K (sp_law_round c)) f fd := by
  obtain ⟨f, fd, F, m, kp, b⟩ := T.f_law_round
  obtain ⟨f_law_roll, d_law_roll, C_law_roll⟩ := ok_law_roll (P := P) (w := w) (base := base) T
  refine ⟨f, fd, okP F sc_law_round (fun ds R X h => by unfold sp_law_round at h; repeat (first | (obtain ⟨rfl, _⟩ := h; rfl) | obtain ⟨_, h⟩ := h))
    (fun cdv A outer s H E hr tk => ⟨_, (dss_cons (ds_set (i := 2) sc_law_round.nd rfl (.inl rfl) (.inl rfl) (df_lst daf_nil))
    (dss_cons (ds_set (i := 3) sc_law_round.nd rfl (.inl rfl) (.inl rfl) (df_lst daf_nil))
    (dss_cons (ds_forR (passes_of rfl) rfl (by rfl) T.b_range (da_cons (de_v 1) da_nil) (dg_name (i := 4) sc_law_round.nd rfl (.inr rfl) (.inl rfl)) (dss_cons (ds_append (dp_v 2) (DF.toShE (df_lcR rfl sc_law_round.nd (by rfl) T.b_range (da_cons (de_v 1) da_nil) (blkOk_by (own := [("_law_j", 9)]) (N := ["_law_dice_here", "_law_many", "_law_ones", "_law_others", "_law_k", "_law_turn", "_law_row_here", "_law_at", "_law_one", "_law_j", "_law_side", "_law_number"]) (sc := defScope s_law_round) (by decide +kernel)) (fun _ _ _ _ _ => (dg_name (i := 9) sc_law_round.nd rfl (.inl rfl) (.inl rfl))) (fun _ _ _ _ _ => dts_nil) (by intro _ _ _ _ _; exact DF.castT (df_mod (DF.toE (df_add (de_v 4) (de_v 9))) (de_v 1)) (by first | exact rfl | (dsimp only [Cx.blk] <;> exact rfl))) (by decide))))
    (dss_one (ds_append (dp_v 3) (DF.toShE (df_lcR rfl sc_law_round.nd (by rfl) T.b_range (da_cons (de_v 1) da_nil) (blkOk_by (own := [("_law_j", 9)]) (N := ["_law_dice_here", "_law_many", "_law_ones", "_law_others", "_law_k", "_law_turn", "_law_row_here", "_law_at", "_law_one", "_law_j", "_law_side", "_law_number"]) (sc := defScope s_law_round) (by decide +kernel)) (fun _ _ _ _ _ => (dg_name (i := 9) sc_law_round.nd rfl (.inl rfl) (.inl rfl))) (fun _ _ _ _ _ => dts_nil) (by intro _ _ _ _ _; exact DF.castT (df_mod (DF.toE (df_add (DF.toE (df_add (de_v 4) (DF.toE df_int))) (de_v 9))) (de_v 1)) (by first | exact rfl | (dsimp only [Cx.blk] <;> exact rfl))) (by decide)))))))
    (dss_cons (ds_forR (passes_of rfl) rfl (by rfl) T.b_range (da_cons (DF.toE (df_c C_law_roll tk hr (by decide) (by rfl) (da_cons (de_v 0) (da_cons (DF.toE df_int) da_nil)))) da_nil) (dg_name (i := 5) sc_law_round.nd rfl (.inl rfl) (.inl rfl)) (dss_cons (ds_ghost 2 (ds_ghost 3 (ds_set (i := 6) sc_law_round.nd rfl (.inl rfl) (.inl rfl) (DE.toF (de_ixL (de_ixL (DF.toE (df_lst (daf_cons (DE.toF (de_v 2)) (daf_cons (DE.toF (de_v 3)) daf_nil)))) (DF.toE (df_c C_law_roll tk hr (by decide) (by rfl) (da_cons (de_v 0) (da_cons (DF.toE df_int) da_nil))))) (DF.toE (df_c C_law_roll tk hr (by decide) (by rfl) (da_cons (de_v 0) (da_cons (de_v 1) da_nil)))))))))
    (dss_cons (ds_set (i := 7) sc_law_round.nd rfl (.inl rfl) (.inl rfl) (df_c C_law_roll tk hr (by decide) (by rfl) (da_cons (de_v 0) (da_cons (de_v 1) da_nil))))
    (dss_swapSh (r := 6) (a := 7) (t := 8) (.inl rfl) (ps_set (i := 8) sc_law_round.nd rfl (.inl rfl) (pe_ix ix_list (pv 6) (pv 7) (fun _ _ => rfl))) (ps_asg (pe_ix ix_list (pv 6) (pe_op op_sub (pv 7) pe_int) (fun _ _ => rfl)) (pg_sub (pv 6) (pv 7) set_list)) (ps_asg (pv 8) (pg_sub (pv 6) (pe_op op_sub (pv 7) pe_int) set_list))))))
    (dss_one (ds_ghost 2 (ds_ghost 3 (ds_ret (df_callTy (ck_tuple K (by rfl)) rc_tuple (by rfl) T.b_tuple (by decide +kernel) (da_cons (DF.toE (df_lcL rfl sc_law_round.nd (df_lst (daf_cons (DE.toF (de_v 2)) (daf_cons (DE.toF (de_v 3)) daf_nil))) (blkOk_by (own := [("_law_side", 10)]) (N := ["_law_dice_here", "_law_many", "_law_ones", "_law_others", "_law_k", "_law_turn", "_law_row_here", "_law_at", "_law_one", "_law_j", "_law_side", "_law_number"]) (sc := defScope s_law_round) (by decide +kernel)) (fun _ _ _ _ _ => (dg_name (i := 10) sc_law_round.nd rfl (.inl rfl) (.inl rfl))) (fun _ _ _ _ _ => dts_nil) (by intro _ _ _ _ _; exact DF.castT (df_callTy (ck_tuple K (by rfl)) rc_tuple (by rfl) T.b_tuple (by decide +kernel) (da_cons (DF.toE (df_lcL rfl sc_law_round.nd (DE.toF (de_v 10)) (blkOk_by (own := [("_law_row_here", 6)]) (N := ["_law_dice_here", "_law_many", "_law_ones", "_law_others", "_law_k", "_law_turn", "_law_row_here", "_law_at", "_law_one", "_law_j", "_law_side", "_law_number"]) (by rfl)) (fun _ _ _ _ _ => (dg_name (i := 6) sc_law_round.nd rfl (.inl rfl) (.inl rfl))) (fun _ _ _ _ _ => dts_nil) (by intro _ _ _ _ _; exact DF.castT (df_callTy (ck_tuple K (by rfl)) rc_tuple (by rfl) T.b_tuple (by decide +kernel) (da_cons (DF.toE (df_lcSh1 (own := [("_law_number", 11)]) (i := 11) rfl rfl sc_law_round.nd (de_v 6) (blkOk_by (own := [("_law_number", 11)]) (N := ["_law_dice_here", "_law_many", "_law_ones", "_law_others", "_law_k", "_law_turn", "_law_row_here", "_law_at", "_law_one", "_law_j", "_law_side", "_law_number"]) (by rfl)) (by exact fun _ _ _ _ _ => pg_name (i := 11) sc_law_round.nd rfl (.inl rfl)) (by exact fun _ _ _ _ _ => pe_tup (pa_cons (pv 11) pa_nil)))) da_nil)) (by first | exact rfl | (dsimp only [Cx.blk] <;> exact rfl))) (by decide))) da_nil)) (by first | exact rfl | (dsimp only [Cx.blk] <;> exact rfl))) (by decide))) da_nil))))))))))⟩)
    ?_, m, kp, b⟩
  exact (law_law_round c)
theorem ok_law_row (T : Txt K mg c) : ∃ f fd, Cal P w K mg base "_law_row" 2 ["_law_dice_here", "_law_many", "_law_ends"] (liftP K (sp_law_row c)) f fd := by
  obtain ⟨f, fd, F, m, kp, b⟩ := T.f_law_row
  obtain ⟨f_law_roll, d_law_roll, C_law_roll⟩ := ok_law_roll (P := P) (w := w) (base := base) T
  refine ⟨f, fd, okP F sc_law_row (fun ds R X h => by unfold sp_law_row at h; repeat (first | (obtain ⟨rfl, _⟩ := h; rfl) | obtain ⟨_, h⟩ := h))
    (fun cdv A outer s H E hr tk => ⟨_, (dss_cons (ds_set (i := 3) sc_law_row.nd rfl (.inl rfl) (.inl rfl) (DF.toZ (df_listR rfl (by rfl) T.b_list (by rfl) T.b_range (de_v 1))))
    (dss_cons (ds_set (i := 4) sc_law_row.nd rfl (.inl rfl) (.inl rfl) (df_lst daf_nil))
    (dss_cons (ds_while (passes_of rfl) (DW.toT (dw_and (dt_ne hr.units (de_v 3) (DF.toE (df_lst daf_nil))) (dw_and1 (dt_gt (DF.toE (df_c C_law_roll tk hr (by decide) (by rfl) (da_cons (de_v 0) (da_cons (de_v 2) da_nil)))) (DF.toE df_int))))) (dss_cons (ds_set (i := 5) sc_law_row.nd rfl (.inr rfl) (.inl rfl) (DE.toF (de_ixL (de_v 3) (DF.toE (df_c C_law_roll tk hr (by decide) (by rfl) (da_cons (de_v 0) (da_cons (DF.toE (df_callB (ck_len K (by rfl)) rc_len (by rfl) T.b_len (by decide +kernel) (da_cons (de_v 3) da_nil))) da_nil)))))))
    (dss_cons (ds_lcL (i := 3) rfl sc_law_row.nd rfl rfl (.inl rfl) true (sw_true rfl rfl rfl (by decide +kernel)) (DE.toF (de_v 3)) (blkOk_by (own := [("_law_number", 6)]) (N := ["_law_dice_here", "_law_many", "_law_ends", "_law_left", "_law_out", "_law_pick", "_law_number"]) (sc := defScope s_law_row) (by decide +kernel)) (fun _ _ _ _ _ => (dg_name (i := 6) sc_law_row.nd rfl (.inl rfl) (.inl rfl))) (by intro _ _ _ _ _; exact DTs.castT (dts_one (dt_ne hr.units (de_v 6) (de_v 5))) (by first | exact rfl | (dsimp only [Cx.blk] <;> exact rfl))) (by intro _ _ _ _ _; exact DF.castT (DE.toF (de_v 6)) (by first | exact rfl | (dsimp only [Cx.blk] <;> exact rfl))) (by decide))
    (dss_one (ds_if (DW.toT (dw_and (dt_ne hr.units (de_v 4) (DF.toE (df_lst daf_nil))) (dw_and (dt_gt (de_v 5) (de_ixT (de_ixL (de_v 4) (DF.toE (df_neg (DF.toE df_int)))) (DF.toE (df_neg (DF.toE df_int))))) (dw_and1 (dt_eq hr.units (DF.toE (df_c C_law_roll tk hr (by decide) (by rfl) (da_cons (de_v 0) (da_cons (DF.toE df_int) da_nil)))) (DF.toE df_int)))))) (dss_one (ds_setItem (df_catT (de_ixL (de_v 4) (DF.toE (df_neg (DF.toE df_int)))) (DF.toE (df_tup (daf_cons (DE.toF (de_v 5)) daf_nil)))) (dp_v 4) (DF.toE (df_neg (DF.toE df_int))))) (dss_one (ds_append (dp_v 4) (df_tup (daf_cons (DE.toF (de_v 5)) daf_nil)))))))))
    (dss_one (ds_ret (df_callTy (ck_tuple K (by rfl)) rc_tuple (by rfl) T.b_tuple (by decide +kernel) (da_cons (de_v 4) da_nil)))))))⟩)
    ?_, m, kp, b⟩
  exact (law_law_row c)
theorem ok_law_book (T : Txt K mg c) : ∃ f fd, Cal P w K mg base "_law_book" 3 ["_law_script", "_law_most"] (liftP K (sp_law_book c)) f fd := by
  obtain ⟨f, fd, F, m, kp, b⟩ := T.f_law_book
  obtain ⟨f_law_cell_at, d_law_cell_at, C_law_cell_at⟩ := ok_law_cell_at (P := P) (w := w) (base := base) T
  obtain ⟨f_law_dice, d_law_dice, C_law_dice⟩ := ok_law_dice (P := P) (w := w) (base := base) T
  obtain ⟨f_law_roll, d_law_roll, C_law_roll⟩ := ok_law_roll (P := P) (w := w) (base := base) T
  obtain ⟨f_law_round, d_law_round, C_law_round⟩ := ok_law_round (P := P) (w := w) (base := base) T
  obtain ⟨f_law_row, d_law_row, C_law_row⟩ := ok_law_row (P := P) (w := w) (base := base) T
  refine ⟨f, fd, okP F sc_law_book (fun ds R X h => by unfold sp_law_book at h; repeat (first | (obtain ⟨rfl, _⟩ := h; rfl) | obtain ⟨_, h⟩ := h))
    (fun cdv A outer s H E hr tk => ⟨_, (dss_cons (ds_set (i := 2) sc_law_book.nd rfl (.inr rfl) (.inl rfl) (df_c C_law_dice tk hr (by decide) (by rfl) (da_cons (DF.toE (df_c C_law_cell_at tk hr (by decide) (by rfl) (da_cons (de_v 0) (da_cons (DF.toE df_int) da_nil)))) da_nil)))
    (dss_cons (ds_set (i := 3) sc_law_book.nd rfl (.inl rfl) (.inl rfl) (df_mod (DF.toE (df_c C_law_cell_at tk hr (by decide) (by rfl) (da_cons (de_v 0) (da_cons (DF.toE df_int) da_nil)))) (DF.toE df_int)))
    (dss_cons (ds_set (i := 4) sc_law_book.nd rfl (.inr rfl) (.inl rfl) (df_lst (daf_cons (df_add (DF.toE df_int) (DF.toE (df_c C_law_roll tk hr (by decide) (by rfl) (da_cons (de_v 2) (da_cons (de_v 1) da_nil))))) (daf_cons (df_add (DF.toE df_int) (DF.toE (df_c C_law_roll tk hr (by decide) (by rfl) (da_cons (de_v 2) (da_cons (de_v 1) da_nil))))) daf_nil))))
    (dss_cons (ds_if (dt_eq hr.units (de_v 3) (DF.toE df_int)) (dss_one (ds_ret (df_c C_law_round tk hr (by decide) (by rfl) (da_cons (de_v 2) (da_cons (DF.toE (df_add (DF.toE df_int) (DF.toE (df_c C_law_roll tk hr (by decide) (by rfl) (da_cons (de_v 2) (da_cons (de_v 1) da_nil)))))) da_nil))))) dss_nil)
    (dss_cons (ds_if (dt_eq hr.units (de_v 3) (DF.toE df_int)) (dss_one (ds_setItem (DE.toF (de_ixL (de_v 4) (DF.toE df_int))) (dp_v 4) (DF.toE df_int))) dss_nil)
    (dss_cons (ds_set (i := 5) sc_law_book.nd rfl (.inr rfl) (.inl rfl) (DE.toF (de_ixL (DF.toE (df_lst (daf_cons df_int (daf_cons df_int (daf_cons df_int daf_nil))))) (DF.toE (df_c C_law_roll tk hr (by decide) (by rfl) (da_cons (de_v 2) (da_cons (DF.toE df_int) da_nil)))))))
    (dss_cons (ds_set (i := 6) sc_law_book.nd rfl (.inl rfl) (.inl rfl) (df_callTy (ck_tuple K (by rfl)) rc_tuple (by rfl) T.b_tuple (by decide +kernel) (da_cons (DF.toE (df_lcR rfl sc_law_book.nd (by rfl) T.b_range (da_cons (de_ixL (de_v 4) (DF.toE df_int)) da_nil) (blkOk_by (own := [("_law_k", 7)]) (N := ["_law_script", "_law_most", "_law_dice_here", "_law_way", "_law_sizes", "_law_ends", "_law_ones", "_law_k"]) (sc := defScope s_law_book) (by decide +kernel)) (fun _ _ _ _ _ => (dg_name (i := 7) sc_law_book.nd rfl (.inl rfl) (.inl rfl))) (fun _ _ _ _ _ => dts_nil) (by intro _ _ _ _ _; exact DF.castT (df_c C_law_row takes0 hr (by decide) (by rfl) (da_cons (de_v 2) (da_cons (de_ixL (de_v 4) (DF.toE df_int)) (da_cons (de_v 5) da_nil)))) (by first | exact rfl | (dsimp only [Cx.blk] <;> exact rfl))) (by decide))) da_nil)))
    (dss_one (ds_ret (df_tup (daf_cons (DE.toF (de_v 6)) (daf_cons (df_callTy (ck_tuple K (by rfl)) rc_tuple (by rfl) T.b_tuple (by decide +kernel) (da_cons (DF.toE (df_lcR rfl sc_law_book.nd (by rfl) T.b_range (da_cons (de_ixL (de_v 4) (DF.toE df_int)) da_nil) (blkOk_by (own := [("_law_k", 7)]) (N := ["_law_script", "_law_most", "_law_dice_here", "_law_way", "_law_sizes", "_law_ends", "_law_ones", "_law_k"]) (sc := defScope s_law_book) (by decide +kernel)) (fun _ _ _ _ _ => (dg_name (i := 7) sc_law_book.nd rfl (.inl rfl) (.inl rfl))) (fun _ _ _ _ _ => dts_nil) (by intro _ _ _ _ _; exact DF.castT (df_c C_law_row takes0 hr (by decide) (by rfl) (da_cons (de_v 2) (da_cons (de_ixL (de_v 4) (DF.toE df_int)) (da_cons (de_v 5) da_nil)))) (by first | exact rfl | (dsimp only [Cx.blk] <;> exact rfl))) (by decide))) da_nil)) daf_nil))))))))))))⟩)
    ?_, m, kp, b⟩
  exact (law_law_book c)
theorem ok_need (T : Txt K mg c) : ∃ f fd, Cal P w K mg base "need" 1 ["good"] (liftP K (sp_need c)) f fd := by
  obtain ⟨f, fd, F, m, kp, b⟩ := T.f_need
  refine ⟨f, fd, okP F sc_need (fun ds R X h => by unfold sp_need at h; repeat (first | (obtain ⟨rfl, _⟩ := h; rfl) | obtain ⟨_, h⟩ := h))
    (fun cdv A outer s H E hr tk => ⟨_, (dss_one (ds_if (dt_not (dt_v (de_v 0))) (dss_one (ds_raise (C := c.BadBook) rfl tk (pmk_own PySem.F.excBase_ValueError T.x_BadBook T.g_BadBook T.kk_BadBook (raises_own T.sb_BadBook T.ty_BadBook) rfl) rfl)) dss_nil))⟩)
    ?_, m, kp, b⟩
  exact (law_need c)
theorem ok_is_number (T : Txt K mg c) : ∃ f fd, Cal P w K mg base "is_number" 1 ["thing"] (liftP K (sp_is_number c)) f fd := by
  obtain ⟨f, fd, F, m, kp, b⟩ := T.f_is_number
  refine ⟨f, fd, okP F sc_is_number (fun ds R X h => by unfold sp_is_number at h; repeat (first | (obtain ⟨rfl, _⟩ := h; rfl) | obtain ⟨_, h⟩ := h))
    (fun cdv A outer s H E hr tk => ⟨_, (dss_one (ds_ret (df_and (DF.toE (df_isi (T := "int") (by rfl) T.b_isinstance (by decide +kernel) (de_v 0) (by rfl) T.b_int (by decide +kernel))) (df_one (df_not (DF.toE (df_isi (T := "bool") (by rfl) T.b_isinstance (by decide +kernel) (de_v 0) (by rfl) T.b_bool (by decide +kernel))))))))⟩)
    ?_, m, kp, b⟩
  exact (law_is_number c)
theorem ok_need_row (T : Txt K mg c) : ∃ f fd, Cal P w K mg base "need_row" 2 ["row", "many"] (liftP K (sp_need_row c)) f fd := by
  obtain ⟨f, fd, F, m, kp, b⟩ := T.f_need_row
  obtain ⟨f_need, d_need, C_need⟩ := ok_need (P := P) (w := w) (base := base) T
  obtain ⟨f_is_number, d_is_number, C_is_number⟩ := ok_is_number (P := P) (w := w) (base := base) T
  refine ⟨f, fd, okP F sc_need_row (fun ds R X h => by unfold sp_need_row at h; repeat (first | (obtain ⟨rfl, _⟩ := h; rfl) | obtain ⟨_, h⟩ := h))
    (fun cdv A outer s H E hr tk => ⟨_, (dss_cons (ds_expr (DF.toE (df_c C_need tk hr (by decide) (by rfl) (da_cons (DF.toE (df_isi (T := "tuple") (by rfl) T.b_isinstance (by decide +kernel) (de_v 0) (by rfl) T.b_tuple (by decide +kernel))) da_nil))))
    (dss_cons (ds_set (i := 2) sc_need_row.nd rfl (.inl rfl) (.inl rfl) (df_lst daf_nil))
    (dss_one (ds_forT (passes_of rfl) rfl (de_v 0) (dg_name (i := 3) sc_need_row.nd rfl (.inl rfl) (.inl rfl)) (dss_cons (ds_expr (DF.toE (df_c C_need tk hr (by decide) (by rfl) (da_cons (DF.toE (df_and (DF.toE (df_isi (T := "tuple") (by rfl) T.b_isinstance (by decide +kernel) (de_v 3) (by rfl) T.b_tuple (by decide +kernel))) (df_one (df_ne hr.units (de_v 3) (DF.toE (df_tup daf_nil)))))) da_nil))))
    (dss_cons (ds_set (i := 4) sc_need_row.nd rfl (.inl rfl) (.inl rfl) (df_gI rfl T.k_ALONE.choose_spec))
    (dss_one (ds_forT (passes_of rfl) rfl (de_v 3) (dg_name (i := 5) sc_need_row.nd rfl (.inl rfl) (.inl rfl)) (dss_cons (ds_expr (DF.toE (df_c C_need tk hr (by decide) (by rfl) (da_cons (DF.toE (df_and (DF.toE (df_c C_is_number tk hr (by decide) (by rfl) (da_cons (de_v 5) da_nil))) (df_and (DF.toE (df_chLtLt (de_v 4) (de_v 5) (de_v 1))) (df_one (df_notIn (hu65 hr) (de_v 5) (de_v 2)))))) da_nil))))
    (dss_cons (ds_set (i := 4) sc_need_row.nd rfl (.inl rfl) (.inl rfl) (DE.toF (de_v 5)))
    (dss_one (ds_append (dp_v 2) (DE.toF (de_v 5))))))))))))))⟩)
    ?_, m, kp, b⟩
  exact (law_need_row c)
theorem ok_need_book (T : Txt K mg c) : ∃ f fd, Cal P w K mg base "need_book" 3 ["book"] (liftP K (sp_need_book c)) f fd := by
  obtain ⟨f, fd, F, m, kp, b⟩ := T.f_need_book
  obtain ⟨f_need, d_need, C_need⟩ := ok_need (P := P) (w := w) (base := base) T
  obtain ⟨f_need_row, d_need_row, C_need_row⟩ := ok_need_row (P := P) (w := w) (base := base) T
  refine ⟨f, fd, okP F sc_need_book (fun ds R X h => by unfold sp_need_book at h; repeat (first | (obtain ⟨rfl, _⟩ := h; rfl) | obtain ⟨_, h⟩ := h))
    (fun cdv A outer s H E hr tk => ⟨_, (dss_cons (ds_expr (DF.toE (df_c C_need tk hr (by decide) (by rfl) (da_cons (DF.toE (df_and (DF.toE (df_isi (T := "tuple") (by rfl) T.b_isinstance (by decide +kernel) (de_v 0) (by rfl) T.b_tuple (by decide +kernel))) (df_one (df_eq hr.units (DF.toE (df_callB (ck_len K (by rfl)) rc_len (by rfl) T.b_len (by decide +kernel) (da_cons (de_v 0) da_nil))) (DF.toE df_int))))) da_nil))))
    (dss_cons (ds_forT (passes_of rfl) rfl (de_v 0) (dg_name (i := 1) sc_need_book.nd rfl (.inl rfl) (.inl rfl)) (dss_one (ds_expr (DF.toE (df_c C_need tk hr (by decide) (by rfl) (da_cons (DF.toE (df_and (DF.toE (df_isi (T := "tuple") (by rfl) T.b_isinstance (by decide +kernel) (de_v 1) (by rfl) T.b_tuple (by decide +kernel))) (df_one (df_chLeLe (DF.toE df_int) (DF.toE (df_callB (ck_len K (by rfl)) rc_len (by rfl) T.b_len (by decide +kernel) (da_cons (de_v 1) da_nil))) (DF.toE (df_gI rfl T.k_MOST.choose_spec)))))) da_nil))))))
    (dss_one (ds_forR (passes_of rfl) rfl (by rfl) T.b_range (da_cons (DF.toE df_int) da_nil) (dg_name (i := 2) sc_need_book.nd rfl (.inl rfl) (.inl rfl)) (dss_one (ds_forT (passes_of rfl) rfl (de_ixT (de_v 0) (de_v 2)) (dg_name (i := 3) sc_need_book.nd rfl (.inl rfl) (.inl rfl)) (dss_one (ds_expr (DF.toE (df_c C_need_row tk hr (by decide) (by rfl) (da_cons (de_v 3) (da_cons (DF.toE (df_callB (ck_len K (by rfl)) rc_len (by rfl) T.b_len (by decide +kernel) (da_cons (de_ixT (de_v 0) (DF.toE (df_sub (DF.toE df_int) (de_v 2)))) da_nil))) da_nil))))))))))))⟩)
    ?_, m, kp, b⟩
  exact (law_need_book c)
theorem ok_row_text (T : Txt K mg c) : ∃ f fd, Cal P w K mg base "row_text" 1 ["word", "number", "row"] (liftP K (sp_row_text c)) f fd := by
  obtain ⟨f, fd, F, m, kp, b⟩ := T.f_row_text
  refine ⟨f, fd, okP F sc_row_text (fun ds R X h => by unfold sp_row_text at h; repeat (first | (obtain ⟨rfl, _⟩ := h; rfl) | obtain ⟨_, h⟩ := h))
    (fun cdv A outer s H E hr tk => ⟨_, (dss_cons (ds_lcT (i := 3) rfl sc_row_text.nd rfl rfl (.inl rfl) true (sw_true rfl rfl rfl (by decide +kernel)) (de_v 2) (blkOk_by (own := [("group", 4)]) (N := ["word", "number", "row", "groups", "group", "one"]) (sc := defScope s_row_text) (by decide +kernel)) (fun _ _ _ _ _ => (dg_name (i := 4) sc_row_text.nd rfl (.inl rfl) (.inl rfl))) (fun _ _ _ _ _ => dts_nil) (by intro _ _ _ _ _; exact DF.castT (df_join K (by rfl) (DF.toE df_str) (DF.toE (df_lcT rfl sc_row_text.nd (de_v 4) (blkOk_by (own := [("one", 5)]) (N := ["word", "number", "row", "groups", "group", "one"]) (by rfl)) (fun _ _ _ _ _ => (dg_name (i := 5) sc_row_text.nd rfl (.inl rfl) (.inl rfl))) (fun _ _ _ _ _ => dts_nil) (by intro _ _ _ _ _; exact DF.castT (df_callTy call_str_int rc_strI (by rfl) T.b_str (by decide +kernel) (da_cons (de_v 5) da_nil)) (by first | exact rfl | (dsimp only [Cx.blk] <;> exact rfl))) (by decide)))) (by first | exact rfl | (dsimp only [Cx.blk] <;> exact rfl))) (by decide))
    (dss_one (ds_ret (df_join K (by rfl) (DF.toE df_str) (DF.toE (df_cat (DF.toE (df_lst (daf_cons (df_addS (DF.toE (df_addS (DF.toE (df_addS (de_v 0) (DF.toE df_str))) (DF.toE (df_callTy call_str_int rc_strI (by rfl) T.b_str (by decide +kernel) (da_cons (de_v 1) da_nil))))) (DF.toE df_str)) daf_nil))) (de_v 3)))))))⟩)
    ?_, m, kp, b⟩
  exact (law_row_text c)
theorem ok_written (T : Txt K mg c) : ∃ f fd, Cal P w K mg base "written" 4 ["book"] (liftP K (sp_written c)) f fd := by
  obtain ⟨f, fd, F, m, kp, b⟩ := T.f_written
  obtain ⟨f_need_book, d_need_book, C_need_book⟩ := ok_need_book (P := P) (w := w) (base := base) T
  obtain ⟨f_row_text, d_row_text, C_row_text⟩ := ok_row_text (P := P) (w := w) (base := base) T
  refine ⟨f, fd, okP F sc_written (fun ds R X h => by unfold sp_written at h; repeat (first | (obtain ⟨rfl, _⟩ := h; rfl) | obtain ⟨_, h⟩ := h))
    (fun cdv A outer s H E hr tk => ⟨_, (dss_cons (ds_expr (DF.toE (df_c C_need_book tk hr (by decide) (by rfl) (da_cons (de_v 0) da_nil))))
    (dss_cons (ds_set (i := 1) sc_written.nd rfl (.inl rfl) (.inl rfl) (df_lst daf_nil))
    (dss_cons (ds_forR (passes_of rfl) rfl (by rfl) T.b_range (da_cons (DF.toE df_int) da_nil) (dg_name (i := 2) sc_written.nd rfl (.inl rfl) (.inl rfl)) (dss_one (ds_forR (passes_of rfl) rfl (by rfl) T.b_range (da_cons (DF.toE (df_callB (ck_len K (by rfl)) rc_len (by rfl) T.b_len (by decide +kernel) (da_cons (de_ixT (de_v 0) (de_v 2)) da_nil))) da_nil) (dg_name (i := 3) sc_written.nd rfl (.inl rfl) (.inl rfl)) (dss_one (ds_append (dp_v 1) (df_c C_row_text tk hr (by decide) (by rfl) (da_cons (de_ixT (DF.toE (df_gT2 (by rfl) T.k_SIDES.choose_spec.1 T.k_SIDES.choose_spec.2)) (de_v 2)) (da_cons (de_v 3) (da_cons (de_ixT (de_ixT (de_v 0) (de_v 2)) (de_v 3)) da_nil)))))))))
    (dss_one (ds_ret (df_join K (by rfl) (DF.toE df_str) (de_v 1)))))))⟩)
    ?_, m, kp, b⟩
  exact (law_written c)
theorem ok_law_text (T : Txt K mg c) : ∃ f fd, Cal P w K mg base "_law_text" 1 ["_law_book_here"] (liftP K (sp_law_text c)) f fd := by
  obtain ⟨f, fd, F, m, kp, b⟩ := T.f_law_text
  refine ⟨f, fd, okP F sc_law_text (fun ds R X h => by unfold sp_law_text at h; repeat (first | (obtain ⟨rfl, _⟩ := h; rfl) | obtain ⟨_, h⟩ := h))
    (fun cdv A outer s H E hr tk => ⟨_, (dss_cons (ds_set (i := 1) sc_law_text.nd rfl (.inl rfl) (.inl rfl) (df_lst daf_nil))
    (dss_cons (ds_forL (passes_of rfl) rfl (df_lst (daf_cons (df_tup (daf_cons df_str (daf_cons (DE.toF (de_ixT (de_v 0) (DF.toE df_int))) daf_nil))) (daf_cons (df_tup (daf_cons df_str (daf_cons (DE.toF (de_ixT (de_v 0) (DF.toE df_int))) daf_nil))) daf_nil))) (dg_tup2 (i := 2) (j := 3) rfl sc_law_text.nd rfl (.inl rfl) rfl (.inl rfl) (.inl rfl) (.inl rfl)) (dss_one (ds_forR (passes_of rfl) rfl (by rfl) T.b_range (da_cons (DF.toE (df_callB (ck_len K (by rfl)) rc_len (by rfl) T.b_len (by decide +kernel) (da_cons (de_v 3) da_nil))) da_nil) (dg_name (i := 4) sc_law_text.nd rfl (.inl rfl) (.inl rfl)) (dss_cons (ds_set (i := 5) sc_law_text.nd rfl (.inl rfl) (.inl rfl) (df_addS (DF.toE (df_addS (DF.toE (df_addS (de_v 2) (DF.toE df_str))) (DF.toE (df_callTy call_str_int rc_strI (by rfl) T.b_str (by decide +kernel) (da_cons (de_v 4) da_nil))))) (DF.toE df_str)))
    (dss_cons (ds_forT (passes_of rfl) rfl (de_ixT (de_v 3) (de_v 4)) (dg_name (i := 6) sc_law_text.nd rfl (.inl rfl) (.inl rfl)) (dss_one (ds_set (i := 5) sc_law_text.nd rfl (.inl rfl) (.inl rfl) (df_addS (DF.toE (df_addS (de_v 5) (DF.toE df_str))) (DF.toE (df_join K (by rfl) (DF.toE df_str) (DF.toE (df_lcT rfl sc_law_text.nd (de_v 6) (blkOk_by (own := [("_law_one", 7)]) (N := ["_law_book_here", "_law_rows", "_law_word", "_law_side", "_law_number", "_law_text_here", "_law_group", "_law_one"]) (sc := defScope s_law_text) (by decide +kernel)) (fun _ _ _ _ _ => (dg_name (i := 7) sc_law_text.nd rfl (.inl rfl) (.inl rfl))) (fun _ _ _ _ _ => dts_nil) (by intro _ _ _ _ _; exact DF.castT (df_callTy call_str_int rc_strI (by rfl) T.b_str (by decide +kernel) (da_cons (de_v 7) da_nil)) (by first | exact rfl | (dsimp only [Cx.blk] <;> exact rfl))) (by decide)))))))))
    (dss_one (ds_append (dp_v 1) (DE.toF (de_v 5)))))))))
    (dss_one (ds_ret (df_join K (by rfl) (DF.toE df_str) (de_v 1))))))⟩)
    ?_, m, kp, b⟩
  exact (law_law_text c)
theorem ok_law (T : Txt K mg c) {f : Addr} {fd : FuncData} (F : Fun K "law" "law" s_law f fd) : FnOk P w K mg base (L2.CX P w) 5 f fd ["_law_script"] (liftP K spEnd) := by
  obtain ⟨f_law_book, d_law_book, C_law_book⟩ := ok_law_book (P := P) (w := w) (base := base) T
  obtain ⟨f_written, d_written, C_written⟩ := ok_written (P := P) (w := w) (base := base) T
  obtain ⟨f_law_text, d_law_text, C_law_text⟩ := ok_law_text (P := P) (w := w) (base := base) T
  refine okP F sc_law (fun ds R X h => by unfold spEnd at h; repeat (first | (obtain ⟨rfl, _⟩ := h; rfl) | obtain ⟨_, h⟩ := h))
    (fun cdv A outer s H E hr tk => ⟨_, (dss_cons (ds_set (i := 1) sc_law.nd rfl (.inl rfl) (.inl rfl) (df_c C_law_book tk hr (by decide) (by rfl) (da_cons (de_v 0) (da_cons (DF.toE df_int) da_nil))))
    (dss_cons (ds_set (i := 2) sc_law.nd rfl (.inl rfl) (.inl rfl) (df_c C_written tk hr (by decide) (by rfl) (da_cons (de_v 1) da_nil)))
    (dss_one (ds_ret (df_and (DF.toE (df_isi (T := "str") (by rfl) T.b_isinstance (by decide +kernel) (de_v 2) (by rfl) T.b_str (by decide +kernel))) (df_one (df_eq hr.units (de_v 2) (DF.toE (df_c C_law_text tk hr (by decide) (by rfl) (da_cons (de_v 1) da_nil))))))))))⟩)
    ?_
  exact (law_law c)
end
theorem all_mk {l : PySem.W.OpenLaw} {w : World} {K : PySem.W.Frag} {h : Heap} {mg : Str → Option Value} {fa : Addr} (X : K.In h) (G : h.Ns mainGlobals mg) (hfa : mg "law" = some (.ref fa))
    {cBadBook : Addr}
    {t_ALONE : Tok}
    {t_MOST : Tok}
    {a_SIDES : Addr} {d_SIDES : Option Addr} {n_SIDES : Nat} {t0_SIDES t1_SIDES : Tok} {sl_SIDES : Array (Option Value)}
    {oc_law_cell_at kV_law_cell_at dc_law_cell_at pm_law_cell_at cd_law_cell_at ct_law_cell_at : Value} {f_law_cell_at : Addr} {od_law_cell_at an_law_cell_at : Option Addr} {sl_law_cell_at : Array (Option Value)}
    {oc_law_dice kV_law_dice dc_law_dice pm_law_dice cd_law_dice ct_law_dice : Value} {f_law_dice : Addr} {od_law_dice an_law_dice : Option Addr} {sl_law_dice : Array (Option Value)}
    {oc_law_roll kV_law_roll dc_law_roll pm_law_roll cd_law_roll ct_law_roll : Value} {f_law_roll : Addr} {od_law_roll an_law_roll : Option Addr} {sl_law_roll : Array (Option Value)}
    {oc_law_round kV_law_round dc_law_round pm_law_round cd_law_round ct_law_round : Value} {f_law_round : Addr} {od_law_round an_law_round : Option Addr} {sl_law_round : Array (Option Value)}
    {oc_law_row kV_law_row dc_law_row pm_law_row cd_law_row ct_law_row : Value} {f_law_row : Addr} {od_law_row an_law_row : Option Addr} {sl_law_row : Array (Option Value)}
    {oc_law_book kV_law_book dc_law_book pm_law_book cd_law_book ct_law_book : Value} {f_law_book : Addr} {od_law_book an_law_book : Option Addr} {sl_law_book : Array (Option Value)}
    {oc_need kV_need dc_need pm_need cd_need ct_need : Value} {f_need : Addr} {od_need an_need : Option Addr} {sl_need : Array (Option Value)}
    {oc_is_number kV_is_number dc_is_number pm_is_number cd_is_number ct_is_number : Value} {f_is_number : Addr} {od_is_number an_is_number : Option Addr} {sl_is_number : Array (Option Value)}
    {oc_need_row kV_need_row dc_need_row pm_need_row cd_need_row ct_need_row : Value} {f_need_row : Addr} {od_need_row an_need_row : Option Addr} {sl_need_row : Array (Option Value)}
    {oc_need_book kV_need_book dc_need_book pm_need_book cd_need_book ct_need_book : Value} {f_need_book : Addr} {od_need_book an_need_book : Option Addr} {sl_need_book : Array (Option Value)}
    {oc_row_text kV_row_text dc_row_text pm_row_text cd_row_text ct_row_text : Value} {f_row_text : Addr} {od_row_text an_row_text : Option Addr} {sl_row_text : Array (Option Value)}
    {oc_written kV_written dc_written pm_written cd_written ct_written : Value} {f_written : Addr} {od_written an_written : Option Addr} {sl_written : Array (Option Value)}
    {oc_law_text kV_law_text dc_law_text pm_law_text cd_law_text ct_law_text : Value} {f_law_text : Addr} {od_law_text an_law_text : Option Addr} {sl_law_text : Array (Option Value)}
    {oc_law kV_law dc_law pm_law cd_law ct_law : Value} {f_law : Addr} {od_law an_law : Option Addr} {sl_law : Array (Option Value)}
    (z_bool : PySem.W.nsIn K mainGlobals "bool" = some none)
    (z_int : PySem.W.nsIn K mainGlobals "int" = some none)
    (z_isinstance : PySem.W.nsIn K mainGlobals "isinstance" = some none)
    (z_len : PySem.W.nsIn K mainGlobals "len" = some none)
    (z_list : PySem.W.nsIn K mainGlobals "list" = some none)
    (z_range : PySem.W.nsIn K mainGlobals "range" = some none)
    (z_str : PySem.W.nsIn K mainGlobals "str" = some none)
    (z_tuple : PySem.W.nsIn K mainGlobals "tuple" = some none)
    (a_BadBook : PySem.W.nsIn K mainGlobals "BadBook" = some (some (.ref cBadBook)))
    (v_ALONE : PySem.W.nsIn K mainGlobals "ALONE" = some (some (.int (-1) t_ALONE)))
    (v_MOST : PySem.W.nsIn K mainGlobals "MOST" = some (some (.int (8) t_MOST)))
    (v_SIDES : PySem.W.nsIn K mainGlobals "SIDES" = some (some (.ref a_SIDES)))
    (o_SIDES : K.lookup a_SIDES = some ⟨.type "tuple", d_SIDES, .seq #[.str "one" t0_SIDES, .str "other" t1_SIDES] n_SIDES, sl_SIDES⟩)
    (kk_BadBook : PySem.W.keepIn K (.ref cBadBook) = true)
    (sb_BadBook : PySem.W.subIn K (.ref cBadBook) (.type "BaseException") = some true)
    (ty_BadBook : PySem.W.typeIn K (.ref cBadBook) = some (.type "type"))
    (x_BadBook : PySem.W.excIn K cBadBook [.type "ValueError", .type "Exception", .type "BaseException", .type "object"] "ValueError.__new__" = true)
    (a_law_cell_at : PySem.W.nsIn K mainGlobals "_law_cell_at" = some (some (.ref f_law_cell_at)))
    (l_law_cell_at : K.lookup f_law_cell_at = some ⟨oc_law_cell_at, od_law_cell_at, .func (PySem.W.fnOf "_law_cell_at" "_law_cell_at" (defArgs s_law_cell_at) (defBody s_law_cell_at) (defScope s_law_cell_at) .none kV_law_cell_at dc_law_cell_at pm_law_cell_at an_law_cell_at cd_law_cell_at ct_law_cell_at), sl_law_cell_at⟩)
    (c_law_cell_at : PySem.W.codeIn K cd_law_cell_at "_law_cell_at" = true)
    (k_law_cell_at : PySem.W.keepIn K (.ref f_law_cell_at) = true)
    (a_law_dice : PySem.W.nsIn K mainGlobals "_law_dice" = some (some (.ref f_law_dice)))
    (l_law_dice : K.lookup f_law_dice = some ⟨oc_law_dice, od_law_dice, .func (PySem.W.fnOf "_law_dice" "_law_dice" (defArgs s_law_dice) (defBody s_law_dice) (defScope s_law_dice) .none kV_law_dice dc_law_dice pm_law_dice an_law_dice cd_law_dice ct_law_dice), sl_law_dice⟩)
    (c_law_dice : PySem.W.codeIn K cd_law_dice "_law_dice" = true)
    (k_law_dice : PySem.W.keepIn K (.ref f_law_dice) = true)
    (a_law_roll : PySem.W.nsIn K mainGlobals "_law_roll" = some (some (.ref f_law_roll)))
    (l_law_roll : K.lookup f_law_roll = some ⟨oc_law_roll, od_law_roll, .func (PySem.W.fnOf "_law_roll" "_law_roll" (defArgs s_law_roll) (defBody s_law_roll) (defScope s_law_roll) .none kV_law_roll dc_law_roll pm_law_roll an_law_roll cd_law_roll ct_law_roll), sl_law_roll⟩)
    (c_law_roll : PySem.W.codeIn K cd_law_roll "_law_roll" = true)
    (k_law_roll : PySem.W.keepIn K (.ref f_law_roll) = true)
    (a_law_round : PySem.W.nsIn K mainGlobals "_law_round" = some (some (.ref f_law_round)))
    (l_law_round : K.lookup f_law_round = some ⟨oc_law_round, od_law_round, .func (PySem.W.fnOf "_law_round" "_law_round" (defArgs s_law_round) (defBody s_law_round) (defScope s_law_round) .none kV_law_round dc_law_round pm_law_round an_law_round cd_law_round ct_law_round), sl_law_round⟩)
    (c_law_round : PySem.W.codeIn K cd_law_round "_law_round" = true)
    (k_law_round : PySem.W.keepIn K (.ref f_law_round) = true)
    (a_law_row : PySem.W.nsIn K mainGlobals "_law_row" = some (some (.ref f_law_row)))
    (l_law_row : K.lookup f_law_row = some ⟨oc_law_row, od_law_row, .func (PySem.W.fnOf "_law_row" "_law_row" (defArgs s_law_row) (defBody s_law_row) (defScope s_law_row) .none kV_law_row dc_law_row pm_law_row an_law_row cd_law_row ct_law_row), sl_law_row⟩)
    (c_law_row : PySem.W.codeIn K cd_law_row "_law_row" = true)
    (k_law_row : PySem.W.keepIn K (.ref f_law_row) = true)
    (a_law_book : PySem.W.nsIn K mainGlobals "_law_book" = some (some (.ref f_law_book)))
    (l_law_book : K.lookup f_law_book = some ⟨oc_law_book, od_law_book, .func (PySem.W.fnOf "_law_book" "_law_book" (defArgs s_law_book) (defBody s_law_book) (defScope s_law_book) .none kV_law_book dc_law_book pm_law_book an_law_book cd_law_book ct_law_book), sl_law_book⟩)
    (c_law_book : PySem.W.codeIn K cd_law_book "_law_book" = true)
    (k_law_book : PySem.W.keepIn K (.ref f_law_book) = true)
    (a_need : PySem.W.nsIn K mainGlobals "need" = some (some (.ref f_need)))
    (l_need : K.lookup f_need = some ⟨oc_need, od_need, .func (PySem.W.fnOf "need" "need" (defArgs s_need) (defBody s_need) (defScope s_need) .none kV_need dc_need pm_need an_need cd_need ct_need), sl_need⟩)
    (c_need : PySem.W.codeIn K cd_need "need" = true)
    (k_need : PySem.W.keepIn K (.ref f_need) = true)
    (a_is_number : PySem.W.nsIn K mainGlobals "is_number" = some (some (.ref f_is_number)))
    (l_is_number : K.lookup f_is_number = some ⟨oc_is_number, od_is_number, .func (PySem.W.fnOf "is_number" "is_number" (defArgs s_is_number) (defBody s_is_number) (defScope s_is_number) .none kV_is_number dc_is_number pm_is_number an_is_number cd_is_number ct_is_number), sl_is_number⟩)
    (c_is_number : PySem.W.codeIn K cd_is_number "is_number" = true)
    (k_is_number : PySem.W.keepIn K (.ref f_is_number) = true)
    (a_need_row : PySem.W.nsIn K mainGlobals "need_row" = some (some (.ref f_need_row)))
    (l_need_row : K.lookup f_need_row = some ⟨oc_need_row, od_need_row, .func (PySem.W.fnOf "need_row" "need_row" (defArgs s_need_row) (defBody s_need_row) (defScope s_need_row) .none kV_need_row dc_need_row pm_need_row an_need_row cd_need_row ct_need_row), sl_need_row⟩)
    (c_need_row : PySem.W.codeIn K cd_need_row "need_row" = true)
    (k_need_row : PySem.W.keepIn K (.ref f_need_row) = true)
    (a_need_book : PySem.W.nsIn K mainGlobals "need_book" = some (some (.ref f_need_book)))
    (l_need_book : K.lookup f_need_book = some ⟨oc_need_book, od_need_book, .func (PySem.W.fnOf "need_book" "need_book" (defArgs s_need_book) (defBody s_need_book) (defScope s_need_book) .none kV_need_book dc_need_book pm_need_book an_need_book cd_need_book ct_need_book), sl_need_book⟩)
    (c_need_book : PySem.W.codeIn K cd_need_book "need_book" = true)
    (k_need_book : PySem.W.keepIn K (.ref f_need_book) = true)
    (a_row_text : PySem.W.nsIn K mainGlobals "row_text" = some (some (.ref f_row_text)))
    (l_row_text : K.lookup f_row_text = some ⟨oc_row_text, od_row_text, .func (PySem.W.fnOf "row_text" "row_text" (defArgs s_row_text) (defBody s_row_text) (defScope s_row_text) .none kV_row_text dc_row_text pm_row_text an_row_text cd_row_text ct_row_text), sl_row_text⟩)
    (c_row_text : PySem.W.codeIn K cd_row_text "row_text" = true)
    (k_row_text : PySem.W.keepIn K (.ref f_row_text) = true)
    (a_written : PySem.W.nsIn K mainGlobals "written" = some (some (.ref f_written)))
    (l_written : K.lookup f_written = some ⟨oc_written, od_written, .func (PySem.W.fnOf "written" "written" (defArgs s_written) (defBody s_written) (defScope s_written) .none kV_written dc_written pm_written an_written cd_written ct_written), sl_written⟩)
    (c_written : PySem.W.codeIn K cd_written "written" = true)
    (k_written : PySem.W.keepIn K (.ref f_written) = true)
    (a_law_text : PySem.W.nsIn K mainGlobals "_law_text" = some (some (.ref f_law_text)))
    (l_law_text : K.lookup f_law_text = some ⟨oc_law_text, od_law_text, .func (PySem.W.fnOf "_law_text" "_law_text" (defArgs s_law_text) (defBody s_law_text) (defScope s_law_text) .none kV_law_text dc_law_text pm_law_text an_law_text cd_law_text ct_law_text), sl_law_text⟩)
    (c_law_text : PySem.W.codeIn K cd_law_text "_law_text" = true)
    (k_law_text : PySem.W.keepIn K (.ref f_law_text) = true)
    (a_law : PySem.W.nsIn K mainGlobals "law" = some (some (.ref f_law)))
    (l_law : K.lookup f_law = some ⟨oc_law, od_law, .func (PySem.W.fnOf "law" "law" (defArgs s_law) (defBody s_law) (defScope s_law) .none kV_law dc_law pm_law an_law cd_law ct_law), sl_law⟩)
    (c_law : PySem.W.codeIn K cd_law "law" = true)
    (k_law : PySem.W.keepIn K (.ref f_law) = true) :
    ∃ fd : FuncData, (∀ (s : Shared) (v : Value), BindsTo s fd ⟨[v], []⟩ [("_law_script", v)]) ∧ ∀ base : Heap, K.In base → base.Ns mainGlobals mg → FnOk l.prog w K mg base (L2.CX l.prog w) 5 fa fd ["_law_script"] (liftP K spEnd) := by
  have e := hfa.symm.trans (PySem.W.mg_of X G a_law)
  cases e
  have T : Txt K mg (⟨0, 0, 0, 0, 0, cBadBook, 0, 0, 0, 0, 0⟩ : CA) := ⟨PySem.W.mg_none_of X G z_bool,
    PySem.W.mg_none_of X G z_int,
    PySem.W.mg_none_of X G z_isinstance,
    PySem.W.mg_none_of X G z_len,
    PySem.W.mg_none_of X G z_list,
    PySem.W.mg_none_of X G z_range,
    PySem.W.mg_none_of X G z_str,
    PySem.W.mg_none_of X G z_tuple,
    PySem.W.mg_of X G a_BadBook,
    ⟨_, PySem.W.mg_of X G v_ALONE⟩,
    ⟨_, PySem.W.mg_of X G v_MOST⟩,
    ⟨_, PySem.W.mg_of X G v_SIDES, fun H => .inr ⟨_, _, _, o_SIDES, rfl, rfl, size2, (.cons ⟨_, rfl⟩ (.cons ⟨_, rfl⟩ .nil))⟩⟩,
    kk_BadBook,
    sb_BadBook,
    ty_BadBook,
    x_BadBook,
    ⟨_, _, fun_mk (st := s_law_cell_at) l_law_cell_at c_law_cell_at k_law_cell_at, PySem.W.mg_of X G a_law_cell_at, k_law_cell_at, (fun_mk (st := s_law_cell_at) l_law_cell_at c_law_cell_at k_law_cell_at).binds (ps := ["_law_script", "_law_k"]) fun _ _ _ _ _ _ us hl => match us, hl with | [_, _], _ => rfl⟩,
    ⟨_, _, fun_mk (st := s_law_dice) l_law_dice c_law_dice k_law_dice, PySem.W.mg_of X G a_law_dice, k_law_dice, (fun_mk (st := s_law_dice) l_law_dice c_law_dice k_law_dice).binds (ps := ["_law_cell"]) fun _ _ _ _ _ _ us hl => match us, hl with | [_], _ => rfl⟩,
    ⟨_, _, fun_mk (st := s_law_roll) l_law_roll c_law_roll k_law_roll, PySem.W.mg_of X G a_law_roll, k_law_roll, (fun_mk (st := s_law_roll) l_law_roll c_law_roll k_law_roll).binds (ps := ["_law_dice_here", "_law_most"]) fun _ _ _ _ _ _ us hl => match us, hl with | [_, _], _ => rfl⟩,
    ⟨_, _, fun_mk (st := s_law_round) l_law_round c_law_round k_law_round, PySem.W.mg_of X G a_law_round, k_law_round, (fun_mk (st := s_law_round) l_law_round c_law_round k_law_round).binds (ps := ["_law_dice_here", "_law_many"]) fun _ _ _ _ _ _ us hl => match us, hl with | [_, _], _ => rfl⟩,
    ⟨_, _, fun_mk (st := s_law_row) l_law_row c_law_row k_law_row, PySem.W.mg_of X G a_law_row, k_law_row, (fun_mk (st := s_law_row) l_law_row c_law_row k_law_row).binds (ps := ["_law_dice_here", "_law_many", "_law_ends"]) fun _ _ _ _ _ _ us hl => match us, hl with | [_, _, _], _ => rfl⟩,
    ⟨_, _, fun_mk (st := s_law_book) l_law_book c_law_book k_law_book, PySem.W.mg_of X G a_law_book, k_law_book, (fun_mk (st := s_law_book) l_law_book c_law_book k_law_book).binds (ps := ["_law_script", "_law_most"]) fun _ _ _ _ _ _ us hl => match us, hl with | [_, _], _ => rfl⟩,
    ⟨_, _, fun_mk (st := s_need) l_need c_need k_need, PySem.W.mg_of X G a_need, k_need, (fun_mk (st := s_need) l_need c_need k_need).binds (ps := ["good"]) fun _ _ _ _ _ _ us hl => match us, hl with | [_], _ => rfl⟩,
    ⟨_, _, fun_mk (st := s_is_number) l_is_number c_is_number k_is_number, PySem.W.mg_of X G a_is_number, k_is_number, (fun_mk (st := s_is_number) l_is_number c_is_number k_is_number).binds (ps := ["thing"]) fun _ _ _ _ _ _ us hl => match us, hl with | [_], _ => rfl⟩,
    ⟨_, _, fun_mk (st := s_need_row) l_need_row c_need_row k_need_row, PySem.W.mg_of X G a_need_row, k_need_row, (fun_mk (st := s_need_row) l_need_row c_need_row k_need_row).binds (ps := ["row", "many"]) fun _ _ _ _ _ _ us hl => match us, hl with | [_, _], _ => rfl⟩,
    ⟨_, _, fun_mk (st := s_need_book) l_need_book c_need_book k_need_book, PySem.W.mg_of X G a_need_book, k_need_book, (fun_mk (st := s_need_book) l_need_book c_need_book k_need_book).binds (ps := ["book"]) fun _ _ _ _ _ _ us hl => match us, hl with | [_], _ => rfl⟩,
    ⟨_, _, fun_mk (st := s_row_text) l_row_text c_row_text k_row_text, PySem.W.mg_of X G a_row_text, k_row_text, (fun_mk (st := s_row_text) l_row_text c_row_text k_row_text).binds (ps := ["word", "number", "row"]) fun _ _ _ _ _ _ us hl => match us, hl with | [_, _, _], _ => rfl⟩,
    ⟨_, _, fun_mk (st := s_written) l_written c_written k_written, PySem.W.mg_of X G a_written, k_written, (fun_mk (st := s_written) l_written c_written k_written).binds (ps := ["book"]) fun _ _ _ _ _ _ us hl => match us, hl with | [_], _ => rfl⟩,
    ⟨_, _, fun_mk (st := s_law_text) l_law_text c_law_text k_law_text, PySem.W.mg_of X G a_law_text, k_law_text, (fun_mk (st := s_law_text) l_law_text c_law_text k_law_text).binds (ps := ["_law_book_here"]) fun _ _ _ _ _ _ us hl => match us, hl with | [_], _ => rfl⟩⟩
  exact ⟨PySem.W.fnOf "law" "law" (defArgs s_law) (defBody s_law) (defScope s_law) .none kV_law dc_law pm_law an_law cd_law ct_law, fun s v => .of_eq rfl, fun base _ _ =>
    ok_law T (fun_mk (st := s_law) l_law c_law k_law)⟩
theorem walk {l : PySem.W.OpenLaw} {q : Program} {loose : List Str} {XP : (Str → Option Value) → Heap → Prop} {YP : World → Heap → Prop} {d : DefRec} {K : Params → PySem.W.Frag} (hn : l.most = some 63) (hdf : d.params.defaults = [])
    (hY : ∀ (w : World) (h : Heap), YP w h → (K w.params).In h)
    (F : ∀ (w : World) (mg : Str → Option Value) (fa : Addr) (h : Heap), (K w.params).In h → h.Ns mainGlobals mg → mg d.name = some (.ref fa) →
      ∃ fd : FuncData, (∀ (s : Shared) (u : Value), BindsTo s fd ⟨[u], []⟩ [("_law_script", u)]) ∧ ∀ base : Heap, (K w.params).In base → base.Ns mainGlobals mg → FnOk l.prog w (K w.params) mg base (L2.CX l.prog w) 5 fa fd ["_law_script"] (liftP (K w.params) spEnd)) :
    PySem.W.WalkO q loose XP YP l.row.toRowW d [] (fun f vs => PySem.call f vs) :=
  L2.walk_of (n := 63) (k := 5) (x := "_law_script") (CX := fun w => L2.CX l.prog w) (sp := fun w => liftP (K w.params) spEnd) hn (by decide) hdf ⟨rfl, by decide, by decide⟩ hY F (fun _ _ _ _ hl hO hS => end_sp hl hO hS) fun _ _ _ _ _ z => no_end z
end DL
set_option Elab.async false
open PySem PySem.W PyProof.Rows in
set_option maxRecDepth 100000 in
set_option maxHeartbeats 0 in
theorem PySem.Challenge.cw_pairlattice_k24_written_holds : PySem.Challenge.rw_pairlattice_k24_written.Holds := by
  w_on; o_law; k_head; (case hw => w_witness2)
  k_fill
  refine DL.walk (l := PySem.Challenge.rw_pairlattice_k24_written) rfl rfl (fun w h Y => PySem.W.kIn_of Y) ?F
  case F =>
    intro w mg fa h KX G hmg
    refine' DL.all_mk KX G hmg ?z_bool ?z_int ?z_isinstance ?z_len ?z_list ?z_range ?z_str ?z_tuple ?a_BadBook ?v_ALONE ?v_MOST ?v_SIDES ?o_SIDES ?kk_BadBook ?sb_BadBook ?ty_BadBook ?x_BadBook ?a_law_cell_at ?l_law_cell_at ?c_law_cell_at ?k_law_cell_at ?a_law_dice ?l_law_dice ?c_law_dice ?k_law_dice ?a_law_roll ?l_law_roll ?c_law_roll ?k_law_roll ?a_law_round ?l_law_round ?c_law_round ?k_law_round ?a_law_row ?l_law_row ?c_law_row ?k_law_row ?a_law_book ?l_law_book ?c_law_book ?k_law_book ?a_need ?l_need ?c_need ?k_need ?a_is_number ?l_is_number ?c_is_number ?k_is_number ?a_need_row ?l_need_row ?c_need_row ?k_need_row ?a_need_book ?l_need_book ?c_need_book ?k_need_book ?a_row_text ?l_row_text ?c_row_text ?k_row_text ?a_written ?l_written ?c_written ?k_written ?a_law_text ?l_law_text ?c_law_text ?k_law_text ?a_law ?l_law ?c_law ?k_law
    (case z_bool => k_is)
    (case z_int => k_is)
    (case z_isinstance => k_is)
    (case z_len => k_is)
    (case z_list => k_is)
    (case z_range => k_is)
    (case z_str => k_is)
    (case z_tuple => k_is)
    (case a_BadBook => k_is)
    (case v_ALONE => k_is)
    (case v_MOST => k_is)
    (case v_SIDES => k_is)
    (case o_SIDES => k_is)
    (case kk_BadBook => k_is)
    (case sb_BadBook => k_is)
    (case ty_BadBook => k_is)
    (case x_BadBook => k_exc)
    (case a_law_cell_at => k_is)
    (case l_law_cell_at => k_is)
    (case c_law_cell_at => k_is)
    (case k_law_cell_at => k_is)
    (case a_law_dice => k_is)
    (case l_law_dice => k_is)
    (case c_law_dice => k_is)
    (case k_law_dice => k_is)
    (case a_law_roll => k_is)
    (case l_law_roll => k_is)
    (case c_law_roll => k_is)
    (case k_law_roll => k_is)
    (case a_law_round => k_is)
    (case l_law_round => k_is)
    (case c_law_round => k_is)
    (case k_law_round => k_is)
    (case a_law_row => k_is)
    (case l_law_row => k_is)
    (case c_law_row => k_is)
    (case k_law_row => k_is)
    (case a_law_book => k_is)
    (case l_law_book => k_is)
    (case c_law_book => k_is)
    (case k_law_book => k_is)
    (case a_need => k_is)
    (case l_need => k_is)
    (case c_need => k_is)
    (case k_need => k_is)
    (case a_is_number => k_is)
    (case l_is_number => k_is)
    (case c_is_number => k_is)
    (case k_is_number => k_is)
    (case a_need_row => k_is)
    (case l_need_row => k_is)
    (case c_need_row => k_is)
    (case k_need_row => k_is)
    (case a_need_book => k_is)
    (case l_need_book => k_is)
    (case c_need_book => k_is)
    (case k_need_book => k_is)
    (case a_row_text => k_is)
    (case l_row_text => k_is)
    (case c_row_text => k_is)
    (case k_row_text => k_is)
    (case a_written => k_is)
    (case l_written => k_is)
    (case c_written => k_is)
    (case k_written => k_is)
    (case a_law_text => k_is)
    (case l_law_text => k_is)
    (case c_law_text => k_is)
    (case k_law_text => k_is)
    (case a_law => k_is)
    (case l_law => k_is)
    (case c_law => k_is)
    (case k_law => k_is)
#print axioms PySem.Challenge.cw_pairlattice_k24_written_holds
