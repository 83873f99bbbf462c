import PyProof.Rows.All
import HandS.ForMost
import HandS.Walk
import HandS.Wide
import HandS.TupAny
import HandS.IsInst
import HandS.Zip
import KE.GoesMore
import KE.SortData
import HandS.Defaults
import HandS.Head2
import HandS.HeadHook1
import HandS.HeadHook2
import HandS.HeadEnd
import HandS.Small
import KE.KDictZip
import KE.KDictItemsList
import KE.KTurns
import HandS.ListItems
import KE.KDictSum
import HandS.More
import PyProof.Rows.SortShell
import HandS.SetFor
import HandS.Style
import HandS.TupMul
import KE.KDictPairs
import PyProof.SumAny
import PyProof.DictWalks
import PyProof.ListRange
import KE.DataMinMax
import HandS.SortKw
import HandS.Dict
import HandS.Conv
import KE.KTupSum
import KE.KRevSl
import PySem.Challenge.RW_likesapart_k20_marks_of_rows
set_option Elab.async false
set_option linter.all false
set_option maxRecDepth 100000
set_option maxHeartbeats 0
/-! Value semantics over the hand layer: data as trees, an environment of data, what a piece of syntax does to it as a plain function; each rule of the hand layer once more, told by that function. -/
namespace Vs
open PySem PySem.Spec PyProof.Rows L2

/-- who may write a list: its one holder; nobody any more; the caller (it is lent) -/
inductive Md where | own | imm | bor
  deriving DecidableEq
inductive D where
  | non | bl (b : Bool) | int (i : Int) | str (x : Str)
  | tup (xs : List D) | lst (m : Md) (xs : List D)
  | tx (xs : List D)
  | dic (m : Md) (kvs : List (Key × D))
  | obj (m : Md) (c : String) (fs : List (Str × D))
  | exn (c : String)
abbrev SD := List (Option D)
/-- a def's run: the heap at its entry, what it may write of it, the parameters that are written, the slots at its entry -/
structure Gm where
  H0 : Hp
  F0 : Addr → Prop
  pins : List Nat
  σ0 : L2.St
def Gm.G (Γ : Gm) (a : Addr) : Prop := (∃ o, Γ.H0 a = some o) ∧ ¬ Γ.F0 a
/-- a list that is not written any more -/
def ImmL (K : PySem.W.Frag) (H : Hp) (a : Addr) (xs : List V) : Prop :=
  (∃ o, H a = some (.frz o (.lst xs))) ∨ ∃ (o : Obj) (its : Array Value) (n : Nat), K.lookup a = some o ∧ o.cls = .type "list" ∧ o.dict = none ∧ o.data = .seq its n ∧ its.size ≤ sizeLine ∧ Vals xs its.toList
theorem ImmL.sq {K : PySem.W.Frag} {H : Hp} {a : Addr} {xs : List V} (h : ImmL K H a xs) : SqL K H a xs := by
  rcases h with ⟨o, h⟩ | h
  · exact .inl (.inr ⟨o, h⟩)
  · exact .inr h

/-- a tuple of just that kind, as it was made -/
def TxAt (H : Hp) (a : Addr) (vs : List V) : Prop := ∃ o : Obj, H a = some (.frz o (.tup vs)) ∧ o.cls = .type "tuple" ∧ o.dict = none
theorem TxAt.sq {K : PySem.W.Frag} {H : Hp} {a : Addr} {vs : List V} (h : TxAt H a vs) : SqT K H a vs := by
  obtain ⟨o, h, _⟩ := h
  exact .inl (.inr ⟨o, h⟩)
mutual
def Rep (K : PySem.W.Frag) (Γ : Gm) (H : Hp) : D → V → List Addr → Prop
  | .non, v, F => v = .non ∧ F = []
  | .bl b, v, F => v = .bl b ∧ F = []
  | .int i, v, F => v = .int i ∧ F = []
  | .str x, v, F => v = .str x ∧ F = []
  | .tup ds, v, F => ∃ a vs, v = .ref a ∧ SqT K H a vs ∧ Reps K Γ H ds vs [] ∧ F = []
  | .tx ds, v, F => ∃ a vs, v = .ref a ∧ TxAt H a vs ∧ Reps K Γ H ds vs [] ∧ F = []
  | .lst .own ds, v, F => ∃ a vs F', v = .ref a ∧ H a = some (.lst vs) ∧ Reps K Γ H ds vs F' ∧ F = a :: F'
  | .lst .imm ds, v, F => ∃ a vs, v = .ref a ∧ ImmL K H a vs ∧ Reps K Γ H ds vs [] ∧ F = []
  | .lst .bor ds, v, F => ∃ a vs, v = .ref a ∧ Γ.G a ∧ H a = some (.lst vs) ∧ Reps K Γ H ds vs [] ∧ F = []
  | .dic .own kvs, v, F => ∃ a ks, v = .ref a ∧ H a = some (.dK ks) ∧ RepK K Γ H kvs ks ∧ F = [a]
  | .dic .imm kvs, v, F => ∃ a ks o, v = .ref a ∧ H a = some (.frz o (.dK ks)) ∧ RepK K Γ H kvs ks ∧ F = []
  | .dic .bor kvs, v, F => ∃ a ks, v = .ref a ∧ Γ.G a ∧ H a = some (.dK ks) ∧ RepK K Γ H kvs ks ∧ F = []
  | .obj _ _ _, _, _ => False
  | .exn _, _, _ => False
def Reps (K : PySem.W.Frag) (Γ : Gm) (H : Hp) : List D → List V → List Addr → Prop
  | [], [], F => F = []
  | d :: ds, v :: vs, F => ∃ F1 F2, F = F1 ++ F2 ∧ Rep K Γ H d v F1 ∧ Reps K Γ H ds vs F2
  | [], _ :: _, _ => False
  | _ :: _, [], _ => False
def RepK (K : PySem.W.Frag) (Γ : Gm) (H : Hp) : List (Key × D) → List (Key × V) → Prop
  | [], [] => True
  | (k, d) :: ds, (k', v) :: vs => k = k' ∧ Rep K Γ H d v [] ∧ RepK K Γ H ds vs
  | [], _ :: _ => False
  | _ :: _, [] => False
end

section
variable {K : PySem.W.Frag} {Γ : Gm} {H H' : Hp}
/-- H' holds what the value stands on -/
def Ag (Γ : Gm) (F : List Addr) (H H' : Hp) : Prop := ∀ a o, H a = some o → (a ∈ F ∨ ¬ Mut (some o) ∨ Γ.G a) → H' a = some o
theorem Ag.left {F1 F2 : List Addr} (h : Ag Γ (F1 ++ F2) H H') : Ag Γ F1 H H' := fun a o e q => h a o e (q.imp (fun z => List.mem_append_left _ z) id)
theorem Ag.right {F1 F2 : List Addr} (h : Ag Γ (F1 ++ F2) H H') : Ag Γ F2 H H' := fun a o e q => h a o e (q.imp (fun z => List.mem_append_right _ z) id)
theorem Ag.tail {b : Addr} {F2 : List Addr} (h : Ag Γ (b :: F2) H H') : Ag Γ F2 H H' := fun a o e q => h a o e (q.imp (fun z => List.mem_cons_of_mem _ z) id)
theorem Ag.nil {F : List Addr} (h : Ag Γ F H H') : Ag Γ [] H H' := fun a o e q => h a o e (q.elim (fun z => nomatch z) .inr)
theorem SqT.ag {a : Addr} {vs : List V} (h : SqT K H a vs) (g : Ag Γ [] H H') : SqT K H' a vs := by
  rcases h with (h | ⟨o, h⟩) | h
  · exact .inl (.inl (g _ _ h (.inr (.inl id))))
  · exact .inl (.inr ⟨o, g _ _ h (.inr (.inl id))⟩)
  · exact .inr h
theorem ImmL.ag {a : Addr} {vs : List V} (h : ImmL K H a vs) (g : Ag Γ [] H H') : ImmL K H' a vs := by
  rcases h with ⟨o, h⟩ | h
  · exact .inl ⟨o, g _ _ h (.inr (.inl id))⟩
  · exact .inr h
theorem TxAt.ag {a : Addr} {vs : List V} (h : TxAt H a vs) (g : Ag Γ [] H H') : TxAt H' a vs := by
  obtain ⟨o, h, h2⟩ := h
  exact ⟨o, g _ _ h (.inr (.inl id)), h2⟩
mutual
theorem Rep.ag : ∀ {d : D} {v : V} {F : List Addr}, Rep K Γ H d v F → Ag Γ F H H' → Rep K Γ H' d v F
  | .non, _, _, h, _ => h
  | .bl _, _, _, h, _ => h
  | .int _, _, _, h, _ => h
  | .str _, _, _, h, _ => h
  | .tup ds, v, F, h, g => by
    obtain ⟨a, vs, e, s, r, f⟩ := h
    exact ⟨a, vs, e, SqT.ag s g.nil, Reps.ag r g.nil, f⟩
  | .tx ds, v, F, h, g => by
    obtain ⟨a, vs, e, s, r, f⟩ := h
    exact ⟨a, vs, e, TxAt.ag s g.nil, Reps.ag r g.nil, f⟩
  | .lst .own ds, v, F, h, g => by
    obtain ⟨a, vs, F', e, s, r, f⟩ := h
    subst f
    exact ⟨a, vs, F', e, g _ _ s (.inl List.mem_cons_self), Reps.ag r g.tail, rfl⟩
  | .lst .imm ds, v, F, h, g => by
    obtain ⟨a, vs, e, s, r, f⟩ := h
    exact ⟨a, vs, e, s.ag g.nil, Reps.ag r g.nil, f⟩
  | .lst .bor ds, v, F, h, g => by
    obtain ⟨a, vs, e, gg, s, r, f⟩ := h
    exact ⟨a, vs, e, gg, g _ _ s (.inr (.inr gg)), Reps.ag r g.nil, f⟩
  | .dic .own kvs, v, F, h, g => by
    obtain ⟨a, ks, e, s, r, f⟩ := h
    subst f
    exact ⟨a, ks, e, g _ _ s (.inl List.mem_cons_self), RepK.ag r g.nil, rfl⟩
  | .dic .imm kvs, v, F, h, g => by
    obtain ⟨a, ks, o, e, s, r, f⟩ := h
    exact ⟨a, ks, o, e, g _ _ s (.inr (.inl id)), RepK.ag r g.nil, f⟩
  | .dic .bor kvs, v, F, h, g => by
    obtain ⟨a, ks, e, gg, s, r, f⟩ := h
    exact ⟨a, ks, e, gg, g _ _ s (.inr (.inr gg)), RepK.ag r g.nil, f⟩
  | .obj _ _ _, _, _, h, _ => h
  | .exn _, _, _, h, _ => h
theorem Reps.ag : ∀ {ds : List D} {vs : List V} {F : List Addr}, Reps K Γ H ds vs F → Ag Γ F H H' → Reps K Γ H' ds vs F
  | [], [], _, h, _ => h
  | d :: ds, v :: vs, F, h, g => by
    obtain ⟨F1, F2, e, r, rs⟩ := h
    subst e
    exact ⟨F1, F2, rfl, Rep.ag r g.left, Reps.ag rs g.right⟩
  | [], _ :: _, _, h, _ => h
  | _ :: _, [], _, h, _ => h
theorem RepK.ag : ∀ {ds : List (Key × D)} {vs : List (Key × V)}, RepK K Γ H ds vs → Ag Γ [] H H' → RepK K Γ H' ds vs
  | [], [], h, _ => h
  | (k, d) :: ds, (k', v) :: vs, h, g => ⟨h.1, Rep.ag h.2.1 g, RepK.ag h.2.2 g⟩
  | [], _ :: _, h, _ => h
  | _ :: _, [], h, _ => h
end
theorem Ag.same {F : List Addr} (s : Same H H') : Ag Γ F H H' := fun a o e _ => s a o e
theorem Rep.same {d : D} {v : V} {F : List Addr} (h : Rep K Γ H d v F) (s : Same H H') : Rep K Γ H' d v F := h.ag (Ag.same s)
theorem Reps.same {d : List D} {v : List V} {F : List Addr} (h : Reps K Γ H d v F) (s : Same H H') : Reps K Γ H' d v F := h.ag (Ag.same s)
theorem same_new {p : Addr} {o : HO} (h : H p = none) : Same H (upd H p o) := fun b x e => by
  rw [upd_ne (ne_of_none e h)]
  exact e
/-! what a value holds is there, and may be written -/
mutual
theorem Rep.mut : ∀ {d : D} {v : V} {F : List Addr}, Rep K Γ H d v F → ∀ a ∈ F, Mut (H a)
  | .non, _, _, h, a, m => by rw [h.2] at m; cases m
  | .bl _, _, _, h, a, m => by rw [h.2] at m; cases m
  | .int _, _, _, h, a, m => by rw [h.2] at m; cases m
  | .str _, _, _, h, a, m => by rw [h.2] at m; cases m
  | .tup ds, v, F, h, a, m => by
    obtain ⟨_, vs, e, s, r, f⟩ := h
    rw [f] at m; cases m
  | .tx ds, v, F, h, a, m => by
    obtain ⟨_, vs, e, s, r, f⟩ := h
    rw [f] at m; cases m
  | .lst .own ds, v, F, h, a, m => by
    obtain ⟨b, vs, F', e, s, r, f⟩ := h
    rw [f] at m
    rcases List.mem_cons.mp m with rfl | m
    · rw [s]; trivial
    · exact Reps.mut r a m
  | .lst .imm ds, v, F, h, a, m => by
    obtain ⟨_, vs, e, s, r, f⟩ := h
    rw [f] at m; cases m
  | .lst .bor ds, v, F, h, a, m => by
    obtain ⟨_, vs, e, gg, s, r, f⟩ := h
    rw [f] at m; cases m
  | .dic .own kvs, v, F, h, a, m => by
    obtain ⟨b, ks, e, s, r, f⟩ := h
    rw [f] at m
    rcases List.mem_cons.mp m with rfl | m
    · rw [s]; trivial
    · cases m
  | .dic .imm kvs, v, F, h, a, m => by
    obtain ⟨_, ks, o, e, s, r, f⟩ := h
    rw [f] at m; cases m
  | .dic .bor kvs, v, F, h, a, m => by
    obtain ⟨_, ks, e, gg, s, r, f⟩ := h
    rw [f] at m; cases m
  | .obj _ _ _, _, _, h, _, _ => h.elim
  | .exn _, _, _, h, _, _ => h.elim
theorem Reps.mut : ∀ {ds : List D} {vs : List V} {F : List Addr}, Reps K Γ H ds vs F → ∀ a ∈ F, Mut (H a)
  | [], [], _, h, a, m => by
    have e : _ = ([] : List Addr) := h
    rw [e] at m; cases m
  | d :: ds, v :: vs, F, h, a, m => by
    obtain ⟨F1, F2, e, r, rs⟩ := h
    rw [e] at m
    rcases List.mem_append.mp m with m | m
    · exact Rep.mut r a m
    · exact Reps.mut rs a m
  | [], _ :: _, _, h, _, _ => h.elim
  | _ :: _, [], _, h, _, _ => h.elim
end
theorem Reps.len : ∀ {ds : List D} {vs : List V} {F : List Addr}, Reps K Γ H ds vs F → ds.length = vs.length
  | [], [], _, _ => rfl
  | _ :: _, _ :: _, _, h => by
    obtain ⟨_, _, _, _, rs⟩ := h
    simp [Reps.len rs]
  | [], _ :: _, _, h => h.elim
  | _ :: _, [], _, h => h.elim
end

/-! ### nothing in it may be written -/
mutual
def isImm : D → Bool
  | .non => true | .bl _ => true | .int _ => true | .str _ => true
  | .tup xs => isImms xs
  | .tx xs => isImms xs
  | .lst .imm xs => isImms xs
  | .lst _ _ => false
  | .dic _ _ => false
  | .obj _ _ _ => false
  | .exn _ => true
def isImms : List D → Bool
  | [] => true
  | d :: ds => isImm d && isImms ds
end
theorem isImms_mem : ∀ {ds : List D}, isImms ds = true → ∀ d ∈ ds, isImm d = true
  | d :: ds, h, e, m => by
    have h' : (isImm d && isImms ds) = true := h
    rw [Bool.and_eq_true] at h'
    rcases List.mem_cons.mp m with rfl | m
    · exact h'.1
    · exact isImms_mem h'.2 e m
theorem isImms_of : ∀ {ds : List D}, (∀ d ∈ ds, isImm d = true) → isImms ds = true
  | [], _ => rfl
  | d :: ds, h => by
    show (isImm d && isImms ds) = true
    rw [h d List.mem_cons_self, isImms_of fun e m => h e (List.mem_cons_of_mem _ m)]
    rfl
theorem isImms_append {xs ys : List D} (h : isImms xs = true) (g : isImms ys = true) : isImms (xs ++ ys) = true :=
  isImms_of fun d m => (List.mem_append.mp m).elim (isImms_mem h d) (isImms_mem g d)
section
variable {K : PySem.W.Frag} {Γ Γ' : Gm} {H H' : Hp}
mutual
theorem Rep.immF : ∀ {d : D} {v : V} {F : List Addr}, Rep K Γ H d v F → isImm d = true → F = []
  | .non, _, _, h, _ => h.2
  | .bl _, _, _, h, _ => h.2
  | .int _, _, _, h, _ => h.2
  | .str _, _, _, h, _ => h.2
  | .tup ds, v, F, h, _ => by
    obtain ⟨_, _, _, _, _, f⟩ := h
    exact f
  | .tx ds, v, F, h, _ => by
    obtain ⟨_, _, _, _, _, f⟩ := h
    exact f
  | .lst .own ds, v, F, h, i => nomatch i
  | .lst .imm ds, v, F, h, _ => by
    obtain ⟨_, _, _, _, _, f⟩ := h
    exact f
  | .lst .bor ds, v, F, h, i => nomatch i
  | .dic _ _, _, _, _, i => nomatch i
  | .obj _ _ _, _, _, h, i => nomatch i
  | .exn _, _, _, h, _ => h.elim
end
theorem Reps.immF : ∀ {ds : List D} {vs : List V} {F : List Addr}, Reps K Γ H ds vs F → isImms ds = true → F = []
  | [], [], _, h, _ => h
  | d :: ds, v :: vs, F, h, i => by
    obtain ⟨F1, F2, e, r, rs⟩ := h
    have i' : (isImm d && isImms ds) = true := i
    rw [Bool.and_eq_true] at i'
    rw [e, Rep.immF r i'.1, Reps.immF rs i'.2]
    rfl
  | [], _ :: _, _, h, _ => h.elim
  | _ :: _, [], _, h, _ => h.elim
/-! an immutable value is told alike by every run -/
mutual
theorem Rep.immG : ∀ {d : D} {v : V} {F : List Addr}, Rep K Γ H d v F → isImm d = true → Rep K Γ' H d v F
  | .non, _, _, h, _ => h
  | .bl _, _, _, h, _ => h
  | .int _, _, _, h, _ => h
  | .str _, _, _, h, _ => h
  | .tup ds, v, F, h, i => by
    obtain ⟨a, vs, e, s, r, f⟩ := h
    exact ⟨a, vs, e, s, Reps.immG r i, f⟩
  | .tx ds, v, F, h, i => by
    obtain ⟨a, vs, e, s, r, f⟩ := h
    exact ⟨a, vs, e, s, Reps.immG r i, f⟩
  | .lst .own ds, v, F, h, i => nomatch i
  | .lst .imm ds, v, F, h, i => by
    obtain ⟨a, vs, e, s, r, f⟩ := h
    exact ⟨a, vs, e, s, Reps.immG r i, f⟩
  | .lst .bor ds, v, F, h, i => nomatch i
  | .dic _ _, _, _, _, i => nomatch i
  | .obj _ _ _, _, _, h, i => nomatch i
  | .exn _, _, _, h, _ => h.elim
theorem Reps.immG : ∀ {ds : List D} {vs : List V} {F : List Addr}, Reps K Γ H ds vs F → isImms ds = true → Reps K Γ' H ds vs F
  | [], [], _, h, _ => h
  | d :: ds, v :: vs, F, h, i => by
    obtain ⟨F1, F2, e, r, rs⟩ := h
    have i' : (isImm d && isImms ds) = true := i
    rw [Bool.and_eq_true] at i'
    exact ⟨F1, F2, e, Rep.immG r i'.1, Reps.immG rs i'.2⟩
  | [], _ :: _, _, h, _ => h.elim
  | _ :: _, [], _, h, _ => h.elim
end
theorem Reps.get : ∀ {ds : List D} {vs : List V} {F : List Addr} {i : Nat} {d : D}, Reps K Γ H ds vs F → ds[i]? = some d → ∃ v F', vs[i]? = some v ∧ Rep K Γ H d v F' ∧ (∀ a ∈ F', a ∈ F) ∧ (F.Nodup → F'.Nodup)
  | d :: ds, v :: vs, F, 0, d', h, e => by
    obtain ⟨F1, F2, e1, r, rs⟩ := h
    cases e
    exact ⟨v, F1, rfl, r, fun a m => by rw [e1]; exact List.mem_append_left _ m, fun n => by rw [e1] at n; exact (List.nodup_append.mp n).1⟩
  | d :: ds, v :: vs, F, i + 1, d', h, e => by
    obtain ⟨F1, F2, e1, r, rs⟩ := h
    obtain ⟨v', F', g1, g2, g3, g4⟩ := Reps.get (i := i) rs (by simpa using e)
    exact ⟨v', F', by simpa using g1, g2, fun a m => by rw [e1]; exact List.mem_append_right _ (g3 a m), fun n => by rw [e1] at n; exact g4 (List.nodup_append.mp n).2.1⟩
  | [], [], _, _, _, _, e => by simp at e
  | [], _ :: _, _, _, _, h, _ => h.elim
  | _ :: _, [], _, _, _, h, _ => h.elim
theorem Reps.get0 {ds : List D} {vs : List V} {i : Nat} {d : D} (h : Reps K Γ H ds vs []) (e : ds[i]? = some d) : ∃ v, vs[i]? = some v ∧ Rep K Γ H d v [] := by
  obtain ⟨v, F', g1, g2, g3, _⟩ := h.get e
  have : F' = [] := List.eq_nil_iff_forall_not_mem.mpr fun a m => nomatch g3 a m
  rw [this] at g2
  exact ⟨v, g1, g2⟩
theorem Reps.append : ∀ {ds : List D} {vs : List V} {F : List Addr} {ds' : List D} {vs' : List V} {F' : List Addr}, Reps K Γ H ds vs F → Reps K Γ H ds' vs' F' → Reps K Γ H (ds ++ ds') (vs ++ vs') (F ++ F')
  | [], [], F, _, _, _, h, g => by
    have e : F = [] := h
    rw [e]; exact g
  | d :: ds, v :: vs, F, _, _, F', h, g => by
    obtain ⟨F1, F2, e1, r, rs⟩ := h
    exact ⟨F1, F2 ++ F', by rw [e1, List.append_assoc], r, Reps.append rs g⟩
  | [], _ :: _, _, _, _, _, h, _ => h.elim
  | _ :: _, [], _, _, _, _, h, _ => h.elim
theorem Reps.append0 {ds : List D} {vs : List V} {ds' : List D} {vs' : List V} (h : Reps K Γ H ds vs []) (g : Reps K Γ H ds' vs' []) : Reps K Γ H (ds ++ ds') (vs ++ vs') [] := h.append g
theorem Reps.one {d : D} {v : V} {F : List Addr} (h : Rep K Γ H d v F) : Reps K Γ H [d] [v] F := ⟨F, [], by simp, h, rfl⟩
theorem Reps.cons0 {d : D} {v : V} {ds : List D} {vs : List V} (h : Rep K Γ H d v []) (g : Reps K Γ H ds vs []) : Reps K Γ H (d :: ds) (v :: vs) [] := ⟨[], [], rfl, h, g⟩
theorem app_nil {F1 F2 : List Addr} (e : ([] : List Addr) = F1 ++ F2) : F1 = [] ∧ F2 = [] := List.append_eq_nil_iff.mp e.symm
theorem Reps.uncons0 {d : D} {v : V} {ds : List D} {vs : List V} (h : Reps K Γ H (d :: ds) (v :: vs) []) : Rep K Γ H d v [] ∧ Reps K Γ H ds vs [] := by
  obtain ⟨F1, F2, e, r, rs⟩ := h
  obtain ⟨rfl, rfl⟩ := app_nil e
  exact ⟨r, rs⟩
theorem Reps.take0 : ∀ {ds : List D} {vs : List V} (n : Nat), Reps K Γ H ds vs [] → Reps K Γ H (ds.take n) (vs.take n) []
  | _, _, 0, _ => rfl
  | [], [], _ + 1, h => h
  | d :: ds, v :: vs, n + 1, h => Reps.cons0 h.uncons0.1 (Reps.take0 n h.uncons0.2)
  | [], _ :: _, _ + 1, h => h.elim
  | _ :: _, [], _ + 1, h => h.elim
theorem Reps.drop0 : ∀ {ds : List D} {vs : List V} (n : Nat), Reps K Γ H ds vs [] → Reps K Γ H (ds.drop n) (vs.drop n) []
  | _, _, 0, h => h
  | [], [], _ + 1, h => h
  | d :: ds, v :: vs, n + 1, h => Reps.drop0 n h.uncons0.2
  | [], _ :: _, _ + 1, h => h.elim
  | _ :: _, [], _ + 1, h => h.elim
theorem Reps.set0 : ∀ {ds : List D} {vs : List V} {d : D} {v : V} (n : Nat), Reps K Γ H ds vs [] → Rep K Γ H d v [] → Reps K Γ H (ds.set n d) (vs.set n v) []
  | [], [], _, _, _, h, _ => h
  | d :: ds, v :: vs, _, _, 0, h, r => Reps.cons0 r h.uncons0.2
  | d :: ds, v :: vs, _, _, n + 1, h, r => Reps.cons0 h.uncons0.1 (Reps.set0 n h.uncons0.2 r)
  | [], _ :: _, _, _, _, h, _ => h.elim
  | _ :: _, [], _, _, _, h, _ => h.elim
theorem Reps.erase0 : ∀ {ds : List D} {vs : List V} (n : Nat), Reps K Γ H ds vs [] → Reps K Γ H (ds.eraseIdx n) (vs.eraseIdx n) []
  | [], [], _, h => h
  | d :: ds, v :: vs, 0, h => h.uncons0.2
  | d :: ds, v :: vs, n + 1, h => Reps.cons0 h.uncons0.1 (Reps.erase0 n h.uncons0.2)
  | [], _ :: _, _, h => h.elim
  | _ :: _, [], _, h => h.elim
theorem Reps.rev0 : ∀ {ds : List D} {vs : List V}, Reps K Γ H ds vs [] → Reps K Γ H ds.reverse vs.reverse []
  | [], [], h => h
  | d :: ds, v :: vs, h => by
    rw [List.reverse_cons, List.reverse_cons]
    exact (Reps.rev0 h.uncons0.2).append0 (Reps.one h.uncons0.1)
  | [], _ :: _, h => h.elim
  | _ :: _, [], h => h.elim
theorem Reps.rep0 {ds : List D} {vs : List V} (h : Reps K Γ H ds vs []) : ∀ k : Nat, Reps K Γ H (List.replicate k ds).flatten (List.replicate k vs).flatten []
  | 0 => rfl
  | k + 1 => by
    rw [List.replicate_succ, List.replicate_succ, List.flatten_cons, List.flatten_cons]
    exact h.append0 (Reps.rep0 h k)
theorem Reps.ints : ∀ {ns : List Int} {vs : List V} {F : List Addr}, Reps K Γ H (ns.map D.int) vs F → vs = ns.map V.int ∧ F = []
  | [], [], _, h => ⟨rfl, h⟩
  | n :: ns, v :: vs, F, h => by
    obtain ⟨F1, F2, e, r, rs⟩ := h
    obtain ⟨e1, e2⟩ := Reps.ints rs
    rw [e, e1, e2, r.1, r.2]
    exact ⟨rfl, rfl⟩
  | [], _ :: _, _, h => h.elim
  | _ :: _, [], _, h => h.elim
theorem Reps.strs : ∀ {ns : List Str} {vs : List V} {F : List Addr}, Reps K Γ H (ns.map D.str) vs F → vs = ns.map V.str ∧ F = []
  | [], [], _, h => ⟨rfl, h⟩
  | n :: ns, v :: vs, F, h => by
    obtain ⟨F1, F2, e, r, rs⟩ := h
    obtain ⟨e1, e2⟩ := Reps.strs rs
    rw [e, e1, e2, r.1, r.2]
    exact ⟨rfl, rfl⟩
  | [], _ :: _, _, h => h.elim
  | _ :: _, [], _, h => h.elim
theorem Reps.ofInts : ∀ {ns : List Int}, Reps K Γ H (ns.map D.int) (ns.map V.int) []
  | [] => rfl
  | n :: ns => Reps.cons0 ⟨rfl, rfl⟩ Reps.ofInts
theorem Reps.ofStrs : ∀ {ns : List Str}, Reps K Γ H (ns.map D.str) (ns.map V.str) []
  | [] => rfl
  | n :: ns => Reps.cons0 ⟨rfl, rfl⟩ Reps.ofStrs
end

/-! ### runs -/
inductive R (α : Type) where
  | ok (a : α) (e : SD) | exc (c : String) (e : SD) | bad
def R.bind {α β : Type} (r : R α) (f : α → SD → R β) : R β := match r with
  | .ok a e => f a e
  | .exc c e => .exc c e
  | .bad => .bad
@[simp] theorem R.bind_ok {α β : Type} (a : α) (e : SD) (f : α → SD → R β) : (R.ok a e).bind f = f a e := rfl
@[simp] theorem R.bind_exc {α β : Type} (c : String) (e : SD) (f : α → SD → R β) : (R.exc c e : R α).bind f = .exc c e := rfl
@[simp] theorem R.bind_bad {α β : Type} (f : α → SD → R β) : (R.bad : R α).bind f = .bad := rfl
/-- a step that may get stuck -/
def R.opt {α : Type} (o : Option α) (e : SD) : R α := match o with
  | some a => .ok a e
  | none => .bad
@[simp] theorem R.opt_some {α : Type} (a : α) (e : SD) : R.opt (some a) e = .ok a e := rfl
@[simp] theorem R.opt_none {α : Type} (e : SD) : R.opt (none : Option α) e = .bad := rfl
def hold {α : Type} (r : R α) (Q : α → SD → Prop) (E : String → SD → Prop) : Prop := match r with
  | .ok a e => Q a e
  | .exc c e => E c e
  | .bad => False
theorem hold_bind {α β : Type} {r : R α} {f : α → SD → R β} {Q : β → SD → Prop} {E : String → SD → Prop} (h : hold (r.bind f) Q E) : hold r (fun a e => hold (f a e) Q E) E := by
  cases r with
  | ok a e => exact h
  | exc c e => exact h
  | bad => exact h
theorem hold_opt {α : Type} {o : Option α} {e : SD} {Q : α → SD → Prop} {E : String → SD → Prop} (h : hold (R.opt o e) Q E) : ∃ a, o = some a ∧ Q a e := by
  cases o with
  | some a => exact ⟨a, rfl, h⟩
  | none => exact h.elim
theorem hold_mono {α : Type} {r : R α} {Q Q' : α → SD → Prop} {E E' : String → SD → Prop} (h : hold r Q E) (hq : ∀ a e, Q a e → Q' a e) (he : ∀ c e, E c e → E' c e) : hold r Q' E' := by
  cases r with
  | ok a e => exact hq a e h
  | exc c e => exact he c e h
  | bad => exact h

abbrev Fp := Nat → List Addr
/-- the slots hold the data; what is held is held once -/
structure RE (K : PySem.W.Frag) (Γ : Gm) (H : Hp) (σ : L2.St) (env : SD) (fp : Fp) : Prop where
  slot : ∀ i d, env[i]? = some (some d) → ∃ v, σ[i]? = some (some v) ∧ Rep K Γ H d v (fp i)
  void : ∀ i, (∀ d, env[i]? ≠ some (some d)) → fp i = []
  dis : ∀ i j a, a ∈ fp i → a ∈ fp j → i = j
  nd : ∀ i, (fp i).Nodup
  ng : ∀ i a, a ∈ fp i → ¬ Γ.G a
  pin : ∀ i ∈ Γ.pins, σ[i]? = Γ.σ0[i]?
  base : ∀ a o, Γ.G a → Γ.H0 a = some o → H a = some o
  len : σ.length = env.length
structure Fm (H : Hp) (fp : Fp) (H' : Hp) (fp' : Fp) : Prop where
  keep : ∀ a o, H a = some o → (∀ i, a ∉ fp i) → H' a = some o
  new : ∀ i a, a ∈ fp' i → (∃ j, a ∈ fp j) ∨ H a = none
theorem Fm.refl {H : Hp} {fp : Fp} : Fm H fp H fp := ⟨fun _ _ h _ => h, fun i _ m => .inl ⟨i, m⟩⟩
theorem Fm.trans {H H1 H2 : Hp} {fp fp1 fp2 : Fp} (a : Fm H fp H1 fp1) (b : Fm H1 fp1 H2 fp2) : Fm H fp H2 fp2 := by
  refine ⟨fun x o h n => b.keep x o (a.keep x o h n) fun i m => ?_, fun i x m => ?_⟩
  · rcases a.new i x m with ⟨j, q⟩ | q
    · exact n j q
    · rw [h] at q; cases q
  · rcases b.new i x m with ⟨j, q⟩ | q
    · exact a.new j x q
    · by_cases hx : ∃ j, x ∈ fp j
      · exact .inl hx
      · refine .inr ?_
        cases e : H x with
        | none => rfl
        | some o =>
          have := a.keep x o e fun j z => hx ⟨j, z⟩
          rw [q] at this; cases this
/-- new ones stay new, seen from further back -/
theorem Fm.back {H H1 : Hp} {fp fp1 : Fp} (a : Fm H fp H1 fp1) {x : Addr} (h : (∃ j, x ∈ fp1 j) ∨ H1 x = none) : (∃ j, x ∈ fp j) ∨ H x = none := by
  rcases h with ⟨j, q⟩ | q
  · exact a.new j x q
  · by_cases hx : ∃ j, x ∈ fp j
    · exact .inl hx
    · refine .inr ?_
      cases e : H x with
      | none => rfl
      | some o =>
        have := a.keep x o e fun j z => hx ⟨j, z⟩
        rw [q] at this; cases this
theorem Fm.same {H H' : Hp} {fp : Fp} (s : Same H H') : Fm H fp H' fp := ⟨fun a o h _ => s a o h, fun i _ m => .inl ⟨i, m⟩⟩

section
variable {K : PySem.W.Frag} {Γ : Gm} {H H' : Hp} {σ : L2.St} {env env' : SD} {fp fp' : Fp}
theorem RE.mut (r : RE K Γ H σ env fp) {i : Nat} {a : Addr} (m : a ∈ fp i) : Mut (H a) := by
  by_cases h : ∃ d, env[i]? = some (some d)
  · obtain ⟨d, e⟩ := h
    obtain ⟨v, _, q⟩ := r.slot i d e
    exact q.mut a m
  · rw [r.void i fun d e => h ⟨d, e⟩] at m
    cases m
theorem RE.there (r : RE K Γ H σ env fp) {i : Nat} {a : Addr} (m : a ∈ fp i) : ∃ o, H a = some o := by
  have := r.mut m
  cases e : H a with
  | none => rw [e] at this; exact this.elim
  | some o => exact ⟨o, rfl⟩
/-- a value that is held apart stands on -/
theorem Rep.held {d : D} {v : V} {F : List Addr} (h : Rep K Γ H d v F) (r : RE K Γ H σ env fp) (f : Fm H fp H' fp') (n : ∀ a ∈ F, ∀ i, a ∉ fp i) : Rep K Γ H' d v F :=
  h.ag fun a o e q => f.keep a o e fun i m => by
    rcases q with q | q | q
    · exact n a q i m
    · have := r.mut m
      rw [e] at this
      exact q this
    · exact r.ng i a m q
theorem Reps.held {d : List D} {v : List V} {F : List Addr} (h : Reps K Γ H d v F) (r : RE K Γ H σ env fp) (f : Fm H fp H' fp') (n : ∀ a ∈ F, ∀ i, a ∉ fp i) : Reps K Γ H' d v F :=
  h.ag fun a o e q => f.keep a o e fun i m => by
    rcases q with q | q | q
    · exact n a q i m
    · have := r.mut m
      rw [e] at this
      exact q this
    · exact r.ng i a m q
theorem RE.same (r : RE K Γ H σ env fp) (s : Same H H') : RE K Γ H' σ env fp :=
  ⟨fun i d e => let ⟨v, h, q⟩ := r.slot i d e; ⟨v, h, q.same s⟩, r.void, r.dis, r.nd, r.ng, r.pin, fun a o g h => s a o (r.base a o g h), r.len⟩
end

/-- what is told of a value behind an expression -/
structure Out (K : PySem.W.Frag) (Γ : Gm) (p f : Bool) (σ : L2.St) (H : Hp) (env : SD) (fp : Fp) (d : D) (env' : SD) (v : V) (H' : Hp) (fp' : Fp) (Fr : List Addr) : Prop where
  re : RE K Γ H' σ env' fp'
  rep : Rep K Γ H' d v Fr
  nd : Fr.Nodup
  fm : Fm H fp H' fp'
  nw : ∀ a ∈ Fr, (∃ j, a ∈ fp j) ∨ H a = none
  pu : p = true → env' = env ∧ fp' = fp ∧ Same H H'
  fr : f = true → ∀ a ∈ Fr, ∀ i, a ∉ fp' i
abbrev Wx := String → L2.St → Hp → Prop
/-- an expression's reading is as the function says: p: nothing is written, f: the value is new, or can't be written -/
def Sat (K : PySem.W.Frag) (Γ : Gm) (W : Wx) (p f : Bool) (t : TE) (ev : SD → R D) : Prop :=
  ∀ σ H env fp, RE K Γ H σ env fp → ∀ Q : VK, hold (ev env) (fun d env' => ∀ v H' fp' Fr, Out K Γ p f σ H env fp d env' v H' fp' Fr → Q v H')
    (fun c env' => ∀ H' fp', RE K Γ H' σ env' fp' → Fm H fp H' fp' → W c σ H') → t σ H Q
structure J (X : Cx) (Γ : Gm) (W : Wx) (p f : Bool) (e : Expr) (ev : SD → R D) : Prop where
  ex : ∃ t, PE X e t ∧ Sat X.K Γ W p f t ev
/-- a test -/
def SatT (K : PySem.W.Frag) (Γ : Gm) (W : Wx) (p : Bool) (t : TT) (ev : SD → R Bool) : Prop :=
  ∀ σ H env fp, RE K Γ H σ env fp → ∀ Q : Bool → Hp → Prop, hold (ev env) (fun b env' => ∀ H' fp', RE K Γ H' σ env' fp' → Fm H fp H' fp' → (p = true → env' = env ∧ fp' = fp ∧ Same H H') → Q b H')
    (fun c env' => ∀ H' fp', RE K Γ H' σ env' fp' → Fm H fp H' fp' → W c σ H') → t σ H Q
structure JT (X : Cx) (Γ : Gm) (W : Wx) (p : Bool) (e : Expr) (ev : SD → R Bool) : Prop where
  ex : ∃ t, PT X e t ∧ SatT X.K Γ W p t ev
structure JW (X : Cx) (Γ : Gm) (W : Wx) (p : Bool) (e : Expr) (ev : SD → R Bool) : Prop where
  ex : ∃ t, PW X e t ∧ SatT X.K Γ W p t ev
/-- arguments -/
structure OutA (K : PySem.W.Frag) (Γ : Gm) (p f : Bool) (σ : L2.St) (H : Hp) (env : SD) (fp : Fp) (d : List D) (env' : SD) (v : List V) (H' : Hp) (fp' : Fp) (Fr : List Addr) : Prop where
  re : RE K Γ H' σ env' fp'
  rep : Reps K Γ H' d v Fr
  fm : Fm H fp H' fp'
  nw : ∀ a ∈ Fr, (∃ j, a ∈ fp j) ∨ H a = none
  pu : p = true → env' = env ∧ fp' = fp ∧ Same H H'
  fr : f = true → ∀ a ∈ Fr, ∀ i, a ∉ fp' i
def SatA (K : PySem.W.Frag) (Γ : Gm) (W : Wx) (p f : Bool) (t : TA) (ev : SD → R (List D)) : Prop :=
  ∀ σ H env fp, RE K Γ H σ env fp → ∀ Q : List V → Hp → Prop, hold (ev env) (fun d env' => ∀ v H' fp' Fr, OutA K Γ p f σ H env fp d env' v H' fp' Fr → Q v H')
    (fun c env' => ∀ H' fp', RE K Γ H' σ env' fp' → Fm H fp H' fp' → W c σ H') → t σ H Q
structure JA (X : Cx) (Γ : Gm) (W : Wx) (p f : Bool) (es : List Expr) (ev : SD → R (List D)) : Prop where
  ex : ∃ t, PA X es t ∧ SatA X.K Γ W p f t ev
/-- statements -/
inductive Fl where | nx | rt (d : D) | bk | ct
def SatS (K : PySem.W.Frag) (Γ : Gm) (W : Wx) (t : TS) (ev : SD → R Fl) : Prop :=
  ∀ σ H env fp, RE K Γ H σ env fp → ∀ Z : Ends, hold (ev env) (fun fl env' => match fl with
      | .nx => ∀ σ' H' fp', RE K Γ H' σ' env' fp' → Fm H fp H' fp' → Z.nx σ' H'
      | .bk => ∀ σ' H' fp', RE K Γ H' σ' env' fp' → Fm H fp H' fp' → Z.bk σ' H'
      | .ct => ∀ σ' H' fp', RE K Γ H' σ' env' fp' → Fm H fp H' fp' → Z.ct σ' H'
      | .rt d => ∀ v σ' H' fp' Fr, RE K Γ H' σ' env' fp' → Fm H fp H' fp' → Rep K Γ H' d v Fr → Fr.Nodup → (∀ a ∈ Fr, ∀ i, a ∉ fp' i) → (∀ a ∈ Fr, (∃ j, a ∈ fp j) ∨ H a = none) → Z.rt v H')
    (fun c env' => ∀ σ' H' fp', RE K Γ H' σ' env' fp' → Fm H fp H' fp' → W c σ' H') → t Z σ H
structure JS (X : Cx) (Γ : Gm) (W : Wx) (st : Stmt) (ev : SD → R Fl) : Prop where
  ex : ∃ t, PS X st t ∧ SatS X.K Γ W t ev
structure JB (X : Cx) (Γ : Gm) (W : Wx) (st : List Stmt) (ev : SD → R Fl) : Prop where
  ex : ∃ t, PSs X st t ∧ SatS X.K Γ W t ev
end Vs

namespace Vs
open PySem PySem.Spec PyProof.Rows L2

/-! ### expressions -/
def eVar (i : Nat) : SD → R D := fun env => match env[i]? with
  | some (some d) => .ok d env
  | _ => .bad
def eC (d : D) : SD → R D := fun env => .ok d env
def eBin (g : D → D → Option D) (a b : SD → R D) : SD → R D := fun env => (a env).bind fun x e1 => (b e1).bind fun y e2 => R.opt (g x y) e2
def eUn (g : D → Option D) (a : SD → R D) : SD → R D := fun env => (a env).bind fun x e1 => R.opt (g x) e1
def eArgs (g : List D → Option D) (a : SD → R (List D)) : SD → R D := fun env => (a env).bind fun x e1 => R.opt (g x) e1
def aNil : SD → R (List D) := fun env => .ok [] env
def aCons (a : SD → R D) (r : SD → R (List D)) : SD → R (List D) := fun env => (a env).bind fun x e1 => (r e1).bind fun xs e2 => .ok (x :: xs) e2

section
variable {X : Cx} {Γ : Gm} {W : Wx} {p p' fa fb f : Bool} {a b : Expr} {eva evb : SD → R D}
theorem RE.fresh {K : PySem.W.Frag} {H : Hp} {σ : L2.St} {env : SD} {fp : Fp} (r : RE K Γ H σ env fp) {x : Addr} (n : H x = none) : ∀ i, x ∉ fp i := fun i m => by
  obtain ⟨o, e⟩ := r.there m
  rw [n] at e; cases e
theorem J.weak (h : J X Γ W p f a eva) : J X Γ W false f a eva := by
  obtain ⟨t, pe, s⟩ := h.ex
  exact ⟨t, pe, fun σ H env fp re Q q => s σ H env fp re Q (hold_mono q (fun d e k v H' fp' Fr o => k v H' fp' Fr ⟨o.re, o.rep, o.nd, o.fm, o.nw, (fun z => nomatch z), o.fr⟩) fun _ _ z => z)⟩
theorem J.alias (h : J X Γ W p f a eva) : J X Γ W p false a eva := by
  obtain ⟨t, pe, s⟩ := h.ex
  exact ⟨t, pe, fun σ H env fp re Q q => s σ H env fp re Q (hold_mono q (fun d e k v H' fp' Fr o => k v H' fp' Fr ⟨o.re, o.rep, o.nd, o.fm, o.nw, o.pu, fun z => nomatch z⟩) fun _ _ z => z)⟩
/-- an alias that can't be written is as good as new -/
def eImm (ev : SD → R D) : SD → R D := fun env => (ev env).bind fun d e => if isImm d = true then .ok d e else .bad
theorem J.imm (h : J X Γ W p f a eva) : J X Γ W p true a (eImm eva) := by
  obtain ⟨t, pe, s⟩ := h.ex
  refine ⟨t, pe, fun σ H env fp re Q q => s σ H env fp re Q (hold_mono (hold_bind q) (fun d e k v H' fp' Fr o => ?_) fun _ _ z => z)⟩
  by_cases hi : isImm d = true
  · rw [if_pos hi] at k
    exact k v H' fp' Fr ⟨o.re, o.rep, o.nd, o.fm, o.nw, o.pu, fun _ x m => by rw [o.rep.immF hi] at m; cases m⟩
  · rw [if_neg hi] at k
    exact k.elim
theorem j_var (i : Nat) {x : Str} {pos : Pos} (hN : X.N[i]? = some x := by rfl) (hv : Vis X.env.scope x := by first | exact Or.inl rfl | exact Or.inr (Or.inl rfl) | exact Or.inr (Or.inr rfl)) (hd : (x == ("__debug__" : Str)) = false := by decide)
    (hcd : (x == ("__classdict__" : Str)) = false := by decide) : J X Γ W true false (.Name x pos) (eVar i) := by
  refine ⟨_, pe_var (i := i) hN hv hd hcd, fun σ H env fp re Q h => ?_⟩
  unfold eVar at h
  split at h
  · rename_i d e
    obtain ⟨v, e1, r⟩ := re.slot i d e
    exact ⟨v, e1, h v H fp (fp i) ⟨re, r, re.nd i, Fm.refl, fun a m => .inl ⟨i, m⟩, fun _ => ⟨rfl, rfl, Same.refl H⟩, fun z => nomatch z⟩⟩
  · exact h.elim
theorem sat_c {K : PySem.W.Frag} {d : D} {v : V} (h : ∀ H, Rep K Γ H d v []) : Sat K Γ W true true (tC v) (eC d) := fun σ H env fp re Q q =>
  q v H fp [] ⟨re, h H, List.nodup_nil, Fm.refl, (fun _ m => nomatch m), fun _ => ⟨rfl, rfl, Same.refl H⟩, fun _ _ m => nomatch m⟩
theorem j_int {i k pos} : J X Γ W true true (.Constant (.int i) k pos) (eC (.int i)) := ⟨_, pe_int, sat_c fun _ => ⟨rfl, rfl⟩⟩
theorem j_bl {b k pos} : J X Γ W true true (.Constant (.bool b) k pos) (eC (.bl b)) := ⟨_, pe_bl, sat_c fun _ => ⟨rfl, rfl⟩⟩
theorem j_non {k pos} : J X Γ W true true (.Constant .none k pos) (eC .non) := ⟨_, pe_non, sat_c fun _ => ⟨rfl, rfl⟩⟩
theorem j_str {x k pos} : J X Γ W true true (.Constant (.str x) k pos) (eC (.str x)) := ⟨_, pe_str, sat_c fun _ => ⟨rfl, rfl⟩⟩
/-- a module's constant -/
theorem j_glob {x : Str} {d : D} {v : V} {u : Value} {pos : Pos} (hg : Gl X x) (hm : X.mg x = some u) (r : RelV v u) (h : ∀ H, Rep X.K Γ H d v []) (hd : (x == ("__debug__" : Str)) = false := by decide) : J X Γ W true true (.Name x pos) (eC d) :=
  ⟨_, pe_glob hg hm r hd, sat_c h⟩

/-- behind two operands -/
structure Two (K : PySem.W.Frag) (Γ : Gm) (p fa fb : Bool) (σ : L2.St) (H : Hp) (env : SD) (fp : Fp) (da db : D) (e2 : SD) (x y : V) (H2 : Hp) (fp2 : Fp) (Fa Fb : List Addr) : Prop where
  ra : Rep K Γ H2 da x Fa
  rb : Rep K Γ H2 db y Fb
  re : RE K Γ H2 σ e2 fp2
  fm : Fm H fp H2 fp2
  pu : p = true → e2 = env ∧ fp2 = fp ∧ Same H H2
  na : ∀ z ∈ Fa, (∃ j, z ∈ fp j) ∨ H z = none
  nb : ∀ z ∈ Fb, (∃ j, z ∈ fp j) ∨ H z = none
  nda : Fa.Nodup
  ndb : Fb.Nodup
  fra : fa = true → ∀ z ∈ Fa, ∀ i, z ∉ fp2 i
  frb : fb = true → ∀ z ∈ Fb, ∀ i, z ∉ fp2 i
theorem sat2 {K : PySem.W.Frag} {ta tb : TE} (sa : Sat K Γ W p fa ta eva) (sb : Sat K Γ W p' fb tb evb) (hpf : (p' || fa) = true) {σ : L2.St} {H : Hp} {env : SD} {fp : Fp} (re : RE K Γ H σ env fp) {β : Type} {k : D → D → SD → R β}
    {Qo : β → SD → Prop} {Ex : String → SD → Prop} (h : hold ((eva env).bind fun da e1 => (evb e1).bind fun db e2 => k da db e2) Qo Ex) (hE : ∀ c e, Ex c e → ∀ H' fp', RE K Γ H' σ e fp' → Fm H fp H' fp' → W c σ H')
    {Rr : V → V → Hp → Prop} (fin : ∀ da db e2 x y H2 fp2 Fa Fb, Two K Γ (p && p') fa fb σ H env fp da db e2 x y H2 fp2 Fa Fb → hold (k da db e2) Qo Ex → Rr x y H2) : ta σ H fun x H1 => tb σ H1 fun y H2 => Rr x y H2 := by
  refine sa σ H env fp re _ (hold_mono (hold_bind h) (fun da e1 h1 x H1 fp1 Fa oa => ?_) fun c e z H' fp' r' f' => hE c e z H' fp' r' f')
  refine sb σ H1 e1 fp1 oa.re _ (hold_mono (hold_bind h1) (fun db e2 h2 y H2 fp2 Fb ob => ?_) fun c e z H' fp' r' f' => hE c e z H' fp' r' (oa.fm.trans f'))
  have ra : Rep K Γ H2 da x Fa := by
    cases hp : p' with
    | true => exact oa.rep.same (ob.pu hp).2.2
    | false =>
      rw [hp] at hpf
      exact oa.rep.held oa.re ob.fm (oa.fr (by simpa using hpf))
  refine fin da db e2 x y H2 fp2 Fa Fb ⟨ra, ob.rep, ob.re, oa.fm.trans ob.fm, fun z => ?_, oa.nw, fun z m => oa.fm.back (ob.nw z m), oa.nd, ob.nd, fun ft z m i mi => ?_, ob.fr⟩ h2
  · rw [Bool.and_eq_true] at z
    obtain ⟨q1, q2, q3⟩ := oa.pu z.1
    obtain ⟨r1, r2, r3⟩ := ob.pu z.2
    exact ⟨r1.trans q1, r2.trans q2, q3.trans r3⟩
  · rcases ob.fm.new i z mi with ⟨j, q⟩ | q
    · exact oa.fr ft z m j q
    · have hm := oa.rep.mut z m
      rw [q] at hm
      exact hm
/-- an operation on two values that makes a new one -/
def OpSat (K : PySem.W.Frag) (Γ : Gm) (r : R2) (g : D → D → Option D) : Prop := ∀ (H : Hp) (x y : V) (dx dy : D) (Fx Fy : List Addr) (d : D) (Q : VK), Rep K Γ H dx x Fx → Rep K Γ H dy y Fy → g dx dy = some d →
  (∀ v H' Fr, Rep K Γ H' d v Fr → Fr.Nodup → Same H H' → (∀ z ∈ Fr, H z = none) → Q v H') → r x y H Q
theorem j_bop {op : Operator} {r : R2} {g : D → D → Option D} {pos : Pos} (ho : OpR X (binaryOp op) r) (hs : OpSat X.K Γ r g) (ha : J X Γ W p fa a eva) (hb : J X Γ W p' fb b evb) (hpf : (p' || fa) = true := by rfl) :
    J X Γ W (p && p') true (.BinOp a op b pos) (eBin g eva evb) := by
  obtain ⟨ta, pa, sa⟩ := ha.ex
  obtain ⟨tb, pb, sb⟩ := hb.ex
  refine ⟨_, pe_op ho pa pb, fun σ H env fp re Q h => ?_⟩
  refine sat2 sa sb hpf re h (fun c e z H' fp' r' f' => z H' fp' r' f') fun da db e2 x y H2 fp2 Fa Fb t q => ?_
  obtain ⟨d, hg, q⟩ := hold_opt q
  refine hs H2 x y da db Fa Fb d Q t.ra t.rb hg fun v H3 Fr r3 n3 sm nw => q v H3 fp2 Fr ⟨t.re.same sm, r3, n3, t.fm.trans (Fm.same sm), fun z m => t.fm.back (.inr (nw z m)), fun z => ?_, fun _ z m i => t.re.fresh (nw z m) i⟩
  obtain ⟨q1, q2, q3⟩ := t.pu z
  exact ⟨q1, q2, q3.trans sm⟩
theorem j_cmp {op : CmpOp} {r : R2} {g : D → D → Option D} {pos : Pos} (ho : OpR X (compareOp op) r) (hs : OpSat X.K Γ r g) (ha : J X Γ W p fa a eva) (hb : J X Γ W p' fb b evb) (hm : behindInMarks op b = false) (hpf : (p' || fa) = true := by rfl) :
    J X Γ W (p && p') true (.Compare a [op] [b] pos) (eBin g eva evb) := by
  obtain ⟨ta, pa, sa⟩ := ha.ex
  obtain ⟨tb, pb, sb⟩ := hb.ex
  refine ⟨_, pe_cmpR ho pa pb hm, fun σ H env fp re Q h => ?_⟩
  refine sat2 sa sb hpf re h (fun c e z H' fp' r' f' => z H' fp' r' f') fun da db e2 x y H2 fp2 Fa Fb t q => ?_
  obtain ⟨d, hg, q⟩ := hold_opt q
  refine hs H2 x y da db Fa Fb d Q t.ra t.rb hg fun v H3 Fr r3 n3 sm nw => q v H3 fp2 Fr ⟨t.re.same sm, r3, n3, t.fm.trans (Fm.same sm), fun z m => t.fm.back (.inr (nw z m)), fun z => ?_, fun _ z m i => t.re.fresh (nw z m) i⟩
  obtain ⟨q1, q2, q3⟩ := t.pu z
  exact ⟨q1, q2, q3.trans sm⟩
/-- one operand -/
def UnSat (K : PySem.W.Frag) (Γ : Gm) (r : V → Hp → VK → Prop) (g : D → Option D) : Prop := ∀ (H : Hp) (x : V) (dx : D) (Fx : List Addr) (d : D) (Q : VK), Rep K Γ H dx x Fx → g dx = some d →
  (∀ v H' Fr, Rep K Γ H' d v Fr → Fr.Nodup → Same H H' → (∀ z ∈ Fr, H z = none) → Q v H') → r x H Q
theorem j_uop {op : UnaryOp} {r : V → Hp → VK → Prop} {g : D → Option D} {pos : Pos} (ho : UnR X (unaryOp op) r) (hs : UnSat X.K Γ r g) (ha : J X Γ W p fa a eva) : J X Γ W p true (.UnaryOp op a pos) (eUn g eva) := by
  obtain ⟨ta, pa, sa⟩ := ha.ex
  refine ⟨_, pe_un ho pa, fun σ H env fp re Q h => ?_⟩
  refine sa σ H env fp re _ (hold_mono (hold_bind h) (fun da e1 h1 x H1 fp1 Fa oa => ?_) fun c e z => z)
  obtain ⟨d, hg, q⟩ := hold_opt h1
  refine hs H1 x da Fa d Q oa.rep hg fun v H3 Fr r3 n3 sm nw => q v H3 fp1 Fr ⟨oa.re.same sm, r3, n3, oa.fm.trans (Fm.same sm), fun z m => oa.fm.back (.inr (nw z m)), fun z => ?_, fun _ z m i => oa.re.fresh (nw z m) i⟩
  obtain ⟨q1, q2, q3⟩ := oa.pu z
  exact ⟨q1, q2, q3.trans sm⟩

/-! ### arguments -/
variable {es : List Expr} {evs : SD → R (List D)}
theorem ja_nil : JA X Γ W true true [] aNil :=
  ⟨_, pa_nil, fun σ H env fp re Q q => q [] H fp [] ⟨re, rfl, Fm.refl, (fun _ m => nomatch m), fun _ => ⟨rfl, rfl, Same.refl H⟩, fun _ _ m => nomatch m⟩⟩
theorem ja_cons (ha : J X Γ W p fa a eva) (hr : JA X Γ W p' fb es evs) (hs : starEach (a :: es) X.env = (false, eval a X.env) :: starEach es X.env := by rfl) (hpf : (p' || fa) = true := by rfl) :
    JA X Γ W (p && p') (fa && fb) (a :: es) (aCons eva evs) := by
  obtain ⟨ta, pa, sa⟩ := ha.ex
  obtain ⟨tb, pb, sb⟩ := hr.ex
  refine ⟨_, pa_cons pa pb hs, fun σ H env fp re Q h => ?_⟩
  refine sa σ H env fp re _ (hold_mono (hold_bind h) (fun da e1 h1 x H1 fp1 Fa oa => ?_) fun c e z H' fp' r' f' => z H' fp' r' f')
  refine sb σ H1 e1 fp1 oa.re _ (hold_mono (hold_bind h1) (fun db e2 h2 y H2 fp2 Fb ob => ?_) fun c e z H' fp' r' f' => z H' fp' r' (oa.fm.trans f'))
  have ra : Rep X.K Γ H2 da x Fa := by
    cases hp : p' with
    | true => exact oa.rep.same (ob.pu hp).2.2
    | false =>
      rw [hp] at hpf
      exact oa.rep.held oa.re ob.fm (oa.fr (by simpa using hpf))
  refine h2 (x :: y) H2 fp2 (Fa ++ Fb) ⟨ob.re, ⟨Fa, Fb, rfl, ra, ob.rep⟩, oa.fm.trans ob.fm, fun z m => ?_, fun z => ?_, fun z w m i mi => ?_⟩
  · rcases List.mem_append.mp m with m | m
    · exact oa.nw z m
    · exact oa.fm.back (ob.nw z m)
  · rw [Bool.and_eq_true] at z
    obtain ⟨q1, q2, q3⟩ := oa.pu z.1
    obtain ⟨r1, r2, r3⟩ := ob.pu z.2
    exact ⟨r1.trans q1, r2.trans q2, q3.trans r3⟩
  · rw [Bool.and_eq_true] at z
    rcases List.mem_append.mp m with m | m
    · rcases ob.fm.new i w mi with ⟨j, q⟩ | q
      · exact oa.fr z.1 w m j q
      · have hm := oa.rep.mut w m
        rw [q] at hm
        exact hm
    · exact ob.fr z.2 w m i mi
/-- a call on values that makes a new one -/
def CallSat (K : PySem.W.Frag) (Γ : Gm) (r : List V → Hp → VK → Prop) (g : List D → Option D) : Prop := ∀ (H : Hp) (xs : List V) (dx : List D) (Fx : List Addr) (d : D) (Q : VK), Reps K Γ H dx xs Fx → g dx = some d →
  (∀ v H' Fr, Rep K Γ H' d v Fr → Fr.Nodup → Same H H' → (∀ z ∈ Fr, H z = none) → Q v H') → r xs H Q
theorem sat_args {K : PySem.W.Frag} {t : TA} {r : List V → Hp → VK → Prop} {g : List D → Option D} (hs : CallSat K Γ r g) (sa : SatA K Γ W p fa t evs) : Sat K Γ W p true (fun σ H Q => t σ H fun vs H1 => r vs H1 Q) (eArgs g evs) := fun σ H env fp re Q h => by
  refine sa σ H env fp re _ (hold_mono (hold_bind h) (fun da e1 h1 x H1 fp1 Fa oa => ?_) fun c e z => z)
  obtain ⟨d, hg, q⟩ := hold_opt h1
  refine hs H1 x da Fa d Q oa.rep hg fun v H3 Fr r3 n3 sm nw => q v H3 fp1 Fr ⟨oa.re.same sm, r3, n3, oa.fm.trans (Fm.same sm), fun z m => oa.fm.back (.inr (nw z m)), fun z => ?_, fun _ z m i => oa.re.fresh (nw z m) i⟩
  obtain ⟨q1, q2, q3⟩ := oa.pu z
  exact ⟨q1, q2, q3.trans sm⟩
theorem j_callB {x : Str} {q pos : Pos} {id : String} {r : List V → Hp → VK → Prop} {g : List D → Option D} (hc : CallR X (.builtin id) r) (hs : CallSat X.K Γ r g) (hg : Gl X x) (hm : X.mg x = none) (hv : bootBuiltins x = some (.builtin id)) (ha : JA X Γ W p fa (a :: es) evs)
    (hn : x ≠ "__name__" := by decide) (hdb : (x == ("__debug__" : Str)) = false := by decide) (he : starEach (a :: es) X.env = (false, eval a X.env) :: starEach es X.env := by rfl) (hpl : (backTo pos (starEach es X.env)).any (·.1) = false := by rfl) :
    J X Γ W p true (.Call (.Name x q) (a :: es) [] pos) (eArgs g evs) := by
  obtain ⟨t, pa, sa⟩ := ha.ex
  exact ⟨_, pe_callB hc hg hm hv pa hn hdb he hpl, sat_args hs sa⟩
theorem j_callTy {x : Str} {q pos : Pos} {T : String} {r : List V → Hp → VK → Prop} {g : List D → Option D} (hc : CallR X (.type T) r) (hs : CallSat X.K Γ r g) (hg : Gl X x) (hm : X.mg x = none) (hv : bootBuiltins x = some (.type T)) (ha : JA X Γ W p fa (a :: es) evs)
    (hn : x ≠ "__name__" := by decide) (hdb : (x == ("__debug__" : Str)) = false := by decide) (he : starEach (a :: es) X.env = (false, eval a X.env) :: starEach es X.env := by rfl) (hpl : (backTo pos (starEach es X.env)).any (·.1) = false := by rfl) :
    J X Γ W p true (.Call (.Name x q) (a :: es) [] pos) (eArgs g evs) := by
  obtain ⟨t, pa, sa⟩ := ha.ex
  exact ⟨_, pe_callTy hc hg hm hv pa hn hdb he hpl, sat_args hs sa⟩
/-! ### displays -/
def gTup (xs : List D) : Option D := if isImms xs = true ∧ xs.length ≤ sizeLine then some (.tup xs) else none
def gLst (xs : List D) : Option D := if isImms xs = true ∧ xs.length ≤ sizeLine then some (.lst .own xs) else none
theorem cs_tup {K : PySem.W.Frag} : CallSat K Γ (fun xs H Q => xs.length ≤ sizeLine ∧ ∀ p, H p = none → Q (.ref p) (upd H p (.tup xs))) gTup := fun H xs dx Fx d Q r hg q => by
  unfold gTup at hg
  split at hg
  · rename_i hi
    cases hg
    have f := r.immF hi.1
    subst f
    refine ⟨by rw [← r.len]; exact hi.2, fun p np => q _ _ [] ⟨p, xs, rfl, .inl (.inl upd_same), r.same (same_new np), rfl⟩ List.nodup_nil (same_new np) fun _ m => nomatch m⟩
  · cases hg
theorem cs_lst {K : PySem.W.Frag} : CallSat K Γ (fun xs H Q => xs.length ≤ sizeLine ∧ ∀ p, H p = none → Q (.ref p) (upd H p (.lst xs))) gLst := fun H xs dx Fx d Q r hg q => by
  unfold gLst at hg
  split at hg
  · rename_i hi
    cases hg
    have f := r.immF hi.1
    subst f
    refine ⟨by rw [← r.len]; exact hi.2, fun p np => q _ _ [p] ⟨p, xs, [], rfl, upd_same, r.same (same_new np), rfl⟩ (by simp) (same_new np) fun z m => ?_⟩
    rw [List.mem_singleton.mp m]; exact np
  · cases hg
theorem j_tup {k : Nat} {pos : Pos} (ha : JA X Γ W p fa es evs) : J X Γ W p true (.Tuple es k pos) (eArgs gTup evs) := by
  obtain ⟨t, pa, sa⟩ := ha.ex
  exact ⟨_, pe_tup pa, sat_args cs_tup sa⟩
theorem j_lst {pos : Pos} (ha : JA X Γ W p fa es evs) : J X Γ W p true (.List es pos) (eArgs gLst evs) := by
  obtain ⟨t, pa, sa⟩ := ha.ex
  exact ⟨_, pe_lst pa, sat_args cs_lst sa⟩
end

/-! ### freezing -/
section
variable {X : Cx} {Γ : Gm} {W : Wx} {p f : Bool} {a : Expr} {eva : SD → R D}
/-- the value's own list is written no more -/
def toImm : D → Option D
  | .lst .own xs => if isImms xs = true then some (.lst .imm xs) else none
  | d => if isImm d = true then some d else none
def tFrz (t : TE) : TE := fun σ H Q => t σ H fun v H1 => Q v H1 ∨ ∃ d u, H1 d = some u ∧ Mut (some u) ∧ ∀ od, Q v (upd H1 d (.frz od u))
theorem pe_frz {e : Expr} {t : TE} (h : PE X e t) : PE X e (tFrz t) := by
  refine ⟨fun pins s σ H Q I q => thn (h.run pins s σ H _ I q) fun u s1 ⟨v, H1, I1, r, q1⟩ => ?_⟩
  rcases q1 with q1 | ⟨d, o, e1, mu, q1⟩
  · exact ⟨v, H1, I1, r, q1⟩
  · obtain ⟨od, I2⟩ := I1.lock e1 mu
    exact ⟨v, _, I2, r, q1 od⟩
/-- freezing an address that nobody holds -/
theorem ag_frz {Γ : Gm} {H : Hp} {z : Addr} {xs : List V} {od : Obj} {F : List Addr} (e : H z = some (.lst xs)) (n : z ∉ F) (g : ¬ Γ.G z) : Ag Γ F H (upd H z (.frz od (.lst xs))) := fun y o h q => by
  by_cases hy : y = z
  · subst hy
    rw [e] at h; cases h
    rcases q with q | q | q
    · exact (n q).elim
    · exact (q trivial).elim
    · exact (g q).elim
  · rw [upd_ne hy]; exact h
theorem RE.ag {K : PySem.W.Frag} {H H' : Hp} {σ : L2.St} {env : SD} {fp : Fp} (r : RE K Γ H σ env fp) (h : ∀ y o, H y = some o → ((∃ i, y ∈ fp i) ∨ ¬ Mut (some o) ∨ Γ.G y) → H' y = some o) : RE K Γ H' σ env fp :=
  ⟨fun i d e => let ⟨v, h1, q⟩ := r.slot i d e; ⟨v, h1, q.ag fun y o e z => h y o e (z.imp (fun m => ⟨i, m⟩) id)⟩, r.void, r.dis, r.nd, r.ng, r.pin, fun y o g e => h y o (r.base y o g e) (.inr (.inr g)), r.len⟩
theorem J.frz (h : J X Γ W p true a eva) : J X Γ W p true a (eUn toImm eva) := by
  obtain ⟨t, pe, s⟩ := h.ex
  refine ⟨_, pe_frz pe, fun σ H env fp re Q q => s σ H env fp re _ (hold_mono (hold_bind q) (fun d e k v H' fp' Fr o => ?_) fun _ _ z => z)⟩
  obtain ⟨d', hd, k2⟩ := hold_opt k
  have simple : isImm d = true → d' = d → Q v H' := fun hi e => by
    subst e
    exact k2 v H' fp' Fr ⟨o.re, o.rep, o.nd, o.fm, o.nw, o.pu, o.fr⟩
  cases d with
  | lst m xs =>
    cases m with
    | own =>
      have hd' : (if isImms xs = true then some (D.lst .imm xs) else none) = some d' := hd
      split at hd'
      · rename_i hi
        cases hd'
        obtain ⟨z, vs, F', rfl, hz, rs, rfl⟩ := o.rep
        have f0 := rs.immF hi
        subst f0
        refine .inr ⟨z, _, hz, trivial, fun od => ?_⟩
        have nz : ∀ i, z ∉ fp' i := o.fr rfl z List.mem_cons_self
        have gz : ¬ Γ.G z := fun g => by
          rcases o.nw z List.mem_cons_self with ⟨j, q⟩ | q
          · exact re.ng j z q g
          · obtain ⟨⟨o0, h0⟩, _⟩ := id g
            have := re.base z o0 g h0
            rw [q] at this; cases this
        have ag0 : ∀ F, z ∉ F → Ag Γ F H' (upd H' z (.frz od (.lst vs))) := fun F n => ag_frz hz n gz
        refine k2 (.ref z) _ fp' [] ⟨o.re.ag fun y oy hy q => ?_, ⟨z, vs, rfl, .inl ⟨od, upd_same⟩, rs.ag (ag0 [] (by simp)), rfl⟩, List.nodup_nil, ⟨fun y oy hy n => ?_, o.fm.new⟩, (fun _ m => nomatch m), fun hp => ?_, fun _ _ m => nomatch m⟩
        · by_cases hyz : y = z
          · subst hyz
            rw [hz] at hy; cases hy
            rcases q with ⟨i, q⟩ | q | q
            · exact (nz i q).elim
            · exact (q trivial).elim
            · exact (gz q).elim
          · rw [upd_ne hyz]; exact hy
        · by_cases hyz : y = z
          · subst hyz
            rcases o.nw y List.mem_cons_self with ⟨j, q⟩ | q
            · exact (n j q).elim
            · rw [q] at hy; cases hy
          · rw [upd_ne hyz]; exact o.fm.keep y oy hy n
        · obtain ⟨q1, q2, q3⟩ := o.pu hp
          refine ⟨q1, q2, fun y oy hy => ?_⟩
          by_cases hyz : y = z
          · subst hyz
            rcases o.nw y List.mem_cons_self with ⟨j, q⟩ | q
            · rw [q2] at nz; exact (nz j q).elim
            · rw [q] at hy; cases hy
          · rw [upd_ne hyz]; exact q3 y oy hy
      · cases hd'
    | imm =>
      have hd' : (if isImm (D.lst .imm xs) = true then some (D.lst .imm xs) else none) = some d' := hd
      split at hd'
      · rename_i hi; cases hd'; exact .inl (simple hi rfl)
      · cases hd'
    | bor =>
      have hd' : (if isImm (D.lst .bor xs) = true then some (D.lst .bor xs) else none) = some d' := hd
      split at hd'
      · rename_i hi; cases hd'; exact .inl (simple hi rfl)
      · cases hd'
  | non => cases hd; exact .inl (simple rfl rfl)
  | bl b => cases hd; exact .inl (simple rfl rfl)
  | int b => cases hd; exact .inl (simple rfl rfl)
  | str b => cases hd; exact .inl (simple rfl rfl)
  | tup xs =>
    have hd' : (if isImm (D.tup xs) = true then some (D.tup xs) else none) = some d' := hd
    split at hd'
    · rename_i hi; cases hd'; exact .inl (simple hi rfl)
    · cases hd'
  | tx xs =>
    have hd' : (if isImm (D.tx xs) = true then some (D.tx xs) else none) = some d' := hd
    split at hd'
    · rename_i hi; cases hd'; exact .inl (simple hi rfl)
    · cases hd'
  | dic m kvs => cases hd
  | obj m c fs => cases hd
  | exn c => cases hd; exact .inl (simple rfl rfl)
end
end Vs

namespace Vs
open PySem PySem.Spec PyProof.Rows L2

section
variable {K : PySem.W.Frag} {Γ : Gm} {W : Wx} {σ : L2.St} {H H1 H2 : Hp} {env e1 e2 : SD} {fp fp1 fp2 : Fp} {p p' f : Bool} {d : D} {v : V} {Fr : List Addr}
theorem Out.back (fm : Fm H fp H1 fp1) (pu : p = true → e1 = env ∧ fp1 = fp ∧ Same H H1) (o : Out K Γ p' f σ H1 e1 fp1 d e2 v H2 fp2 Fr) : Out K Γ (p && p') f σ H env fp d e2 v H2 fp2 Fr :=
  ⟨o.re, o.rep, o.nd, fm.trans o.fm, fun a m => fm.back (o.nw a m), fun z => by
    rw [Bool.and_eq_true] at z
    obtain ⟨q1, q2, q3⟩ := pu z.1
    obtain ⟨r1, r2, r3⟩ := o.pu z.2
    exact ⟨r1.trans q1, r2.trans q2, q3.trans r3⟩, o.fr⟩
theorem pu_and (q : p = true → e1 = env ∧ fp1 = fp ∧ Same H H1) (r : p' = true → e2 = e1 ∧ fp2 = fp1 ∧ Same H1 H2) : (p && p') = true → e2 = env ∧ fp2 = fp ∧ Same H H2 := fun z => by
  rw [Bool.and_eq_true] at z
  obtain ⟨q1, q2, q3⟩ := q z.1
  obtain ⟨r1, r2, r3⟩ := r z.2
  exact ⟨r1.trans q1, r2.trans q2, q3.trans r3⟩
end

/-! ### tests -/
def cVal (ev : SD → R D) : SD → R Bool := fun env => (ev env).bind fun d e => match d with
  | .bl b => .ok b e
  | _ => .bad
def cNot (ev : SD → R Bool) : SD → R Bool := fun env => (ev env).bind fun b e => .ok (!b) e
def cAnd (a b : SD → R Bool) : SD → R Bool := fun env => (a env).bind fun x e => if x = true then b e else .ok false e
def cOr (a b : SD → R Bool) : SD → R Bool := fun env => (a env).bind fun x e => if x = true then .ok true e else b e
def eAnd (a b : SD → R D) : SD → R D := fun env => (cVal a env).bind fun x e => if x = true then b e else .ok (.bl false) e
def eOr (a b : SD → R D) : SD → R D := fun env => (cVal a env).bind fun x e => if x = true then .ok (.bl true) e else b e
def eNot (a : SD → R D) : SD → R D := fun env => (cVal a env).bind fun x e => .ok (.bl (!x)) e
def eIf (c : SD → R Bool) (a b : SD → R D) : SD → R D := fun env => (c env).bind fun x e => if x = true then a e else b e
section
variable {X : Cx} {Γ : Gm} {W : Wx} {p p' fa fb f : Bool} {a b c : Expr} {eva evb : SD → R D} {cva cvb : SD → R Bool} {pos : Pos} {rest : List Expr}
theorem sat_val {K : PySem.W.Frag} {t : TE} (s : Sat K Γ W p f t eva) : SatT K Γ W p (tB t) (cVal eva) := fun σ H env fp re Q h => by
  refine s σ H env fp re _ (hold_mono (hold_bind h) (fun d e k v H' fp' Fr o => ?_) fun _ _ z => z)
  cases d with
  | bl b =>
    obtain ⟨rfl, _⟩ := o.rep
    exact ⟨b, rfl, k H' fp' o.re o.fm o.pu⟩
  | _ => exact k.elim
theorem jt_val (h : J X Γ W p f a eva) (he : ∀ whole, isTrue a X.env whole = (do let v ← whole; standAt a.pos; holding [v] (truthy v)) := by intro _; rfl) : JT X Γ W p a (cVal eva) := by
  obtain ⟨t, pe, s⟩ := h.ex
  exact ⟨_, pt_val pe he, sat_val s⟩
theorem jt_cmp {op : CmpOp} {r : R2} {g : D → D → Option D} (ho : OpR X (compareOp op) r) (hs : OpSat X.K Γ r g) (ha : J X Γ W p fa a eva) (hb : J X Γ W p' fb b evb) (hm : behindInMarks op b = false) (hpf : (p' || fa) = true := by rfl) :
    JT X Γ W (p && p') (.Compare a [op] [b] pos) (cVal (eBin g eva evb)) := by
  obtain ⟨ta, pa, sa⟩ := ha.ex
  obtain ⟨tb, pb, sb⟩ := hb.ex
  refine ⟨_, pt_cmpR ho pa pb hm, ?_⟩
  refine sat_val (f := true) (fun σ H env fp re Q h => ?_)
  refine sat2 sa sb hpf re h (fun c e z H' fp' r' f' => z H' fp' r' f') fun da db e2 x y H2 fp2 Fa Fb t q => ?_
  obtain ⟨d, hg, q⟩ := hold_opt q
  refine hs H2 x y da db Fa Fb d Q t.ra t.rb hg fun v H3 Fr r3 n3 sm nw => q v H3 fp2 Fr ⟨t.re.same sm, r3, n3, t.fm.trans (Fm.same sm), fun z m => t.fm.back (.inr (nw z m)), fun z => ?_, fun _ z m i => t.re.fresh (nw z m) i⟩
  obtain ⟨q1, q2, q3⟩ := t.pu z
  exact ⟨q1, q2, q3.trans sm⟩
theorem jt_not (h : JT X Γ W p a cva) : JT X Γ W p (.UnaryOp .Not a pos) (cNot cva) := by
  obtain ⟨t, pe, s⟩ := h.ex
  exact ⟨_, pt_not pe, fun σ H env fp re Q q => s σ H env fp re _ (hold_mono (hold_bind q) (fun b e k H' fp' r' f' u' => k H' fp' r' f' u') fun _ _ z => z)⟩
theorem sat_and {K : PySem.W.Frag} {ta tb : TT} (sa : SatT K Γ W p ta cva) (sb : SatT K Γ W p' tb cvb) : SatT K Γ W (p && p') (tAnd ta tb) (cAnd cva cvb) := fun σ H env fp re Q h => by
  refine sa σ H env fp re _ (hold_mono (hold_bind h) (fun b e k H' fp' r' f' u' => ?_) fun _ _ z => z)
  cases b with
  | true =>
    show tb σ H' Q
    exact sb σ H' e fp' r' Q (hold_mono k (fun b2 e2 k2 H2 fp2 r2 f2 u2 => k2 H2 fp2 r2 (f'.trans f2) (pu_and u' u2)) fun c e2 z H2 fp2 r2 f2 => z H2 fp2 r2 (f'.trans f2))
  | false => exact k H' fp' r' f' fun z => u' (by simp only [Bool.and_eq_true] at z; exact z.1)
theorem sat_or {K : PySem.W.Frag} {ta tb : TT} (sa : SatT K Γ W p ta cva) (sb : SatT K Γ W p' tb cvb) : SatT K Γ W (p && p') (tOr ta tb) (cOr cva cvb) := fun σ H env fp re Q h => by
  refine sa σ H env fp re _ (hold_mono (hold_bind h) (fun b e k H' fp' r' f' u' => ?_) fun _ _ z => z)
  cases b with
  | false =>
    show tb σ H' Q
    exact sb σ H' e fp' r' Q (hold_mono k (fun b2 e2 k2 H2 fp2 r2 f2 u2 => k2 H2 fp2 r2 (f'.trans f2) (pu_and u' u2)) fun c e2 z H2 fp2 r2 f2 => z H2 fp2 r2 (f'.trans f2))
  | true => exact k H' fp' r' f' fun z => u' (by simp only [Bool.and_eq_true] at z; exact z.1)
theorem jw_and1 (h : JT X Γ W p a cva) : JW X Γ W p (.BoolOp .And [a] pos) cva := by
  obtain ⟨t, pe, s⟩ := h.ex
  exact ⟨_, pw_and1 pe, s⟩
theorem jw_or1 (h : JT X Γ W p a cva) : JW X Γ W p (.BoolOp .Or [a] pos) cva := by
  obtain ⟨t, pe, s⟩ := h.ex
  exact ⟨_, pw_or1 pe, s⟩
theorem jw_and (h : JT X Γ W p a cva) (hb : JW X Γ W p' (.BoolOp .And (b :: rest) pos) cvb) : JW X Γ W (p && p') (.BoolOp .And (a :: b :: rest) pos) (cAnd cva cvb) := by
  obtain ⟨t, pe, s⟩ := h.ex
  obtain ⟨t', pe', s'⟩ := hb.ex
  exact ⟨_, pw_and pe pe', sat_and s s'⟩
theorem jw_or (h : JT X Γ W p a cva) (hb : JW X Γ W p' (.BoolOp .Or (b :: rest) pos) cvb) : JW X Γ W (p && p') (.BoolOp .Or (a :: b :: rest) pos) (cOr cva cvb) := by
  obtain ⟨t, pe, s⟩ := h.ex
  obtain ⟨t', pe', s'⟩ := hb.ex
  exact ⟨_, pw_or pe pe', sat_or s s'⟩
theorem JW.jt (h : JW X Γ W p a cva) : JT X Γ W p a cva := by
  obtain ⟨t, pe, s⟩ := h.ex
  exact ⟨_, pe.pt, s⟩
/-! ### and, or, not as values -/
theorem j_one {op} (h : J X Γ W p f a eva) : J X Γ W p f (.BoolOp op [a] pos) eva := by
  obtain ⟨t, pe, s⟩ := h.ex
  exact ⟨_, pe_one pe, s⟩
theorem out_c {K : PySem.W.Frag} {σ : L2.St} {H H' : Hp} {env e : SD} {fp fp' : Fp} {d : D} {v : V} (r' : RE K Γ H' σ e fp') (f' : Fm H fp H' fp') (u' : p = true → e = env ∧ fp' = fp ∧ Same H H') (r : Rep K Γ H' d v []) : Out K Γ p f σ H env fp d e v H' fp' [] :=
  ⟨r', r, List.nodup_nil, f', (fun _ m => nomatch m), u', fun _ _ m => nomatch m⟩
theorem j_and (h : J X Γ W p fa a eva) (hb : J X Γ W p' f (.BoolOp .And (b :: rest) pos) evb) : J X Γ W (p && p') f (.BoolOp .And (a :: b :: rest) pos) (eAnd eva evb) := by
  obtain ⟨t, pe, s⟩ := h.ex
  obtain ⟨t', pe', s'⟩ := hb.ex
  refine ⟨_, pe_and pe pe', fun σ H env fp re Q h => ?_⟩
  refine sat_val s σ H env fp re (fun c H1 => if c = true then t' σ H1 Q else Q (.bl false) H1) (hold_mono (hold_bind h) (fun x e k H' fp' r' f' u' => ?_) fun _ _ z => z)
  cases x with
  | true => exact s' σ H' e fp' r' Q (hold_mono k (fun d e2 k2 v H2 fp2 Fr o => k2 v H2 fp2 Fr (o.back f' u')) fun c e2 z H2 fp2 r2 f2 => z H2 fp2 r2 (f'.trans f2))
  | false => exact k (.bl false) H' fp' [] (out_c r' f' (fun z => u' (by simp only [Bool.and_eq_true] at z; exact z.1)) ⟨rfl, rfl⟩)
theorem j_or (h : J X Γ W p fa a eva) (hb : J X Γ W p' f (.BoolOp .Or (b :: rest) pos) evb) : J X Γ W (p && p') f (.BoolOp .Or (a :: b :: rest) pos) (eOr eva evb) := by
  obtain ⟨t, pe, s⟩ := h.ex
  obtain ⟨t', pe', s'⟩ := hb.ex
  refine ⟨_, pe_or pe pe', fun σ H env fp re Q h => ?_⟩
  refine sat_val s σ H env fp re (fun c H1 => if c = true then Q (.bl true) H1 else t' σ H1 Q) (hold_mono (hold_bind h) (fun x e k H' fp' r' f' u' => ?_) fun _ _ z => z)
  cases x with
  | false => exact s' σ H' e fp' r' Q (hold_mono k (fun d e2 k2 v H2 fp2 Fr o => k2 v H2 fp2 Fr (o.back f' u')) fun c e2 z H2 fp2 r2 f2 => z H2 fp2 r2 (f'.trans f2))
  | true => exact k (.bl true) H' fp' [] (out_c r' f' (fun z => u' (by simp only [Bool.and_eq_true] at z; exact z.1)) ⟨rfl, rfl⟩)
theorem j_not (h : J X Γ W p fa a eva) : J X Γ W p true (.UnaryOp .Not a pos) (eNot eva) := by
  obtain ⟨t, pe, s⟩ := h.ex
  refine ⟨_, pe_not pe, fun σ H env fp re Q h => ?_⟩
  exact sat_val s σ H env fp re (fun c H1 => Q (.bl (!c)) H1) (hold_mono (hold_bind h) (fun x e k H' fp' r' f' u' => k (.bl (!x)) H' fp' [] (out_c r' f' u' ⟨rfl, rfl⟩)) fun _ _ z => z)
theorem j_ifExp {pc : Bool} {cvc : SD → R Bool} (hc : JT X Γ W pc c cvc) (ha : J X Γ W p f a eva) (hb : J X Γ W p' f b evb) : J X Γ W (pc && (p && p')) f (.IfExp c a b pos) (eIf cvc eva evb) := by
  obtain ⟨t, pe, s⟩ := hc.ex
  obtain ⟨ta, pa, sa⟩ := ha.ex
  obtain ⟨tb, pb, sb⟩ := hb.ex
  refine ⟨_, pe_ifExp pe pa pb, fun σ H env fp re Q h => ?_⟩
  refine s σ H env fp re _ (hold_mono (hold_bind h) (fun x e k H' fp' r' f' u' => ?_) fun _ _ z => z)
  cases x with
  | true =>
    show ta σ H' Q
    refine sa σ H' e fp' r' Q (hold_mono k (fun d e2 k2 v H2 fp2 Fr o => k2 v H2 fp2 Fr ?_) fun c e2 z H2 fp2 r2 f2 => z H2 fp2 r2 (f'.trans f2))
    have o' := o.back f' u'
    exact ⟨o'.re, o'.rep, o'.nd, o'.fm, o'.nw, (fun z => o'.pu (by simp only [Bool.and_eq_true] at z ⊢; exact ⟨z.1, z.2.1⟩)), o'.fr⟩
  | false =>
    show tb σ H' Q
    refine sb σ H' e fp' r' Q (hold_mono k (fun d e2 k2 v H2 fp2 Fr o => k2 v H2 fp2 Fr ?_) fun c e2 z H2 fp2 r2 f2 => z H2 fp2 r2 (f'.trans f2))
    have o' := o.back f' u'
    exact ⟨o'.re, o'.rep, o'.nd, o'.fm, o'.nw, (fun z => o'.pu (by simp only [Bool.and_eq_true] at z ⊢; exact ⟨z.1, z.2.2⟩)), o'.fr⟩
end

/-! ### slots -/
def upF (fp : Fp) (i : Nat) (F : List Addr) : Fp := fun j => if j = i then F else fp j
theorem upF_same (fp : Fp) (i : Nat) (F : List Addr) : upF fp i F i = F := if_pos rfl
theorem upF_ne {fp : Fp} {i j : Nat} {F : List Addr} (h : j ≠ i) : upF fp i F j = fp j := if_neg h
theorem upF_mem {fp : Fp} {i j : Nat} {F : List Addr} {a : Addr} (h : a ∈ upF fp i F j) : (j = i ∧ a ∈ F) ∨ (j ≠ i ∧ a ∈ fp j) := by
  by_cases e : j = i
  · subst e; rw [upF_same] at h; exact .inl ⟨rfl, h⟩
  · rw [upF_ne e] at h; exact .inr ⟨e, h⟩
section
variable {K : PySem.W.Frag} {Γ : Gm} {W : Wx} {σ : L2.St} {H H' : Hp} {env : SD} {fp : Fp} {d : D} {v : V} {Fr : List Addr} {i : Nat}
theorem RE.set (r : RE K Γ H σ env fp) (h : Rep K Γ H d v Fr) (nd : Fr.Nodup) (fr : ∀ a ∈ Fr, ∀ j, a ∉ fp j) (ng : ∀ a ∈ Fr, ¬ Γ.G a) (hp : Γ.pins.contains i = false) (hi : i < env.length) : RE K Γ H (σ.set i (some v)) (env.set i (some d)) (upF fp i Fr) where
  slot := fun j d' e => by
    by_cases hj : j = i
    · subst hj
      rw [List.getElem?_set_self hi] at e
      cases e
      exact ⟨v, List.getElem?_set_self (by rw [r.len]; exact hi), by rw [upF_same]; exact h⟩
    · rw [List.getElem?_set_ne (Ne.symm hj)] at e
      obtain ⟨v', e1, q⟩ := r.slot j d' e
      exact ⟨v', by rw [List.getElem?_set_ne (Ne.symm hj)]; exact e1, by rw [upF_ne hj]; exact q⟩
  void := fun j n => by
    by_cases hj : j = i
    · subst hj
      exact (n d (List.getElem?_set_self hi)).elim
    · rw [upF_ne hj]
      exact r.void j fun d' e => n d' (by rw [List.getElem?_set_ne (Ne.symm hj)]; exact e)
  dis := fun j k a m1 m2 => by
    rcases upF_mem m1 with ⟨e1, m1⟩ | ⟨e1, m1⟩ <;> rcases upF_mem m2 with ⟨e2, m2⟩ | ⟨e2, m2⟩
    · rw [e1, e2]
    · exact (fr a m1 k m2).elim
    · exact (fr a m2 j m1).elim
    · exact r.dis j k a m1 m2
  nd := fun j => by
    by_cases hj : j = i
    · subst hj; rw [upF_same]; exact nd
    · rw [upF_ne hj]; exact r.nd j
  ng := fun j a m => by
    rcases upF_mem m with ⟨_, m⟩ | ⟨_, m⟩
    · exact ng a m
    · exact r.ng j a m
  pin := fun j m => by
    have : j ≠ i := fun e => by
      subst e
      have : Γ.pins.contains j = true := List.contains_iff_mem.mpr m
      rw [hp] at this; cases this
    rw [List.getElem?_set_ne (Ne.symm this)]
    exact r.pin j m
  base := r.base
  len := by simp [r.len]
theorem RE.drop (r : RE K Γ H σ env fp) (i : Nat) : RE K Γ H σ (env.set i none) (upF fp i []) where
  slot := fun j d' e => by
    by_cases hj : j = i
    · subst hj
      by_cases hl : j < env.length
      · rw [List.getElem?_set_self hl] at e; cases e
      · rw [List.getElem?_eq_none (by rw [List.length_set]; omega)] at e; cases e
    · rw [List.getElem?_set_ne (Ne.symm hj)] at e
      obtain ⟨v', e1, q⟩ := r.slot j d' e
      exact ⟨v', e1, by rw [upF_ne hj]; exact q⟩
  void := fun j n => by
    by_cases hj : j = i
    · subst hj; rw [upF_same]
    · rw [upF_ne hj]
      exact r.void j fun d' e => n d' (by rw [List.getElem?_set_ne (Ne.symm hj)]; exact e)
  dis := fun j k a m1 m2 => by
    rcases upF_mem m1 with ⟨e1, m1⟩ | ⟨e1, m1⟩ <;> rcases upF_mem m2 with ⟨e2, m2⟩ | ⟨e2, m2⟩
    · cases m1
    · cases m1
    · cases m2
    · exact r.dis j k a m1 m2
  nd := fun j => by
    by_cases hj : j = i
    · subst hj; rw [upF_same]; exact List.nodup_nil
    · rw [upF_ne hj]; exact r.nd j
  ng := fun j a m => by
    rcases upF_mem m with ⟨_, m⟩ | ⟨_, m⟩
    · cases m
    · exact r.ng j a m
  pin := r.pin
  base := r.base
  len := by simp [r.len]
/-- what is new, or was ours, is no other's -/
theorem RE.notG (r : RE K Γ H σ env fp) {a : Addr} (h : (∃ j, a ∈ fp j) ∨ H a = none) : ¬ Γ.G a := fun g => by
  rcases h with ⟨j, m⟩ | h
  · exact r.ng j a m g
  · obtain ⟨⟨o, h0⟩, _⟩ := id g
    have := r.base a o g h0
    rw [h] at this; cases this
theorem Fm.setF {H H' : Hp} {fp fp' : Fp} (f : Fm H fp H' fp') (nw : ∀ a ∈ Fr, (∃ j, a ∈ fp j) ∨ H a = none) (i : Nat) : Fm H fp H' (upF fp' i Fr) :=
  ⟨f.keep, fun j a m => by
    rcases upF_mem m with ⟨_, m⟩ | ⟨_, m⟩
    · exact nw a m
    · exact f.new j a m⟩
theorem Fm.dropF {H H' : Hp} {fp fp' : Fp} (f : Fm H fp H' fp') (i : Nat) : Fm H fp H' (upF fp' i []) := f.setF (Fr := []) (fun _ m => nomatch m) i
end
/-- the slot's value is taken out -/
def eMove (i : Nat) : SD → R D := fun env => match env[i]? with
  | some (some d) => .ok d (env.set i none)
  | _ => .bad
theorem j_move {X : Cx} {Γ : Gm} {W : Wx} (i : Nat) {x : Str} {pos : Pos} (hN : X.N[i]? = some x := by rfl) (hv : Vis X.env.scope x := by first | exact Or.inl rfl | exact Or.inr (Or.inl rfl) | exact Or.inr (Or.inr rfl)) (hd : (x == ("__debug__" : Str)) = false := by decide)
    (hcd : (x == ("__classdict__" : Str)) = false := by decide) : J X Γ W false true (.Name x pos) (eMove i) := by
  refine ⟨_, pe_var (i := i) hN hv hd hcd, fun σ H env fp re Q h => ?_⟩
  unfold eMove at h
  split at h
  · rename_i d e
    obtain ⟨v, e1, r⟩ := re.slot i d e
    refine ⟨v, e1, h v H (upF fp i []) (fp i) ⟨re.drop i, r, re.nd i, Fm.refl.dropF i, fun a m => .inl ⟨i, m⟩, (fun z => nomatch z), fun _ a m j mj => ?_⟩⟩
    rcases upF_mem mj with ⟨_, mj⟩ | ⟨nj, mj⟩
    · cases mj
    · exact nj (re.dis j i a mj m)
  · exact h.elim

/-! ### statements -/
def sNil : SD → R Fl := fun env => .ok .nx env
def sSeq (a b : SD → R Fl) : SD → R Fl := fun env => (a env).bind fun fl e => match fl with
  | .nx => b e
  | fl => .ok fl e
def sBrk : SD → R Fl := fun env => .ok .bk env
def sCnt : SD → R Fl := fun env => .ok .ct env
def sExpr (ev : SD → R D) : SD → R Fl := fun env => (ev env).bind fun _ e => .ok .nx e
def sRet (ev : SD → R D) : SD → R Fl := fun env => (ev env).bind fun d e => .ok (.rt d) e
def sRetN : SD → R Fl := fun env => .ok (.rt .non) env
def sIf (c : SD → R Bool) (a b : SD → R Fl) : SD → R Fl := fun env => (c env).bind fun x e => if x = true then a e else b e
def sNever : SD → R Fl := fun _ => .bad
def put (i : Nat) (d : D) (e : SD) : R Fl := if i < e.length then .ok .nx (e.set i (some d)) else .bad
def sSet (i : Nat) (ev : SD → R D) : SD → R Fl := fun env => (ev env).bind fun d e => put i d e
def sAug (i : Nat) (g : D → D → Option D) (ev : SD → R D) : SD → R Fl := fun env => match env[i]? with
  | some (some x) => if isImm x = true then (ev env).bind fun y e => (R.opt (g x y) e).bind fun z e' => put i z e' else .bad
  | _ => .bad
section
variable {X : Cx} {Γ : Gm} {W : Wx} {p p' fa fb f : Bool} {a b c : Expr} {eva evb : SD → R D} {cva cvb : SD → R Bool} {pos : Pos} {st : Stmt} {sts : List Stmt} {sa sb : SD → R Fl}
/-- another start -/
theorem SatS.from {K : PySem.W.Frag} {t : TS} {ev : SD → R Fl} (s : SatS K Γ W t ev) {σ : L2.St} {H0 H : Hp} {env : SD} {fp0 fp : Fp} (re : RE K Γ H σ env fp) (fm : Fm H0 fp0 H fp) {Z : Ends} (h : hold (ev env) (fun fl env' => match fl with
      | .nx => ∀ σ' H' fp', RE K Γ H' σ' env' fp' → Fm H0 fp0 H' fp' → Z.nx σ' H'
      | .bk => ∀ σ' H' fp', RE K Γ H' σ' env' fp' → Fm H0 fp0 H' fp' → Z.bk σ' H'
      | .ct => ∀ σ' H' fp', RE K Γ H' σ' env' fp' → Fm H0 fp0 H' fp' → Z.ct σ' H'
      | .rt d => ∀ v σ' H' fp' Fr, RE K Γ H' σ' env' fp' → Fm H0 fp0 H' fp' → Rep K Γ H' d v Fr → Fr.Nodup → (∀ a ∈ Fr, ∀ i, a ∉ fp' i) → (∀ a ∈ Fr, (∃ j, a ∈ fp0 j) ∨ H0 a = none) → Z.rt v H')
    (fun c env' => ∀ σ' H' fp', RE K Γ H' σ' env' fp' → Fm H0 fp0 H' fp' → W c σ' H')) : t Z σ H := by
  refine s σ H env fp re Z (hold_mono h (fun fl e k => ?_) fun c e z σ' H' fp' r' f' => z σ' H' fp' r' (fm.trans f'))
  cases fl with
  | nx => exact fun σ' H' fp' r' f' => k σ' H' fp' r' (fm.trans f')
  | bk => exact fun σ' H' fp' r' f' => k σ' H' fp' r' (fm.trans f')
  | ct => exact fun σ' H' fp' r' f' => k σ' H' fp' r' (fm.trans f')
  | rt d => exact fun v σ' H' fp' Fr r' f' q nd fr nw => k v σ' H' fp' Fr r' (fm.trans f') q nd fr fun a m => fm.back (nw a m)
theorem sat_seq {K : PySem.W.Frag} {t u : TS} (h1 : SatS K Γ W t sa) (h2 : SatS K Γ W u sb) : SatS K Γ W (tSeq t u) (sSeq sa sb) := fun σ H env fp re Z h => by
  refine h1 σ H env fp re _ (hold_mono (hold_bind h) (fun fl e k => ?_) fun _ _ z => z)
  cases fl with
  | nx => exact fun σ' H' fp' r' f' => h2.from r' f' k
  | bk => exact k
  | ct => exact k
  | rt d => exact k
theorem jb_nil : JB X Γ W [] sNil := ⟨_, pss_nil, fun σ H env fp re Z h => h σ H fp re Fm.refl⟩
theorem jb_cons (h1 : JS X Γ W st sa) (h2 : JB X Γ W sts sb) : JB X Γ W (st :: sts) (sSeq sa sb) := by
  obtain ⟨t, q, s⟩ := h1.ex
  obtain ⟨t', q', s'⟩ := h2.ex
  exact ⟨_, pss_cons q q', sat_seq s s'⟩
theorem jb_one (h1 : JS X Γ W st sa) : JB X Γ W [st] sa := by
  obtain ⟨t, q, s⟩ := h1.ex
  exact ⟨_, pss_one q, s⟩
theorem js_pass : JS X Γ W (.Pass pos) sNil := ⟨_, ps_pass, fun σ H env fp re Z h => h σ H fp re Fm.refl⟩
theorem js_brk : JS X Γ W (.Break pos) sBrk := ⟨_, ps_break, fun σ H env fp re Z h => h σ H fp re Fm.refl⟩
theorem js_cnt : JS X Γ W (.Continue pos) sCnt := ⟨_, ps_continue, fun σ H env fp re Z h => h σ H fp re Fm.refl⟩
theorem js_expr (h : J X Γ W p f a eva) (hs : swapsWith a none pos.line X.env = pure false := by rfl) : JS X Γ W (.Expr a pos) (sExpr eva) := by
  obtain ⟨t, pe, s⟩ := h.ex
  exact ⟨_, ps_expr pe hs, fun σ H env fp re Z h => s σ H env fp re _ (hold_mono (hold_bind h) (fun d e k v H' fp' Fr o => k σ H' fp' o.re o.fm) fun c e z H' fp' r' f' => z σ H' fp' r' f')⟩
theorem js_ret (h : J X Γ W p true a eva) : JS X Γ W (.Return (some a) pos) (sRet eva) := by
  obtain ⟨t, pe, s⟩ := h.ex
  exact ⟨_, ps_ret pe, fun σ H env fp re Z h => s σ H env fp re _ (hold_mono (hold_bind h) (fun d e k v H' fp' Fr o => k v σ H' fp' Fr o.re o.fm o.rep o.nd (o.fr rfl) o.nw) fun c e z H' fp' r' f' => z σ H' fp' r' f')⟩
theorem js_retN : JS X Γ W (.Return none pos) sRetN := ⟨_, ps_retN, fun σ H env fp re Z h => h .non σ H fp [] re Fm.refl ⟨rfl, rfl⟩ List.nodup_nil (fun _ m => nomatch m) (fun _ m => nomatch m)⟩
theorem js_never : JS X Γ W st sNever := ⟨_, ps_never, fun σ H env fp re Z h => h.elim⟩
theorem jb_never : JB X Γ W sts sNever := ⟨_, pss_never, fun σ H env fp re Z h => h.elim⟩
theorem js_if {u v : List Stmt} (hc : JT X Γ W p c cva) (ha : JB X Γ W u sa) (hb : JB X Γ W v sb) : JS X Γ W (.If c u v pos) (sIf cva sa sb) := by
  obtain ⟨t, pe, s⟩ := hc.ex
  obtain ⟨ta, pa, s1⟩ := ha.ex
  obtain ⟨tb, pb, s2⟩ := hb.ex
  refine ⟨_, ps_if pe pa pb, fun σ H env fp re Z h => s σ H env fp re _ (hold_mono (hold_bind h) (fun x e k H' fp' r' f' u' => ?_) fun c e z H' fp' r' f' => z σ H' fp' r' f')⟩
  cases x with
  | true => exact s1.from r' f' k
  | false => exact s2.from r' f' k
theorem put_ok {K : PySem.W.Frag} {σ : L2.St} {H0 H : Hp} {e : SD} {fp0 fp : Fp} {i : Nat} {d : D} {v : V} {Fr : List Addr} {Q : Fl → SD → Prop} {E : String → SD → Prop} (h : hold (put i d e) Q E) (re0 : RE K Γ H σ e fp) (fm : Fm H0 fp0 H fp) (r : Rep K Γ H d v Fr) (nd : Fr.Nodup)
    (fr : ∀ a ∈ Fr, ∀ j, a ∉ fp j) (nw : ∀ a ∈ Fr, (∃ j, a ∈ fp0 j) ∨ H0 a = none) (ng : ∀ a ∈ Fr, ¬ Γ.G a) (hp : Γ.pins.contains i = false) :
    Q .nx (e.set i (some d)) ∧ RE K Γ H (σ.set i (some v)) (e.set i (some d)) (upF fp i Fr) ∧ Fm H0 fp0 H (upF fp i Fr) := by
  unfold put at h
  split at h
  · rename_i hi
    exact ⟨h, re0.set r nd fr ng hp hi, fm.setF nw i⟩
  · exact h.elim
theorem js_set {i : Nat} {x : Str} {pos' : Pos} (h : J X Γ W p true a eva) (hN : X.N.Nodup) (hi : X.N[i]? = some x := by rfl) (hx : Loc X.env.scope x := by first | exact Or.inl rfl | exact Or.inr rfl) (hp : Γ.pins.contains i = false := by rfl)
    (hs : swapsWith a (some (.Name x pos')) pos.line X.env = pure false := by rfl) (hf : X.fn x = true ∨ X.env.scope.names.lookup x = some .local := by first | exact .inl rfl | exact .inr rfl) :
    JS X Γ W (.Assign [.Name x pos'] a pos) (sSet i eva) := by
  obtain ⟨t, pe, s⟩ := h.ex
  refine ⟨_, ps_set hN hi hx pe hs hf, fun σ H env fp re Z h => s σ H env fp re _ (hold_mono (hold_bind h) (fun d e k v H' fp' Fr o => ?_) fun c e z H' fp' r' f' => z σ H' fp' r' f')⟩
  obtain ⟨q, r', f'⟩ := put_ok k o.re o.fm o.rep o.nd (o.fr rfl) o.nw (fun z m => re.notG (o.nw z m)) hp
  exact q _ _ _ r' f'
theorem js_aug {i : Nat} {x : Str} {op : Operator} {r : R2} {g : D → D → Option D} {pos' : Pos} (ho : PIp X op r) (hs : OpSat X.K Γ r g) (h : J X Γ W p f a eva) (hN : X.N.Nodup) (hi : X.N[i]? = some x := by rfl) (hx : Loc X.env.scope x := by first | exact Or.inl rfl | exact Or.inr rfl)
    (hp : Γ.pins.contains i = false := by rfl) (hf : X.fn x = true ∨ X.env.scope.names.lookup x = some .local := by first | exact .inl rfl | exact .inr rfl) : JS X Γ W (.AugAssign (.Name x pos') op a pos) (sAug i g eva) := by
  obtain ⟨t, pe, s⟩ := h.ex
  refine ⟨_, ps_aug hN hi hx pe ho hf, fun σ H env fp re Z h => ?_⟩
  unfold sAug at h
  split at h
  · rename_i d e
    by_cases him : isImm d = true
    · rw [if_pos him] at h
      obtain ⟨v, e1, r1⟩ := re.slot i d e
      have f0 := r1.immF him
      refine ⟨v, e1, s σ H env fp re _ (hold_mono (hold_bind h) (fun d2 e2 k y H' fp' Fr o => ?_) fun c e z H' fp' r' f' => z σ H' fp' r' f')⟩
      have r2 : Rep X.K Γ H' d v (fp i) := r1.held re o.fm (fun z m => by rw [f0] at m; cases m)
      obtain ⟨d3, hg, k⟩ := hold_opt (hold_bind k)
      refine hs H' v y d d2 (fp i) Fr d3 _ r2 o.rep hg fun w H3 F3 r3 n3 sm nw => ?_
      obtain ⟨q, r', f'⟩ := put_ok k (o.re.same sm) (o.fm.trans (Fm.same sm)) r3 n3 (fun z m => o.re.fresh (nw z m)) (fun z m => o.fm.back (.inr (nw z m))) (fun z m => re.notG (o.fm.back (.inr (nw z m)))) hp
      exact q _ _ _ r' f'
    · rw [if_neg him] at h
      exact h.elim
  · exact h.elim
end

/-! ### targets -/
/-- ws: the slots that it may change -/
def SatG (K : PySem.W.Frag) (Γ : Gm) (ws : List Nat) (t : TG) (g : D → SD → Option SD) : Prop := ∀ σ H env fp, RE K Γ H σ env fp → ∀ d v, Rep K Γ H d v [] → ∀ env', g d env = some env' → ∀ Q : L2.St → Hp → Prop,
  (∀ σ' fp', RE K Γ H σ' env' fp' → (∀ j, j ∉ ws → σ'[j]? = σ[j]? ∧ fp' j = fp j) → (∀ j ∈ ws, fp' j = []) → σ'.length = σ.length → Q σ' H) → t v σ H Q
structure JG (X : Cx) (Γ : Gm) (ws : List Nat) (tg : Expr) (g : D → SD → Option SD) : Prop where
  ex : ∃ t, PG X tg t ∧ SatG X.K Γ ws t g
def SatGs (K : PySem.W.Frag) (Γ : Gm) (ws : List Nat) (t : TGs) (g : List D → SD → Option SD) : Prop := ∀ σ H env fp, RE K Γ H σ env fp → ∀ d v, Reps K Γ H d v [] → ∀ env', g d env = some env' → ∀ Q : L2.St → Hp → Prop,
  (∀ σ' fp', RE K Γ H σ' env' fp' → (∀ j, j ∉ ws → σ'[j]? = σ[j]? ∧ fp' j = fp j) → (∀ j ∈ ws, fp' j = []) → σ'.length = σ.length → Q σ' H) → t v σ H Q
structure JGs (X : Cx) (Γ : Gm) (ws : List Nat) (tg : List Expr) (g : List D → SD → Option SD) : Prop where
  ex : ∃ t, PGs X tg t ∧ SatGs X.K Γ ws t g
def gtName (i : Nat) : D → SD → Option SD := fun d e => if i < e.length then some (e.set i (some d)) else none
def gtNil : List D → SD → Option SD := fun ds e => match ds with
  | [] => some e
  | _ => none
def gtCons (g : D → SD → Option SD) (r : List D → SD → Option SD) : List D → SD → Option SD := fun ds e => match ds with
  | d :: ds => (g d e).bind fun e' => r ds e'
  | [] => none
def gtTup (n : Nat) (r : List D → SD → Option SD) : D → SD → Option SD := fun d e => match d with
  | .tup ds => if ds.length = n then r ds e else none
  | _ => none
section
variable {X : Cx} {Γ : Gm} {W : Wx} {pos : Pos}
theorem jg_name {i : Nat} {x : Str} (hN : X.N.Nodup) (hi : X.N[i]? = some x := by rfl) (hx : Loc X.env.scope x := by first | exact Or.inl rfl | exact Or.inr rfl) (hp : Γ.pins.contains i = false := by rfl)
    (hf : X.fn x = true ∨ X.env.scope.names.lookup x = some .local := by first | exact .inl rfl | exact .inr rfl) : JG X Γ [i] (.Name x pos) (gtName i) := by
  refine ⟨_, pg_name hN hi hx hf, fun σ H env fp re d v r env' h Q q => ?_⟩
  unfold gtName at h
  split at h
  · rename_i hl
    cases h
    refine q _ _ (re.set r List.nodup_nil (fun _ m => nomatch m) (fun _ m => nomatch m) hp hl) (fun j n => ?_) (fun j m => by rw [List.mem_singleton.mp m]; exact upF_same fp i []) List.length_set
    have : j ≠ i := fun e => n (by rw [e]; exact List.mem_singleton.mpr rfl)
    exact ⟨List.getElem?_set_ne (Ne.symm this), upF_ne this⟩
  · cases h
theorem jgs_nil : JGs X Γ [] [] gtNil := by
  refine ⟨_, pgs_nil, fun σ H env fp re d v r env' h Q q => ?_⟩
  cases d with
  | nil =>
    cases v with
    | nil => cases h; exact ⟨rfl, q _ _ re (fun _ _ => ⟨rfl, rfl⟩) (fun _ m => nomatch m) rfl⟩
    | cons _ _ => exact r.elim
  | cons _ _ => cases h
theorem jgs_cons {e : Expr} {es : List Expr} {g : D → SD → Option SD} {gs : List D → SD → Option SD} {ws ws' : List Nat} (h1 : JG X Γ ws e g) (h2 : JGs X Γ ws' es gs)
    (hs : (assignEach (e :: es) X.env).map (·.2) = assign e X.env :: (assignEach es X.env).map (·.2) := by rfl) : JGs X Γ (ws ++ ws') (e :: es) (gtCons g gs) := by
  obtain ⟨t, pg, s⟩ := h1.ex
  obtain ⟨t', pg', s'⟩ := h2.ex
  refine ⟨_, pgs_cons pg pg' hs, fun σ H env fp re d v r env' h Q q => ?_⟩
  cases d with
  | nil => cases h
  | cons d ds =>
    cases v with
    | nil => exact r.elim
    | cons v vs =>
      obtain ⟨r1, r2⟩ := r.uncons0
      obtain ⟨e1, g1, g2⟩ := Option.bind_eq_some_iff.mp h
      refine ⟨v, vs, rfl, s σ H env fp re d v r1 e1 g1 _ fun σ1 fp1 re1 k1 z1 l1 => ?_⟩
      refine s' σ1 H e1 fp1 re1 ds vs r2 env' g2 _ fun σ2 fp2 re2 k2 z2 l2 => q σ2 fp2 re2 (fun j n => ?_) (fun j m => ?_) (l2.trans l1)
      · have a1 := k2 j fun m => n (List.mem_append_right _ m)
        have a2 := k1 j fun m => n (List.mem_append_left _ m)
        exact ⟨a1.1.trans a2.1, a1.2.trans a2.2⟩
      · by_cases hj : j ∈ ws'
        · exact z2 j hj
        · rw [(k2 j hj).2]
          exact z1 j ((List.mem_append.mp m).resolve_right hj)
theorem jg_tup {es : List Expr} {k n : Nat} {gs : List D → SD → Option SD} {ws : List Nat} (hc : X.calm = true) (h : JGs X Γ ws es gs)
    (hn : (assignEach es X.env).length = n := by rfl) (hst : (assignEach es X.env).findIdx? (·.1) = none := by rfl) : JG X Γ ws (.Tuple es k pos) (gtTup n gs) := by
  obtain ⟨t, pg, s⟩ := h.ex
  refine ⟨_, pg_tup hc pg hn hst, fun σ H env fp re d v r env' h Q q => ?_⟩
  cases d with
  | tup ds =>
    obtain ⟨a, vs, rfl, sq, rs, _⟩ := r
    have h' : (if ds.length = n then gs ds env else none) = some env' := h
    split at h'
    · rename_i hl
      exact ⟨a, vs, rfl, sq, by rw [← rs.len]; exact hl, s σ H env fp re ds vs rs env' h' Q q⟩
    · cases h'
  | _ => cases h
end
theorem Fm.tg {H : Hp} {fp fp' : Fp} {ws : List Nat} {σ σ' : L2.St} (k : ∀ j, j ∉ ws → σ'[j]? = σ[j]? ∧ fp' j = fp j) (z : ∀ j ∈ ws, fp' j = []) : Fm H fp H fp' :=
  ⟨fun _ _ h _ => h, fun i a m => by
    by_cases hi : i ∈ ws
    · rw [z i hi] at m; cases m
    · rw [(k i hi).2] at m; exact .inl ⟨i, m⟩⟩
/-- target = value, the value can't be written -/
def sAsg (g : D → SD → Option SD) (ev : SD → R D) : SD → R Fl := fun env => (ev env).bind fun d e => if isImm d = true then (R.opt (g d e) e).bind fun e' _ => .ok .nx e' else .bad
theorem js_asg {X : Cx} {Γ : Gm} {W : Wx} {p f : Bool} {tg a : Expr} {eva : SD → R D} {g : D → SD → Option SD} {ws : List Nat} {pos : Pos} (he : J X Γ W p f a eva) (hg : JG X Γ ws tg g) (hs : swapsWithSole [tg] a pos.line X.env = pure false := by rfl) (hw : swappedStores [tg] a X.env = pure none := by rfl)
    (h1 : (assignEach [tg] X.env).map (·.2) = [assign tg X.env] := by rfl) : JS X Γ W (.Assign [tg] a pos) (sAsg g eva) := by
  obtain ⟨t, pe, s⟩ := he.ex
  obtain ⟨tg', pg, s'⟩ := hg.ex
  refine ⟨_, ps_asg pe pg hs hw h1, fun σ H env fp re Z h => s σ H env fp re _ (hold_mono (hold_bind h) (fun d e k v H' fp' Fr o => ?_) fun c e z H' fp' r' f' => z σ H' fp' r' f')⟩
  by_cases hi : isImm d = true
  · rw [if_pos hi] at k
    obtain ⟨e', hg', k⟩ := hold_opt (hold_bind k)
    have f0 := o.rep.immF hi
    have r := o.rep
    rw [f0] at r
    exact s' σ H' e fp' o.re d v r e' hg' _ fun σ2 fp2 re2 k2 z2 _ => k σ2 H' fp2 re2 (o.fm.trans (Fm.tg k2 z2))
  · rw [if_neg hi] at k
    exact k.elim
/-- a, b = x, y with local names -/
def sPar (i j : Nat) (ev : SD → R (List D)) : SD → R Fl := fun env => (ev env).bind fun ds e => match ds with
  | [x, y] => if isImm x = true ∧ isImm y = true ∧ i < e.length ∧ j < e.length then .ok .nx ((e.set i (some x)).set j (some y)) else .bad
  | _ => .bad
theorem js_par {X : Cx} {Γ : Gm} {W : Wx} {p f : Bool} {a b : Expr} {evs : SD → R (List D)} {i j : Nat} {x y : Str} {px py pt pos : Pos} {kt k2 pt2} (hc : X.calm = true) (hN : X.N.Nodup) (ha : JA X Γ W p f [a, b] evs) (hi : X.N[i]? = some x := by rfl) (hj : X.N[j]? = some y := by rfl) (hij : i ≠ j := by decide)
    (hx : X.env.scope.names.lookup x = some .local := by rfl) (hy : X.env.scope.names.lookup y = some .local := by rfl) (hp : Γ.pins.contains i = false := by rfl) (hp' : Γ.pins.contains j = false := by rfl)
    (hw : swappedStores [.Tuple [.Name x px, .Name y py] kt pt] (.Tuple [a, b] k2 pt2) X.env = pure (some [x, y]) := by rfl)
    (hs : swapsWithSole [.Tuple [.Name x px, .Name y py] kt pt] (.Tuple [a, b] k2 pt2) pos.line X.env = pure false := by rfl) :
    JS X Γ W (.Assign [.Tuple [.Name x px, .Name y py] kt pt] (.Tuple [a, b] k2 pt2) pos) (sPar i j evs) := by
  obtain ⟨t, pa, s⟩ := ha.ex
  refine ⟨_, ps_par hc hN hi hj hij hx hy pa hw hs, fun σ H env fp re Z h => s σ H env fp re _ (hold_mono (hold_bind h) (fun ds e k vs H' fp' Fr o => ?_) fun c e z H' fp' r' f' => z σ H' fp' r' f')⟩
  match ds, k with
  | [x', y'], k =>
    have k' : hold (if isImm x' = true ∧ isImm y' = true ∧ i < e.length ∧ j < e.length then R.ok Fl.nx ((e.set i (some x')).set j (some y')) else R.bad) _ _ := k
    split at k'
    · rename_i hh
      have rep := o.rep
      have f0 := rep.immF (show isImms [x', y'] = true by simp [isImms, hh.1, hh.2.1])
      rw [f0] at rep
      match vs, rep with
      | [v, w], rep =>
        obtain ⟨r1, r2⟩ := rep.uncons0
        have r3 := r2.uncons0.1
        refine ⟨v, w, rfl, k' _ _ _ ((o.re.set r1 List.nodup_nil (fun _ m => nomatch m) (fun _ m => nomatch m) hp hh.2.2.1).set r3 List.nodup_nil (fun _ m => nomatch m) (fun _ m => nomatch m) hp' (by rw [List.length_set]; exact hh.2.2.2)) ((o.fm.setF (Fr := []) (fun _ m => nomatch m) i).setF (Fr := []) (fun _ m => nomatch m) j)⟩
      | [_], rep => exact (rep.uncons0.2).elim
      | _ :: _ :: _ :: _, rep => exact (rep.uncons0.2.uncons0.2).elim
      | [], rep => exact rep.elim
    · exact k'.elim
  | [], k => exact k.elim
  | [_], k => exact k.elim
  | _ :: _ :: _ :: _, k => exact k.elim

/-! ### what is walked -/
def Goes (K : PySem.W.Frag) (Γ : Gm) (Jt : It) (H : Hp) (ds : List D) : Prop := ∃ (G : Hp → Prop) (Y : Nat → Hp → V → Hp → Prop), Walk Jt ds.length G Y ∧ (∀ H2, Ag Γ [] H H2 → G H2) ∧
  ∀ i H2 x H3, Ag Γ [] H H2 → i < ds.length → Y i H2 x H3 → ∃ d, ds[i]? = some d ∧ Rep K Γ H3 d x [] ∧ Same H2 H3
def SatI (K : PySem.W.Frag) (Γ : Gm) (W : Wx) (p : Bool) (wi : TI) (ev : SD → R (List D)) : Prop :=
  ∀ σ H env fp, RE K Γ H σ env fp → ∀ Rr : It → Hp → Prop, hold (ev env) (fun ds env' => ∀ Jt H' fp', RE K Γ H' σ env' fp' → Fm H fp H' fp' → (p = true → env' = env ∧ fp' = fp ∧ Same H H') → Goes K Γ Jt H' ds → Rr Jt H')
    (fun c env' => ∀ H' fp', RE K Γ H' σ env' fp' → Fm H fp H' fp' → W c σ H') → wi σ H Rr
structure JI (X : Cx) (Γ : Gm) (W : Wx) (p : Bool) (tg iter : Expr) (ev : SD → R (List D)) : Prop where
  ex : ∃ wi, PI X tg iter wi ∧ SatI X.K Γ W p wi ev
theorem Ag.of_fm {K : PySem.W.Frag} {Γ : Gm} {H H' : Hp} {σ : L2.St} {env : SD} {fp fp' : Fp} (r : RE K Γ H σ env fp) (f : Fm H fp H' fp') : Ag Γ [] H H' := fun a o e q => f.keep a o e fun i m => by
  rcases q with q | q | q
  · cases q
  · have := r.mut m
    rw [e] at this
    exact q this
  · exact r.ng i a m q

/-! ### for, while -/
def forL (g : D → SD → Option SD) (body : SD → R Fl) : List D → SD → R Fl
  | [], env => .ok .nx env
  | d :: ds, env => (R.opt (g d env) env).bind fun e1 _ => (body e1).bind fun fl e2 => match fl with
    | .nx => forL g body ds e2
    | .ct => forL g body ds e2
    | .bk => .ok .nx e2
    | .rt v => .ok (.rt v) e2
def sFor (it : SD → R (List D)) (g : D → SD → Option SD) (body : SD → R Fl) : SD → R Fl := fun env => (it env).bind fun ds e => forL g body ds e
theorem js_for {X : Cx} {Γ : Gm} {W : Wx} {p : Bool} {tg iter : Expr} {body : List Stmt} {ev : SD → R (List D)} {g : D → SD → Option SD} {ws : List Nat} {sb : SD → R Fl} {pos : Pos} (hp : PassesOwn (model X.prog X.w) X.A X.env X.xe) (hc : X.calm = true) (hi : JI X Γ W p tg iter ev) (hg : JG X Γ ws tg g) (hb : JB X Γ W body sb)
    (hs : ∀ x, foldedSetIterable iter X.env x = pure x := by intro _; rfl) : JS X Γ W (.For tg iter body [] pos) (sFor ev g sb) := by
  obtain ⟨wi, pi, si⟩ := hi.ex
  obtain ⟨tg', pg, sg⟩ := hg.ex
  obtain ⟨tb, pb, sb'⟩ := hb.ex
  refine ⟨_, ps_for hp hc pi pg pb hs, fun σ H env fp re Z h => si σ H env fp re _ (hold_mono (hold_bind h) (fun ds e k Jt H1 fp1 re1 fm1 pu1 go => ?_) fun c e z H' fp' r' f' => z σ H' fp' r' f')⟩
  obtain ⟨G, Y, wk, hG, hY⟩ := go
  refine for_it wk (fun i σ' H' => ∃ env' fp', RE X.K Γ H' σ' env' fp' ∧ Fm H1 fp1 H' fp' ∧ hold (forL g sb (ds.drop i) env') (fun fl env' => match fl with
      | .nx => ∀ σ' H' fp', RE X.K Γ H' σ' env' fp' → Fm H fp H' fp' → Z.nx σ' H'
      | .bk => ∀ σ' H' fp', RE X.K Γ H' σ' env' fp' → Fm H fp H' fp' → Z.bk σ' H'
      | .ct => ∀ σ' H' fp', RE X.K Γ H' σ' env' fp' → Fm H fp H' fp' → Z.ct σ' H'
      | .rt d => ∀ v σ' H' fp' Fr, RE X.K Γ H' σ' env' fp' → Fm H fp H' fp' → Rep X.K Γ H' d v Fr → Fr.Nodup → (∀ a ∈ Fr, ∀ i, a ∉ fp' i) → (∀ a ∈ Fr, (∃ j, a ∈ fp j) ∨ H a = none) → Z.rt v H')
    (fun c env' => ∀ σ' H' fp', RE X.K Γ H' σ' env' fp' → Fm H fp H' fp' → W c σ' H')) ⟨e, fp1, re1, Fm.refl, k⟩ (fun i σ' H' _ ⟨env', fp', r', f', _⟩ => hG _ (Ag.of_fm re1 f')) (fun i x σ' H' H2 hi ⟨env', fp', r', f', k'⟩ hy => ?_) (fun σ' H' ⟨env', fp', r', f', k'⟩ => ?_)
  · obtain ⟨d, hd, rd, sm⟩ := hY i H' x H2 (Ag.of_fm re1 f') hi hy
    have hdrop : ds.drop i = d :: ds.drop (i + 1) := by
      obtain ⟨hl, rfl⟩ := List.getElem?_eq_some_iff.mp hd
      exact List.drop_eq_getElem_cons hl
    rw [hdrop] at k'
    obtain ⟨e1, hg1, k1⟩ := hold_opt (hold_bind (show hold ((R.opt (g d env') env').bind fun e1 _ => (sb e1).bind fun fl e2 => match fl with
      | .nx => forL g sb (ds.drop (i + 1)) e2
      | .ct => forL g sb (ds.drop (i + 1)) e2
      | .bk => .ok .nx e2
      | .rt v => .ok (.rt v) e2) _ _ from k'))
    refine sg σ' H2 env' fp' (r'.same sm) d x rd e1 hg1 _ fun σ2 fp2 re2 kk zz _ => ?_
    have fmA : Fm H1 fp1 H2 fp2 := f'.trans ((Fm.same sm).trans (Fm.tg kk zz))
    refine sb'.from (H0 := H1) (fp0 := fp1) re2 fmA (hold_mono (hold_bind k1) (fun fl e2 k2 => ?_) fun c e2 z σ4 H4 fp4 r4 f4 => z σ4 H4 fp4 r4 (fm1.trans f4))
    cases fl with
    | nx => exact fun σ4 H4 fp4 r4 f4 => ⟨e2, fp4, r4, f4, k2⟩
    | ct => exact fun σ4 H4 fp4 r4 f4 => ⟨e2, fp4, r4, f4, k2⟩
    | bk => exact fun σ4 H4 fp4 r4 f4 => k2 σ4 H4 fp4 r4 (fm1.trans f4)
    | rt d => exact fun v σ4 H4 fp4 Fr r4 f4 q nd fr nw => k2 v σ4 H4 fp4 Fr r4 (fm1.trans f4) q nd fr fun a m => fm1.back (nw a m)
  · have : ds.drop ds.length = [] := List.drop_length
    rw [this] at k'
    exact k' σ' H' fp' r' (fm1.trans f')

def whileN (c : SD → R Bool) (body : SD → R Fl) : Nat → SD → R Fl
  | 0, _ => .bad
  | n + 1, env => (c env).bind fun t e => if t = true then (body e).bind fun fl e2 => match fl with
      | .nx => whileN c body n e2
      | .ct => whileN c body n e2
      | .bk => .ok .nx e2
      | .rt v => .ok (.rt v) e2
    else .ok .nx e
theorem whileN_more (c : SD → R Bool) (body : SD → R Fl) : ∀ (n : Nat) (env : SD), whileN c body n env ≠ .bad → whileN c body (n + 1) env = whileN c body n env
  | 0, env, h => (h rfl).elim
  | n + 1, env, h => by
    have e1 : whileN c body (n + 1) env = (c env).bind fun t e => if t = true then (body e).bind fun fl e2 => match fl with
      | .nx => whileN c body n e2
      | .ct => whileN c body n e2
      | .bk => .ok .nx e2
      | .rt v => .ok (.rt v) e2
      else .ok .nx e := rfl
    have e2 : whileN c body (n + 2) env = (c env).bind fun t e => if t = true then (body e).bind fun fl e2 => match fl with
      | .nx => whileN c body (n + 1) e2
      | .ct => whileN c body (n + 1) e2
      | .bk => .ok .nx e2
      | .rt v => .ok (.rt v) e2
      else .ok .nx e := rfl
    rw [e1] at h ⊢
    rw [e2]
    cases hc : c env with
    | exc x y => rfl
    | bad => rfl
    | ok t e =>
      rw [hc] at h
      simp only [R.bind_ok] at h ⊢
      cases t with
      | false => rfl
      | true =>
        simp only [if_true] at h ⊢
        cases hb : body e with
        | exc x y => rfl
        | bad => rfl
        | ok fl e' =>
          rw [hb] at h
          simp only [R.bind_ok] at h ⊢
          cases fl with
          | nx => exact whileN_more c body n e' h
          | ct => exact whileN_more c body n e' h
          | bk => rfl
          | rt v => rfl
theorem whileN_le (c : SD → R Bool) (body : SD → R Fl) {n m : Nat} {env : SD} (h : whileN c body n env ≠ .bad) (hm : n ≤ m) : whileN c body m env = whileN c body n env := by
  induction hm with
  | refl => rfl
  | step _ ih =>
    rw [whileN_more c body _ env (by rw [ih]; exact h)]
    exact ih
open Classical in
noncomputable def sWhile (c : SD → R Bool) (body : SD → R Fl) : SD → R Fl := fun env => if h : ∃ n, whileN c body n env ≠ .bad then whileN c body (choose h) env else .bad
theorem sWhile_eq {c : SD → R Bool} {body : SD → R Fl} {n : Nat} {env : SD} (h : whileN c body n env ≠ .bad) : sWhile c body env = whileN c body n env := by
  unfold sWhile
  have h' : ∃ n, whileN c body n env ≠ .bad := ⟨n, h⟩
  rw [dif_pos h']
  have q := Classical.choose_spec h'
  rcases Nat.le_total n (Classical.choose h') with l | l
  · exact whileN_le c body h l
  · exact (whileN_le c body q l).symm
/-- one turn more -/
theorem sWhile_step (c : SD → R Bool) (body : SD → R Fl) (env : SD) : sWhile c body env = (c env).bind fun t e => if t = true then (body e).bind fun fl e2 => match fl with
      | .nx => sWhile c body e2
      | .ct => sWhile c body e2
      | .bk => .ok .nx e2
      | .rt v => .ok (.rt v) e2
    else .ok .nx e := by
  cases hc : c env with
  | exc x y =>
    have : whileN c body 1 env = .exc x y := by show (c env).bind _ = _; rw [hc]; rfl
    rw [sWhile_eq (n := 1) (by rw [this]; exact fun z => nomatch z), this]; rfl
  | bad =>
    have : ∀ n, whileN c body n env = .bad := fun n => by
      cases n with
      | zero => rfl
      | succ n => show (c env).bind _ = _; rw [hc]; rfl
    unfold sWhile
    rw [dif_neg (fun ⟨n, h⟩ => h (this n))]; rfl
  | ok t e =>
    simp only [R.bind_ok]
    cases t with
    | false =>
      have : whileN c body 1 env = .ok .nx e := by show (c env).bind _ = _; rw [hc]; rfl
      rw [sWhile_eq (n := 1) (by rw [this]; exact fun z => nomatch z), this]; rfl
    | true =>
      simp only [if_true]
      have step : ∀ n, whileN c body (n + 1) env = (body e).bind fun fl e2 => match fl with
          | .nx => whileN c body n e2
          | .ct => whileN c body n e2
          | .bk => .ok .nx e2
          | .rt v => .ok (.rt v) e2 := fun n => by show (c env).bind _ = _; rw [hc]; rfl
      have none0 : (∀ n, whileN c body (n + 1) env = .bad) → sWhile c body env = .bad := fun h => by
        unfold sWhile
        rw [dif_neg]
        rintro ⟨n, q⟩
        cases n with
        | zero => exact q rfl
        | succ n => exact q (h n)
      cases hb : body e with
      | exc x y =>
        have := step 0
        rw [hb] at this
        rw [sWhile_eq (n := 1) (by rw [this]; exact fun z => nomatch z), this]; rfl
      | bad => exact none0 fun n => by rw [step, hb]; rfl
      | ok fl e' =>
        simp only [R.bind_ok]
        rw [hb] at step
        simp only [R.bind_ok] at step
        have both : (∀ n, whileN c body (n + 1) env = whileN c body n e') → sWhile c body env = sWhile c body e' := fun h => by
          by_cases hx : ∃ n, whileN c body n e' ≠ .bad
          · obtain ⟨n, q⟩ := hx
            rw [sWhile_eq q, sWhile_eq (n := n + 1) (by rw [h]; exact q), h]
          · rw [none0 fun n => by
              rw [h]
              exact Classical.byContradiction fun z => hx ⟨n, z⟩]
            unfold sWhile
            rw [dif_neg hx]
        cases fl with
        | nx => exact both step
        | ct => exact both step
        | bk =>
          have := step 0
          rw [sWhile_eq (n := 1) (by rw [this]; exact fun z => nomatch z), this]
        | rt v =>
          have := step 0
          rw [sWhile_eq (n := 1) (by rw [this]; exact fun z => nomatch z), this]
theorem hold_sWhile {c : SD → R Bool} {body : SD → R Fl} {env : SD} {Q : Fl → SD → Prop} {E : String → SD → Prop} (h : hold (sWhile c body env) Q E) : ∃ n, hold (whileN c body n env) Q E := by
  unfold sWhile at h
  split at h
  · exact ⟨_, h⟩
  · exact h.elim
theorem js_while {X : Cx} {Γ : Gm} {W : Wx} {p : Bool} {c : Expr} {body : List Stmt} {ev : SD → R Bool} {sb : SD → R Fl} {pos : Pos} (hp : PassesOwn (model X.prog X.w) X.A X.env X.xe) (hc : JT X Γ W p c ev) (hb : JB X Γ W body sb) : JS X Γ W (.While c body [] pos) (sWhile ev sb) := by
  obtain ⟨tc, pc, sc⟩ := hc.ex
  obtain ⟨tb, pb, sb'⟩ := hb.ex
  refine ⟨_, ps_while hp pc pb, fun σ H env fp re Z h => ?_⟩
  obtain ⟨n, hn⟩ := hold_sWhile h
  refine ⟨fun m σ' H' => ∃ env' fp', RE X.K Γ H' σ' env' fp' ∧ Fm H fp H' fp' ∧ hold (whileN ev sb m env') (fun fl env' => match fl with
      | .nx => ∀ σ' H' fp', RE X.K Γ H' σ' env' fp' → Fm H fp H' fp' → Z.nx σ' H'
      | .bk => ∀ σ' H' fp', RE X.K Γ H' σ' env' fp' → Fm H fp H' fp' → Z.bk σ' H'
      | .ct => ∀ σ' H' fp', RE X.K Γ H' σ' env' fp' → Fm H fp H' fp' → Z.ct σ' H'
      | .rt d => ∀ v σ' H' fp' Fr, RE X.K Γ H' σ' env' fp' → Fm H fp H' fp' → Rep X.K Γ H' d v Fr → Fr.Nodup → (∀ a ∈ Fr, ∀ i, a ∉ fp' i) → (∀ a ∈ Fr, (∃ j, a ∈ fp j) ∨ H a = none) → Z.rt v H')
    (fun c env' => ∀ σ' H' fp', RE X.K Γ H' σ' env' fp' → Fm H fp H' fp' → W c σ' H'), ⟨n, env, fp, re, Fm.refl, hn⟩, fun m σ' H' ⟨env', fp', r', f', k'⟩ => ?_⟩
  cases m with
  | zero => exact k'.elim
  | succ m =>
    refine sc σ' H' env' fp' r' _ (hold_mono (hold_bind (show hold ((ev env').bind _) _ _ from k')) (fun t e k1 H1 fp1 r1 f1 u1 => ?_) fun c e z H1 fp1 r1 f1 => z σ' H1 fp1 r1 (f'.trans f1))
    cases t with
    | false => exact k1 σ' H1 fp1 r1 (f'.trans f1)
    | true =>
      refine (if_pos rfl).mpr ?_
      refine ⟨fun σ2 H2 => ∃ env2 fp2, RE X.K Γ H2 σ2 env2 fp2 ∧ Fm H fp H2 fp2 ∧ hold (whileN ev sb m env2) _ _, fun σ2 H2 q => ⟨m, Nat.lt_succ_self m, q⟩, ?_⟩
      refine sb'.from (H0 := H) (fp0 := fp) r1 (f'.trans f1) (hold_mono (hold_bind (show hold ((sb e).bind _) _ _ from k1)) (fun fl e2 k2 => ?_) fun c e2 z => z)
      cases fl with
      | nx => exact fun σ4 H4 fp4 r4 f4 => ⟨e2, fp4, r4, f4, k2⟩
      | ct => exact fun σ4 H4 fp4 r4 f4 => ⟨e2, fp4, r4, f4, k2⟩
      | bk => exact k2
      | rt d => exact k2
end Vs

namespace Vs
open PySem PySem.Spec PyProof.Rows L2

/-! ### what is lent; what may be handed back -/
mutual
def ro : D → D
  | .tup xs => .tup (ros xs)
  | .tx xs => .tx (ros xs)
  | .lst .own xs => .lst .bor (ros xs)
  | .lst m xs => .lst m (ros xs)
  | .dic .own kvs => .dic .bor (rok kvs)
  | .dic m kvs => .dic m (rok kvs)
  | .non => .non | .bl b => .bl b | .int i => .int i | .str x => .str x
  | .obj m c fs => .obj m c fs
  | .exn c => .exn c
def ros : List D → List D
  | [] => []
  | d :: ds => ro d :: ros ds
def rok : List (Key × D) → List (Key × D)
  | [] => []
  | (k, d) :: ds => (k, ro d) :: rok ds
end
mutual
def noBor : D → Bool
  | .tup xs => noBors xs
  | .tx xs => noBors xs
  | .lst .bor _ => false
  | .lst _ xs => noBors xs
  | .dic .bor _ => false
  | .dic _ kvs => noBork kvs
  | .non => true | .bl b => true | .int i => true | .str x => true
  | .obj _ _ _ => true
  | .exn _ => true
def noBors : List D → Bool
  | [] => true
  | d :: ds => noBor d && noBors ds
def noBork : List (Key × D) → Bool
  | [] => true
  | (_, d) :: ds => noBor d && noBork ds
end
mutual
theorem ro_imm : ∀ {d : D}, isImm d = true → ro d = d
  | .tup xs, h => by show D.tup (ros xs) = _; rw [ros_imm (show isImms xs = true from h)]
  | .tx xs, h => by show D.tx (ros xs) = _; rw [ros_imm (show isImms xs = true from h)]
  | .lst .own xs, h => nomatch h
  | .lst .imm xs, h => by show D.lst .imm (ros xs) = _; rw [ros_imm (show isImms xs = true from h)]
  | .lst .bor xs, h => nomatch h
  | .dic _ _, h => nomatch h
  | .non, _ => rfl | .bl _, _ => rfl | .int _, _ => rfl | .str _, _ => rfl
  | .obj _ _ _, h => nomatch h
  | .exn _, _ => rfl
theorem ros_imm : ∀ {ds : List D}, isImms ds = true → ros ds = ds
  | [], _ => rfl
  | d :: ds, h => by
    have h' : (isImm d && isImms ds) = true := h
    rw [Bool.and_eq_true] at h'
    show ro d :: ros ds = _
    rw [ro_imm h'.1, ros_imm h'.2]
end
mutual
theorem noBor_imm : ∀ {d : D}, isImm d = true → noBor d = true
  | .tup xs, h => noBors_imm (show isImms xs = true from h)
  | .tx xs, h => noBors_imm (show isImms xs = true from h)
  | .lst .own xs, h => nomatch h
  | .lst .imm xs, h => noBors_imm (show isImms xs = true from h)
  | .lst .bor xs, h => nomatch h
  | .dic _ _, h => nomatch h
  | .non, _ => rfl | .bl _, _ => rfl | .int _, _ => rfl | .str _, _ => rfl
  | .obj _ _ _, h => nomatch h
  | .exn _, _ => rfl
theorem noBors_imm : ∀ {ds : List D}, isImms ds = true → noBors ds = true
  | [], _ => rfl
  | d :: ds, h => by
    have h' : (isImm d && isImms ds) = true := h
    rw [Bool.and_eq_true] at h'
    show (noBor d && noBors ds) = true
    rw [noBor_imm h'.1, noBors_imm h'.2]; rfl
end
theorem ros_length : ∀ ds : List D, (ros ds).length = ds.length
  | [] => rfl
  | d :: ds => by show (ros ds).length + 1 = _; rw [ros_length ds]; rfl
section
variable {K : PySem.W.Frag} {Γ Γ' : Gm} {H : Hp}
mutual
theorem Rep.ro (hG : ∀ a o, H a = some o → Γ'.G a) : ∀ {d : D} {v : V} {F : List Addr}, Rep K Γ H d v F → Rep K Γ' H (Vs.ro d) v []
  | .non, _, _, h => ⟨h.1, rfl⟩
  | .bl _, _, _, h => ⟨h.1, rfl⟩
  | .int _, _, _, h => ⟨h.1, rfl⟩
  | .str _, _, _, h => ⟨h.1, rfl⟩
  | .tup ds, v, F, h => by
    obtain ⟨a, vs, e, s, r, f⟩ := h
    exact ⟨a, vs, e, s, Reps.ro hG r, rfl⟩
  | .tx ds, v, F, h => by
    obtain ⟨a, vs, e, s, r, f⟩ := h
    exact ⟨a, vs, e, s, Reps.ro hG r, rfl⟩
  | .lst .own ds, v, F, h => by
    obtain ⟨a, vs, F', e, s, r, f⟩ := h
    exact ⟨a, vs, e, hG _ _ s, s, Reps.ro hG r, rfl⟩
  | .lst .imm ds, v, F, h => by
    obtain ⟨a, vs, e, s, r, f⟩ := h
    exact ⟨a, vs, e, s, Reps.ro hG r, rfl⟩
  | .lst .bor ds, v, F, h => by
    obtain ⟨a, vs, e, gg, s, r, f⟩ := h
    exact ⟨a, vs, e, hG _ _ s, s, Reps.ro hG r, rfl⟩
  | .dic .own kvs, v, F, h => by
    obtain ⟨a, ks, e, s, r, f⟩ := h
    exact ⟨a, ks, e, hG _ _ s, s, RepK.ro hG r, rfl⟩
  | .dic .imm kvs, v, F, h => by
    obtain ⟨a, ks, o, e, s, r, f⟩ := h
    exact ⟨a, ks, o, e, s, RepK.ro hG r, rfl⟩
  | .dic .bor kvs, v, F, h => by
    obtain ⟨a, ks, e, gg, s, r, f⟩ := h
    exact ⟨a, ks, e, hG _ _ s, s, RepK.ro hG r, rfl⟩
  | .obj _ _ _, _, _, h => h.elim
  | .exn _, _, _, h => h.elim
theorem Reps.ro (hG : ∀ a o, H a = some o → Γ'.G a) : ∀ {ds : List D} {vs : List V} {F : List Addr}, Reps K Γ H ds vs F → Reps K Γ' H (ros ds) vs []
  | [], [], _, h => rfl
  | d :: ds, v :: vs, F, h => by
    obtain ⟨F1, F2, e, r, rs⟩ := h
    exact Reps.cons0 (Rep.ro hG r) (Reps.ro hG rs)
  | [], _ :: _, _, h => h.elim
  | _ :: _, [], _, h => h.elim
theorem RepK.ro (hG : ∀ a o, H a = some o → Γ'.G a) : ∀ {ds : List (Key × D)} {vs : List (Key × V)}, RepK K Γ H ds vs → RepK K Γ' H (rok ds) vs
  | [], [], h => h
  | (k, d) :: ds, (k', v) :: vs, h => ⟨h.1, Rep.ro hG h.2.1, RepK.ro hG h.2.2⟩
  | [], _ :: _, h => h
  | _ :: _, [], h => h
end
/-! nothing lent is in it: told alike by every run -/
mutual
theorem Rep.noG : ∀ {d : D} {v : V} {F : List Addr}, Rep K Γ H d v F → noBor d = true → Rep K Γ' H d v F
  | .non, _, _, h, _ => h
  | .bl _, _, _, h, _ => h
  | .int _, _, _, h, _ => h
  | .str _, _, _, h, _ => h
  | .tup ds, v, F, h, i => by
    obtain ⟨a, vs, e, s, r, f⟩ := h
    exact ⟨a, vs, e, s, Reps.noG r i, f⟩
  | .tx ds, v, F, h, i => by
    obtain ⟨a, vs, e, s, r, f⟩ := h
    exact ⟨a, vs, e, s, Reps.noG r i, f⟩
  | .lst .own ds, v, F, h, i => by
    obtain ⟨a, vs, F', e, s, r, f⟩ := h
    exact ⟨a, vs, F', e, s, Reps.noG r i, f⟩
  | .lst .imm ds, v, F, h, i => by
    obtain ⟨a, vs, e, s, r, f⟩ := h
    exact ⟨a, vs, e, s, Reps.noG r i, f⟩
  | .lst .bor ds, v, F, h, i => nomatch i
  | .dic .own kvs, v, F, h, i => by
    obtain ⟨a, ks, e, s, r, f⟩ := h
    exact ⟨a, ks, e, s, RepK.noG r i, f⟩
  | .dic .imm kvs, v, F, h, i => by
    obtain ⟨a, ks, o, e, s, r, f⟩ := h
    exact ⟨a, ks, o, e, s, RepK.noG r i, f⟩
  | .dic .bor kvs, v, F, h, i => nomatch i
  | .obj _ _ _, _, _, h, i => h.elim
  | .exn _, _, _, h, _ => h.elim
theorem Reps.noG : ∀ {ds : List D} {vs : List V} {F : List Addr}, Reps K Γ H ds vs F → noBors ds = true → Reps K Γ' H ds vs F
  | [], [], _, h, _ => h
  | d :: ds, v :: vs, F, h, i => by
    obtain ⟨F1, F2, e, r, rs⟩ := h
    have i' : (noBor d && noBors ds) = true := i
    rw [Bool.and_eq_true] at i'
    exact ⟨F1, F2, e, Rep.noG r i'.1, Reps.noG rs i'.2⟩
  | [], _ :: _, _, h, _ => h.elim
  | _ :: _, [], _, h, _ => h.elim
theorem RepK.noG : ∀ {ds : List (Key × D)} {vs : List (Key × V)}, RepK K Γ H ds vs → noBork ds = true → RepK K Γ' H ds vs
  | [], [], h, _ => h
  | (k, d) :: ds, (k', v) :: vs, h, i => by
    have i' : (noBor d && noBork ds) = true := i
    rw [Bool.and_eq_true] at i'
    exact ⟨h.1, Rep.noG h.2.1 i'.1, RepK.noG h.2.2 i'.2⟩
  | [], _ :: _, h, _ => h.elim
  | _ :: _, [], h, _ => h.elim
end
end

/-! ### a def -/
def outsOf (pins : List Nat) (env : SD) : SD := pins.map fun i => (env[i]?).join
/-- a def's run: n slots, the parameters that it writes, its body, the arguments -/
def runFn (n : Nat) (pins : List Nat) (body : SD → R Fl) (args : List D) : R D := match body (args.map some ++ List.replicate (n - args.length) none) with
  | .ok (.rt d) e => if noBor d = true then .ok d (outsOf pins e) else .bad
  | .ok .nx e => .ok .non (outsOf pins e)
  | .ok _ _ => .bad
  | .exc c e => .exc c (outsOf pins e)
  | .bad => .bad
abbrev gmOf (H : Hp) (fp : Fp) (pins : List Nat) (vs : List V) : Gm := ⟨H, fun a => ∃ i, a ∈ fp i, pins, vs.map some⟩
/-- behind a def's end -/
structure Ended (K : PySem.W.Frag) (Γ : Gm) (pins : List Nat) (vs : List V) (H : Hp) (fp : Fp) (outs : SD) (H' : Hp) (fp' : Fp) : Prop where
  outs : ∀ (k i : Nat) (d : D), pins[k]? = some i → outs[k]? = some (some d) → ∃ u, vs[i]? = some u ∧ Rep K Γ H' d u (fp' i)
  dis : ∀ i j a, a ∈ fp' i → a ∈ fp' j → i = j
  nd : ∀ i, (fp' i).Nodup
  fm : Fm H fp H' fp'
/-- the promise of a def that lets no exception out -/
def spF (K : PySem.W.Frag) (np : Nat) (pins : List Nat) (fn : List D → R D) : Sp := fun vs H Q _ => ∃ (ds : List D) (fp : Fp), vs.length = np ∧ ds.length = np ∧
  (∀ (i : Nat) (d : D), ds[i]? = some d → ∃ v, vs[i]? = some v ∧ Rep K (gmOf H fp pins vs) H d v (fp i)) ∧ (∀ i, fp i ≠ [] → i ∈ pins) ∧ (∀ i j a, a ∈ fp i → a ∈ fp j → i = j) ∧ (∀ i, (fp i).Nodup) ∧
  hold (fn ds) (fun r outs => ∀ v H' fp' Fr, Ended K (gmOf H fp pins vs) pins vs H fp outs H' fp' → Rep K (gmOf H fp pins vs) H' r v Fr → noBor r = true → Fr.Nodup → (∀ a ∈ Fr, ∀ i ∈ pins, a ∉ fp' i) → (∀ a ∈ Fr, (∃ j, a ∈ fp j) ∨ H a = none) → Q v H') (fun _ _ => False)
abbrev W0 : Wx := fun _ _ _ => False
theorem join_some {o : Option (Option D)} {d : D} (h : o.join = some d) : o = some (some d) := by
  cases o with
  | none => cases h
  | some x => cases x with
    | none => cases h
    | some y => cases h; rfl
section
variable {P : Program} {w : World} {K : PySem.W.Frag} {mg : Str → Option Value} {base : Heap}
theorem fn_okG {qual : Str} {st : Stmt} {f : Addr} {fd : FuncData} {N ps : List Str} {k : Nat} {pins : List Nat} {body : SD → R Fl} (S : FnScope N ps (defScope st)) (hpn : ∀ i ∈ pins, i < ps.length)
    (F : ∀ {sp : Sp}, (∀ vs H Q E, sp vs H Q E → vs.length = ps.length) → (∀ (cdv : Value) (A : Around) (outer : List Env) (s : Shared) (H : Hp) (vs : List V) (Q : VK) (E : XK), Room k (A.deeper (envOfC qual (defScope st) s.heap.objs.size f cdv)) → sp vs H Q E →
      ∃ t, PSs (cxOf CX0 P w K mg base N qual (defScope st) f cdv A outer s H E).nox (defBody st) t ∧ t { nx := fun _ H' => Q .non H', rt := Q } (start N vs) H) → FnOk P w K mg base CX0 (k + 1) f fd ps sp)
    (hbody : ∀ (cdv : Value) (A : Around) (outer : List Env) (s : Shared) (H : Hp) (E : XK) (Γ : Gm), Γ.pins = pins → Room k (A.deeper (envOfC qual (defScope st) s.heap.objs.size f cdv)) →
      JB (cxOf CX0 P w K mg base N qual (defScope st) f cdv A outer s H E).nox Γ W0 (defBody st) body) : FnOk P w K mg base CX0 (k + 1) f fd ps (spF K ps.length pins (runFn N.length pins body)) := by
  refine F (fun vs H Q E h => ?_) (fun cdv A outer s H vs Q E hr h => ?_)
  · obtain ⟨ds, fp, h1, _⟩ := h
    exact h1
  · obtain ⟨ds, fp, hv, hd, hrep, hfp, hdis, hnd, hh⟩ := h
    obtain ⟨t, pb, sat⟩ := (hbody cdv A outer s H E (gmOf H fp pins vs) rfl hr).ex
    refine ⟨t, pb, ?_⟩
    have hNl : ps.length ≤ N.length := by
      have := congrArg List.length S.pre
      rw [List.length_take] at this
      omega
    have envget : ∀ i d, (ds.map some ++ List.replicate (N.length - ds.length) (none : Option D))[i]? = some (some d) → ds[i]? = some d := fun i d e => by
      by_cases hi : i < ds.length
      · rw [List.getElem?_append_left (by rw [List.length_map]; exact hi), List.getElem?_map] at e
        cases q : ds[i]? with
        | none => rw [q] at e; cases e
        | some y => rw [q] at e; cases e; rfl
      · rw [List.getElem?_append_right (by rw [List.length_map]; omega)] at e
        rw [List.getElem?_replicate] at e
        split at e
        · cases e
        · cases e
    have stget : ∀ i v, vs[i]? = some v → (start N vs)[i]? = some (some v) := fun i v e => by
      unfold L2.start
      rw [List.getElem?_append_left (by rw [List.length_map]; exact (List.getElem?_eq_some_iff.mp e).1), List.getElem?_map, e]
      rfl
    have hre : RE K (gmOf H fp pins vs) H (start N vs) (ds.map some ++ List.replicate (N.length - ds.length) none) fp := by
      refine ⟨fun i d e => ?_, fun i n => ?_, hdis, hnd, fun i a m g => g.2 ⟨i, m⟩, fun i m => ?_, fun a o _ h => h, ?_⟩
      · obtain ⟨v, e1, r⟩ := hrep i d (envget i d e)
        exact ⟨v, stget i v e1, r⟩
      · by_cases hz : fp i = []
        · exact hz
        · have hi : i < ds.length := by rw [hd]; exact hpn i (hfp i hz)
          refine (n ds[i] ?_).elim
          rw [List.getElem?_append_left (by rw [List.length_map]; exact hi), List.getElem?_map, List.getElem?_eq_getElem hi]
          rfl
      · have hi : i < vs.length := by rw [hv]; exact hpn i m
        show (start N vs)[i]? = (vs.map some)[i]?
        unfold L2.start
        rw [List.getElem?_append_left (by rw [List.length_map]; exact hi)]
      · unfold L2.start
        simp only [List.length_append, List.length_map, List.length_replicate]
        omega
    refine sat _ H _ fp hre _ ?_
    unfold runFn at hh
    have outsget : ∀ (e : SD) (k i : Nat) (d : D), pins[k]? = some i → (outsOf pins e)[k]? = some (some d) → e[i]? = some (some d) := fun e k i d h1 h2 => by
      unfold outsOf at h2
      rw [List.getElem?_map, h1] at h2
      exact join_some (Option.some.inj h2)
    have fin : ∀ (e : SD) (σ' : L2.St) (H' : Hp) (fp' : Fp), RE K (gmOf H fp pins vs) H' σ' e fp' → Fm H fp H' fp' → Ended K (gmOf H fp pins vs) pins vs H fp (outsOf pins e) H' fp' := fun e σ' H' fp' r' f' => by
      refine ⟨fun k i d h1 h2 => ?_, r'.dis, r'.nd, f'⟩
      obtain ⟨u, q1, q2⟩ := r'.slot i d (outsget e k i d h1 h2)
      have := r'.pin i (List.mem_of_getElem? h1)
      rw [q1] at this
      have hi : i < vs.length := by rw [hv]; exact hpn i (List.mem_of_getElem? h1)
      have e2 : (vs.map some)[i]? = some (some vs[i]) := by rw [List.getElem?_map, List.getElem?_eq_getElem hi]; rfl
      have e3 : (some (some u) : Option (Option V)) = some (some vs[i]) := this.trans e2
      cases e3
      exact ⟨_, List.getElem?_eq_getElem hi, q2⟩
    cases hb : body (ds.map some ++ List.replicate (N.length - ds.length) none) with
    | bad => rw [hb] at hh; exact hh.elim
    | exc c e => rw [hb] at hh; exact hh.elim
    | ok fl e =>
      rw [hb] at hh
      cases fl with
      | nx => exact fun σ' H' fp' r' f' => hh .non H' fp' [] (fin e σ' H' fp' r' f') ⟨rfl, rfl⟩ rfl List.nodup_nil (fun _ m => nomatch m) (fun _ m => nomatch m)
      | bk => exact hh.elim
      | ct => exact hh.elim
      | rt d =>
        have hh' : hold (if noBor d = true then R.ok d (outsOf pins e) else R.bad) _ _ := hh
        split at hh'
        · rename_i hnb
          exact fun v σ' H' fp' Fr r' f' q nd fr nw => hh' v H' fp' Fr (fin e σ' H' fp' r' f') q hnb nd (fun a m i _ => fr a m i) nw
        · exact hh'.elim
end

/-! ### the call of a def that writes none of its arguments -/
def eCall (np : Nat) (fn : List D → R D) (ev : SD → R (List D)) : SD → R D := fun env => (ev env).bind fun ds e => if ds.length = np then (match fn (ros ds) with
  | .ok d _ => .ok d e
  | _ => .bad) else .bad
theorem Reps.toAll {K : PySem.W.Frag} {Γ : Gm} {H : Hp} {ds : List D} {vs : List V} (h : Reps K Γ H ds vs []) : ∀ (i : Nat) (d : D), ds[i]? = some d → ∃ v, vs[i]? = some v ∧ Rep K Γ H d v [] := fun i d e => h.get0 e
section
variable {X : Cx} {Γ : Gm} {W : Wx} {p p' fa fb f : Bool} {a : Expr} {es : List Expr} {evs : SD → R (List D)} {k np : Nat} {fA : Addr} {fd : FuncData} {ps : List Str} {fn : List D → R D} {x : Str} {q pos : Pos}
theorem sat_call {K : PySem.W.Frag} {t : TA} (hs : SatA K Γ W p fa t evs) : Sat K Γ W p true (tCall (spF K np [] fn) [] E0 t) (eCall np fn evs) := fun σ H env fp re Q h => by
  refine hs σ H env fp re _ (hold_mono (hold_bind h) (fun ds e h0 vs H1 fp1 Fr oa => ?_) fun _ _ z => z)
  by_cases hl : ds.length = np
  · rw [if_pos hl] at h0
    have h1 : hold (match fn (ros ds) with | .ok d _ => R.ok d e | _ => R.bad) _ _ := h0
    refine ⟨ros ds, fun _ => [], ?_, by rw [ros_length]; exact hl, ?_, (fun i z => (z rfl).elim), (fun _ _ _ m => nomatch m), fun _ => List.nodup_nil, ?_⟩
    · rw [List.append_nil, ← oa.rep.len]; exact hl
    · rw [List.append_nil]
      exact (oa.rep.ro (Γ' := gmOf H1 (fun _ => []) [] vs) fun y o e => ⟨⟨o, e⟩, fun ⟨_, m⟩ => nomatch m⟩).toAll
    · cases hfn : fn (ros ds) with
      | bad => rw [hfn] at h1; exact h1.elim
      | exc c e => rw [hfn] at h1; exact h1.elim
      | ok r outs =>
        rw [hfn] at h1
        intro v H' fp' Fr' en rep nb nd fr nw
        have nw' : ∀ z ∈ Fr', H1 z = none := fun z m => (nw z m).elim (fun ⟨_, q⟩ => nomatch q) id
        have sm : Same H1 H' := fun z o e => en.fm.keep z o e fun _ m => nomatch m
        refine h1 v H' fp1 Fr' ⟨oa.re.same sm, rep.noG nb, nd, oa.fm.trans (Fm.same sm), fun z m => oa.fm.back (.inr (nw' z m)), fun z => ?_, fun _ z m i => oa.re.fresh (nw' z m) i⟩
        obtain ⟨q1, q2, q3⟩ := oa.pu z
        exact ⟨q1, q2, q3.trans sm⟩
  · rw [if_neg hl] at h0
    exact h0.elim
theorem j_call (F : FnOk X.prog X.w X.K X.mg X.base CX0 k fA fd ps (spF X.K np [] fn)) (hr : Room k X.A) (hm : X.mg x = some (.ref fA)) (hk : PySem.W.keepIn X.K (.ref fA) = true) (hb : Binds X.K fd ps []) (ha : JA X Γ W p fa (a :: es) evs) (hg : Gl X x := by rfl)
    (hdb : (x == ("__debug__" : Str)) = false := by decide) (he : starEach (a :: es) X.env = (false, eval a X.env) :: starEach es X.env := by rfl) (hpl : (backTo pos (starEach es X.env)).any (·.1) = false := by rfl) :
    J X Γ W p true (.Call (.Name x q) (a :: es) [] pos) (eCall np fn evs) := by
  obtain ⟨t, pa, sa⟩ := ha.ex
  exact ⟨_, pe_call F hr hg hm hk hb .nil pass0 pa hdb he hpl, sat_call sa⟩
end
end Vs

namespace Vs
open PySem PySem.Spec PyProof.Rows L2

/-! ### the call of a def that writes one of its arguments: a slot's value, by its place kp -/
structure OutP (K : PySem.W.Frag) (Γ : Gm) (s : Nat) (pat : List Bool) (σ : L2.St) (H : Hp) (fp : Fp) (ods : List (Option D)) (env' : SD) (vs : List V) (H' : Hp) (fp' : Fp) : Prop where
  re : RE K Γ H' σ env' fp'
  fm : Fm H fp H' fp'
  len : vs.length = ods.length
  pat : ods.map Option.isNone = pat
  val : ∀ (i : Nat) (d : D), ods[i]? = some (some d) → ∃ v, vs[i]? = some v ∧ Rep K Γ H' d v [] ∧ isImm d = true
  plc : ∀ i : Nat, ods[i]? = some none → ∃ v, vs[i]? = some v ∧ σ[s]? = some (some v)
def SatP (K : PySem.W.Frag) (Γ : Gm) (W : Wx) (s : Nat) (pat : List Bool) (t : TA) (ev : SD → R (List (Option D))) : Prop :=
  ∀ σ H env fp, RE K Γ H σ env fp → ∀ Q : List V → Hp → Prop, hold (ev env) (fun d env' => ∀ v H' fp', OutP K Γ s pat σ H fp d env' v H' fp' → Q v H')
    (fun c env' => ∀ H' fp', RE K Γ H' σ env' fp' → Fm H fp H' fp' → W c σ H') → t σ H Q
structure JP (X : Cx) (Γ : Gm) (W : Wx) (s : Nat) (pat : List Bool) (es : List Expr) (ev : SD → R (List (Option D))) : Prop where
  ex : ∃ t, PA X es t ∧ SatP X.K Γ W s pat t ev
def apNil : SD → R (List (Option D)) := fun env => .ok [] env
def apVal (a : SD → R D) (r : SD → R (List (Option D))) : SD → R (List (Option D)) := fun env => (a env).bind fun x e1 => if isImm x = true then (r e1).bind fun xs e2 => .ok (some x :: xs) e2 else .bad
def apPlc (s : Nat) (r : SD → R (List (Option D))) : SD → R (List (Option D)) := fun env => (eVar s env).bind fun _ e1 => (r e1).bind fun xs e2 => .ok (none :: xs) e2
section
variable {X : Cx} {Γ : Gm} {W : Wx} {p f : Bool} {a : Expr} {es : List Expr} {eva : SD → R D} {evs : SD → R (List (Option D))} {s : Nat} {pat : List Bool}
theorem jp_nil : JP X Γ W s [] [] apNil :=
  ⟨_, pa_nil, fun σ H env fp re Q q => q [] H fp ⟨re, Fm.refl, rfl, rfl, (fun i d e => by simp at e), fun i e => by simp at e⟩⟩
theorem jp_val (ha : J X Γ W p f a eva) (hr : JP X Γ W s pat es evs) (hs : starEach (a :: es) X.env = (false, eval a X.env) :: starEach es X.env := by rfl) : JP X Γ W s (false :: pat) (a :: es) (apVal eva evs) := by
  obtain ⟨ta, pa, sa⟩ := ha.ex
  obtain ⟨tb, pb, sb⟩ := hr.ex
  refine ⟨_, pa_cons pa pb hs, fun σ H env fp re Q h => ?_⟩
  refine sa σ H env fp re _ (hold_mono (hold_bind h) (fun da e1 h1 x H1 fp1 Fa oa => ?_) fun c e z H' fp' r' f' => z H' fp' r' f')
  by_cases hi : isImm da = true
  · rw [if_pos hi] at h1
    refine sb σ H1 e1 fp1 oa.re _ (hold_mono (hold_bind h1) (fun db e2 h2 y H2 fp2 ob => ?_) fun c e z H' fp' r' f' => z H' fp' r' (oa.fm.trans f'))
    have r0 := oa.rep
    rw [r0.immF hi] at r0
    have ra : Rep X.K Γ H2 da x [] := r0.held oa.re ob.fm fun _ m => nomatch m
    refine h2 (x :: y) H2 fp2 ⟨ob.re, oa.fm.trans ob.fm, by simp [ob.len], by simp [← ob.pat], fun i d e => ?_, fun i e => ?_⟩
    · cases i with
      | zero => cases e; exact ⟨x, rfl, ra, hi⟩
      | succ i => exact ob.val i d (by simpa using e)
    · cases i with
      | zero => cases e
      | succ i => exact ob.plc i (by simpa using e)
  · rw [if_neg hi] at h1
    exact h1.elim
theorem jp_plc {x : Str} {pos : Pos} (hr : JP X Γ W s pat es evs) (hN : X.N[s]? = some x := by rfl) (hv : Vis X.env.scope x := by first | exact Or.inl rfl | exact Or.inr (Or.inl rfl) | exact Or.inr (Or.inr rfl)) (hd : (x == ("__debug__" : Str)) = false := by decide)
    (hcd : (x == ("__classdict__" : Str)) = false := by decide) (hs : starEach (.Name x pos :: es) X.env = (false, eval (.Name x pos) X.env) :: starEach es X.env := by rfl) : JP X Γ W s (true :: pat) (.Name x pos :: es) (apPlc s evs) := by
  obtain ⟨ta, pa, sa⟩ := (j_var (Γ := Γ) (W := W) s (pos := pos) hN hv hd hcd).ex
  obtain ⟨tb, pb, sb⟩ := hr.ex
  refine ⟨_, pa_cons (pe_var (i := s) (pos := pos) hN hv hd hcd) pb hs, fun σ H env fp re Q h => ?_⟩
  unfold apPlc eVar at h
  cases he : env[s]? with
  | none => rw [he] at h; exact h.elim
  | some o =>
    cases o with
    | none => rw [he] at h; exact h.elim
    | some d =>
      rw [he] at h
      obtain ⟨v, e1, r1⟩ := re.slot s d he
      refine ⟨v, e1, sb σ H env fp re _ (hold_mono (hold_bind h) (fun db e2 h2 y H2 fp2 ob => ?_) fun c e z => z)⟩
      refine h2 (v :: y) H2 fp2 ⟨ob.re, ob.fm, by simp [ob.len], by simp [← ob.pat], fun i d e => ?_, fun i e => ?_⟩
      · cases i with
        | zero => cases e
        | succ i => exact ob.val i d (by simpa using e)
      · cases i with
        | zero => exact ⟨v, rfl, e1⟩
        | succ i => exact ob.plc i (by simpa using e)
def eCallP (np s : Nat) (fn : List D → R D) (ev : SD → R (List (Option D))) : SD → R D := fun env => (ev env).bind fun ods e => match e[s]? with
  | some (some x) => if noBor x = true ∧ ods.length = np then (match fn (ods.map (·.getD x)) with
    | .ok d [some x'] => if noBor x' = true then .ok d (e.set s (some x')) else .bad
    | _ => .bad) else .bad
  | _ => .bad
theorem pat_at {kp m : Nat} {ods : List (Option D)} (h : ods.map Option.isNone = List.replicate kp false ++ true :: List.replicate m false) : ods[kp]? = some none ∧ ∀ i, i ≠ kp → i < ods.length → ∃ d, ods[i]? = some (some d) := by
  have hg : ∀ i : Nat, (ods[i]?).map Option.isNone = (List.replicate kp false ++ true :: List.replicate m false)[i]? := fun i => by rw [← h, List.getElem?_map]
  refine ⟨?_, fun i ne hi => ?_⟩
  · have h1 := hg kp
    rw [List.getElem?_append_right (by simp)] at h1
    have h2 : (true :: List.replicate m false)[kp - (List.replicate kp false).length]? = some true := by simp
    rw [h2] at h1
    cases ho : ods[kp]? with
    | none => rw [ho] at h1; cases h1
    | some o =>
      cases o with
      | none => rfl
      | some d => rw [ho] at h1; cases h1
  · have := hg i
    have e : (List.replicate kp false ++ true :: List.replicate m false)[i]? = some false := by
      have hl : ods.length = kp + (m + 1) := by simpa using congrArg List.length h
      by_cases hk : i < kp
      · rw [List.getElem?_append_left (by simpa using hk), List.getElem?_replicate, if_pos hk]
      · rw [List.getElem?_append_right (by simp; omega)]
        obtain ⟨j, hj⟩ : ∃ j, i - (List.replicate kp false).length = j + 1 := ⟨i - kp - 1, by simp; omega⟩
        rw [hj, List.getElem?_cons_succ, List.getElem?_replicate, if_pos (by simp at hj; omega)]
    rw [e] at this
    cases ho : ods[i]? with
    | none => rw [ho] at this; cases this
    | some o =>
      cases o with
      | none => rw [ho] at this; cases this
      | some d => exact ⟨d, rfl⟩
theorem sat_callP {K : PySem.W.Frag} {t : TA} {np kp m : Nat} {fn : List D → R D} (hs : SatP K Γ W s pat t evs) (hpat : pat = List.replicate kp false ++ true :: List.replicate m false) : Sat K Γ W false true (tCall (spF K np [kp] fn) [] E0 t) (eCallP np s fn evs) := fun σ H env fp re Q h => by
  refine hs σ H env fp re _ (hold_mono (hold_bind h) (fun ods e h0 vs H1 fp1 oa => ?_) fun _ _ z => z)
  cases hes : e[s]? with
  | none => rw [hes] at h0; exact h0.elim
  | some o =>
    cases o with
    | none => rw [hes] at h0; exact h0.elim
    | some x =>
      rw [hes] at h0
      have h0' : hold (if noBor x = true ∧ ods.length = np then (match fn (ods.map (·.getD x)) with
        | .ok d [some x'] => if noBor x' = true then R.ok d (e.set s (some x')) else R.bad
        | _ => R.bad) else R.bad) _ _ := h0
      split at h0'
      · rename_i hh
        obtain ⟨hnb, hl⟩ := hh
        obtain ⟨pk, po⟩ := pat_at (oa.pat.trans hpat)
        obtain ⟨v, hσ, hx⟩ := oa.re.slot s x hes
        obtain ⟨v', hv', hσ'⟩ := oa.plc kp pk
        have ev : v' = v := by rw [hσ] at hσ'; cases hσ'; rfl
        subst ev
        let fpc : Fp := fun i => if i = kp then fp1 s else []
        have fck : fpc kp = fp1 s := if_pos rfl
        have fcn : ∀ i, i ≠ kp → fpc i = [] := fun i n => if_neg n
        have fcm : ∀ i z, z ∈ fpc i → z ∈ fp1 s := fun i z m => by
          by_cases hi : i = kp
          · rw [hi, fck] at m; exact m
          · rw [fcn i hi] at m; cases m
        refine ⟨ods.map (·.getD x), fpc, ?_, by rw [List.length_map]; exact hl, ?_, fun i z => ?_, fun i j z m1 m2 => ?_, fun i => ?_, ?_⟩
        · rw [List.append_nil, oa.len]; exact hl
        · rw [List.append_nil]
          intro i d e1
          rw [List.getElem?_map] at e1
          by_cases hi : i = kp
          · subst hi
            rw [pk] at e1
            cases e1
            exact ⟨v', hv', by rw [fck]; exact hx.noG hnb⟩
          · cases ho : ods[i]? with
            | none => rw [ho] at e1; cases e1
            | some o =>
              cases o with
              | none =>
                obtain ⟨d', hd'⟩ := po i hi (List.getElem?_eq_some_iff.mp ho).1
                rw [ho] at hd'; cases hd'
              | some d' =>
                rw [ho] at e1
                cases e1
                obtain ⟨u, q1, q2, q3⟩ := oa.val i d' ho
                exact ⟨u, q1, by rw [fcn i hi]; exact q2.immG q3⟩
        · by_cases hi : i = kp
          · rw [hi]; exact List.mem_singleton.mpr rfl
          · exact (z (fcn i hi)).elim
        · by_cases hi : i = kp
          · by_cases hj : j = kp
            · rw [hi, hj]
            · rw [fcn j hj] at m2; cases m2
          · rw [fcn i hi] at m1; cases m1
        · by_cases hi : i = kp
          · rw [hi, fck]; exact oa.re.nd s
          · rw [fcn i hi]; exact List.nodup_nil
        · cases hfn : fn (ods.map (·.getD x)) with
          | bad => rw [hfn] at h0'; exact h0'.elim
          | exc c e => rw [hfn] at h0'; exact h0'.elim
          | ok r outs =>
            rw [hfn] at h0'
            match outs, h0' with
            | [some x'], h0' =>
              have h1 : hold (if noBor x' = true then R.ok r (e.set s (some x')) else R.bad) _ _ := h0'
              split at h1
              · rename_i hnb'
                intro u H' fp' Fr en rep nb nd fr nw
                rw [List.append_nil] at en rep
                obtain ⟨u', hu', hx'⟩ := en.outs 0 kp x' rfl rfl
                rw [hv'] at hu'
                cases hu'
                have keep : ∀ z o, H1 z = some o → z ∉ fp1 s → H' z = some o := fun z o q n => en.fm.keep z o q fun i m => n (fcm i z m)
                have newk : ∀ z, z ∈ fp' kp → z ∈ fp1 s ∨ H1 z = none := fun z m => (en.fm.new kp z m).imp (fun ⟨j, q⟩ => fcm j z q) id
                have newr : ∀ z ∈ Fr, z ∈ fp1 s ∨ H1 z = none := fun z m => (nw z m).imp (fun ⟨j, q⟩ => fcm j z q) id
                have hsl : s < e.length := (List.getElem?_eq_some_iff.mp hes).1
                have ne_other : ∀ z j, j ≠ s → z ∈ fp1 j → (z ∈ fp1 s ∨ H1 z = none) → False := fun z j hj mj q => by
                  rcases q with q | q
                  · exact hj (oa.re.dis j s z mj q)
                  · exact oa.re.fresh q j mj
                have re' : RE K Γ H' σ (e.set s (some x')) (upF fp1 s (fp' kp)) := by
                  refine ⟨fun j d q => ?_, fun j n => ?_, fun i j z m1 m2 => ?_, fun j => ?_, fun j z m => ?_, oa.re.pin, fun z o g q => ?_, ?_⟩
                  · by_cases hj : j = s
                    · subst hj
                      rw [List.getElem?_set_self hsl] at q
                      cases q
                      exact ⟨v', hσ, by rw [upF_same]; exact hx'.noG hnb'⟩
                    · rw [List.getElem?_set_ne (Ne.symm hj)] at q
                      obtain ⟨w', q1, q2⟩ := oa.re.slot j d q
                      refine ⟨w', q1, ?_⟩
                      rw [upF_ne hj]
                      refine q2.ag fun z o hz q => keep z o hz fun ms => ?_
                      rcases q with q | q | q
                      · exact hj (oa.re.dis j s z q ms)
                      · have := oa.re.mut ms
                        rw [hz] at this
                        exact q this
                      · exact oa.re.ng s z ms q
                  · by_cases hj : j = s
                    · subst hj
                      exact (n x' (List.getElem?_set_self hsl)).elim
                    · rw [upF_ne hj]
                      exact oa.re.void j fun d q => n d (by rw [List.getElem?_set_ne (Ne.symm hj)]; exact q)
                  · rcases upF_mem m1 with ⟨e1, m1⟩ | ⟨e1, m1⟩ <;> rcases upF_mem m2 with ⟨e2, m2⟩ | ⟨e2, m2⟩
                    · rw [e1, e2]
                    · exact (ne_other z j e2 m2 (newk z m1)).elim
                    · exact (ne_other z i e1 m1 (newk z m2)).elim
                    · exact oa.re.dis i j z m1 m2
                  · by_cases hj : j = s
                    · subst hj; rw [upF_same]; exact en.nd kp
                    · rw [upF_ne hj]; exact oa.re.nd j
                  · rcases upF_mem m with ⟨_, m⟩ | ⟨_, m⟩
                    · exact oa.re.notG ((newk z m).imp (fun q => ⟨s, q⟩) id)
                    · exact oa.re.ng j z m
                  · exact keep z o (oa.re.base z o g q) fun ms => oa.re.ng s z ms g
                  · rw [List.length_set]; exact oa.re.len
                have fm' : Fm H1 fp1 H' (upF fp1 s (fp' kp)) := ⟨fun z o q n => keep z o q (n s), fun j z m => by
                  rcases upF_mem m with ⟨_, m⟩ | ⟨_, m⟩
                  · exact (newk z m).imp (fun q => ⟨s, q⟩) id
                  · exact .inl ⟨j, m⟩⟩
                refine h1 u H' (upF fp1 s (fp' kp)) Fr ⟨re', rep.noG nb, nd, oa.fm.trans fm', fun z m => oa.fm.back ((newr z m).imp (fun q => ⟨s, q⟩) id), (fun z => nomatch z), fun _ z m i mi => ?_⟩
                rcases upF_mem mi with ⟨_, mi⟩ | ⟨ni, mi⟩
                · exact fr z m kp (List.mem_singleton.mpr rfl) mi
                · exact ne_other z i ni mi (newr z m)
              · exact h1.elim
            | [], h0' => exact h0'.elim
            | [none], h0' => exact h0'.elim
            | none :: _ :: _, h0' => exact h0'.elim
            | some _ :: _ :: _, h0' => exact h0'.elim
      · exact h0'.elim
theorem j_callP {k np kp m : Nat} {fA : Addr} {fd : FuncData} {ps : List Str} {fn : List D → R D} {x : Str} {q pos : Pos} (F : FnOk X.prog X.w X.K X.mg X.base CX0 k fA fd ps (spF X.K np [kp] fn)) (hr : Room k X.A) (hm : X.mg x = some (.ref fA)) (hk : PySem.W.keepIn X.K (.ref fA) = true) (hb : Binds X.K fd ps [])
    (ha : JP X Γ W s pat (a :: es) evs) (hpat : pat = List.replicate kp false ++ true :: List.replicate m false) (hg : Gl X x := by rfl)
    (hdb : (x == ("__debug__" : Str)) = false := by decide) (he : starEach (a :: es) X.env = (false, eval a X.env) :: starEach es X.env := by rfl) (hpl : (backTo pos (starEach es X.env)).any (·.1) = false := by rfl) :
    J X Γ W false true (.Call (.Name x q) (a :: es) [] pos) (eCallP np s fn evs) := by
  obtain ⟨t, pa, sa⟩ := ha.ex
  exact ⟨_, pe_call F hr hg hm hk hb .nil pass0 pa hdb he hpl, sat_callP sa hpat⟩
end

/-! ### canonical readings -/
def tOf (K : PySem.W.Frag) (Γ : Gm) (W : Wx) (p f : Bool) (ev : SD → R D) : TE := fun σ H Q => ∃ env fp, RE K Γ H σ env fp ∧ hold (ev env) (fun d env' => ∀ v H' fp' Fr, Out K Γ p f σ H env fp d env' v H' fp' Fr → Q v H')
    (fun c env' => ∀ H' fp', RE K Γ H' σ env' fp' → Fm H fp H' fp' → W c σ H')
theorem J.canon {X : Cx} {Γ : Gm} {W : Wx} {p f : Bool} {e : Expr} {ev : SD → R D} (h : J X Γ W p f e ev) : PE X e (tOf X.K Γ W p f ev) := by
  obtain ⟨t, pe, s⟩ := h.ex
  exact ⟨fun pins st σ H Q I ⟨env, fp, re, q⟩ => pe.run pins st σ H Q I (s σ H env fp re Q q)⟩
def tOfT (K : PySem.W.Frag) (Γ : Gm) (W : Wx) (p : Bool) (ev : SD → R Bool) : TT := fun σ H Q => ∃ env fp, RE K Γ H σ env fp ∧ hold (ev env) (fun b env' => ∀ H' fp', RE K Γ H' σ env' fp' → Fm H fp H' fp' → (p = true → env' = env ∧ fp' = fp ∧ Same H H') → Q b H')
    (fun c env' => ∀ H' fp', RE K Γ H' σ env' fp' → Fm H fp H' fp' → W c σ H')
theorem JT.canon {X : Cx} {Γ : Gm} {W : Wx} {p : Bool} {e : Expr} {ev : SD → R Bool} (h : JT X Γ W p e ev) : PT X e (tOfT X.K Γ W p ev) := by
  obtain ⟨t, pe, s⟩ := h.ex
  exact ⟨fun pins st σ H Q I ⟨env, fp, re, q⟩ => pe.run pins st σ H Q I (s σ H env fp re Q q)⟩
def tOfG (K : PySem.W.Frag) (Γ : Gm) (ws : List Nat) (g : D → SD → Option SD) : TG := fun v σ H Q => ∃ env fp d env', RE K Γ H σ env fp ∧ Rep K Γ H d v [] ∧ g d env = some env' ∧
  (∀ σ' fp', RE K Γ H σ' env' fp' → (∀ j, j ∉ ws → σ'[j]? = σ[j]? ∧ fp' j = fp j) → (∀ j ∈ ws, fp' j = []) → σ'.length = σ.length → Q σ' H)
theorem JG.canon {X : Cx} {Γ : Gm} {ws : List Nat} {e : Expr} {g : D → SD → Option SD} (h : JG X Γ ws e g) : PG X e (tOfG X.K Γ ws g) := by
  obtain ⟨t, pe, s⟩ := h.ex
  exact ⟨fun pins st σ H v u Q I r ⟨env, fp, d, env', re, rd, hg, q⟩ => pe.run pins st σ H v u Q I r (s σ H env fp re d v rd env' hg Q q)⟩
/-- a clause's tests -/
structure JTs (X : Cx) (Γ : Gm) (W : Wx) (p : Bool) (ifs : List Expr) (ev : SD → R Bool) : Prop where
  pts : PTs X ifs (tOfT X.K Γ W p ev)
def cYes : SD → R Bool := fun env => .ok true env
theorem jts_nil {X : Cx} {Γ : Gm} {W : Wx} : JTs X Γ W true [] cYes := ⟨⟨fun pins st σ H Q I ⟨env, fp, re, q⟩ => pts_nil.run pins st σ H Q I (q H fp re Fm.refl fun _ => ⟨rfl, rfl, Same.refl H⟩)⟩⟩
theorem jts_one {X : Cx} {Γ : Gm} {W : Wx} {p : Bool} {c : Expr} {ev : SD → R Bool} (h : JT X Γ W p c ev) : JTs X Γ W p [c] ev := ⟨pts_one h.canon⟩

/-! ### comprehensions -/
def wipeD (e : SD) : List Nat → SD
  | [] => e
  | v :: vs => (wipeD e vs).set v none
def wipeF (fp : Fp) (vs : List Nat) : Fp := fun j => if j ∈ vs then [] else fp j
theorem wipeF_in {fp : Fp} {vs : List Nat} {j : Nat} (h : j ∈ vs) : wipeF fp vs j = [] := if_pos h
theorem wipeF_out {fp : Fp} {vs : List Nat} {j : Nat} (h : j ∉ vs) : wipeF fp vs j = fp j := if_neg h
theorem wipeD_length (e : SD) : ∀ vs : List Nat, (wipeD e vs).length = e.length
  | [] => rfl
  | v :: vs => by show ((wipeD e vs).set v none).length = _; rw [List.length_set]; exact wipeD_length e vs
theorem wipeD_some {e : SD} {i : Nat} {x : D} : ∀ {vs : List Nat}, (wipeD e vs)[i]? = some (some x) → e[i]? = some (some x) ∧ i ∉ vs
  | [], h => ⟨h, fun m => nomatch m⟩
  | v :: vs, h => by
    have h' : ((wipeD e vs).set v none)[i]? = some (some x) := h
    by_cases hi : i = v
    · subst hi
      by_cases hl : i < (wipeD e vs).length
      · rw [List.getElem?_set_self hl] at h'; cases h'
      · rw [List.getElem?_eq_none (by rw [List.length_set]; omega)] at h'; cases h'
    · rw [List.getElem?_set_ne (Ne.symm hi)] at h'
      obtain ⟨h1, h2⟩ := wipeD_some h'
      exact ⟨h1, fun m => (List.mem_cons.mp m).elim hi h2⟩
theorem wipeD_out {e : SD} {i : Nat} : ∀ {vs : List Nat}, i ∉ vs → (wipeD e vs)[i]? = e[i]?
  | [], _ => rfl
  | v :: vs, h => by
    show ((wipeD e vs).set v none)[i]? = _
    rw [List.getElem?_set_ne fun z => h (by rw [z]; exact List.mem_cons_self)]
    exact wipeD_out fun m => h (List.mem_cons_of_mem _ m)
theorem RE.wipe {K : PySem.W.Frag} {Γ : Gm} {H : Hp} {σ : L2.St} {env : SD} {fp : Fp} (r : RE K Γ H σ env fp) {vs : List Nat} (hp : ∀ i ∈ vs, Γ.pins.contains i = false) : RE K Γ H (wipe σ vs) (wipeD env vs) (wipeF fp vs) := by
  refine ⟨fun i d e => ?_, fun i n => ?_, fun i j a m1 m2 => ?_, fun i => ?_, fun i a m => ?_, fun i m => ?_, r.base, ?_⟩
  · obtain ⟨e1, ni⟩ := wipeD_some e
    obtain ⟨v, h1, h2⟩ := r.slot i d e1
    exact ⟨v, by rw [wipe_out ni]; exact h1, by rw [wipeF_out ni]; exact h2⟩
  · by_cases hi : i ∈ vs
    · exact wipeF_in hi
    · rw [wipeF_out hi]
      exact r.void i fun d e => n d (by rw [wipeD_out hi]; exact e)
  · by_cases hi : i ∈ vs
    · rw [wipeF_in hi] at m1; cases m1
    · by_cases hj : j ∈ vs
      · rw [wipeF_in hj] at m2; cases m2
      · rw [wipeF_out hi] at m1
        rw [wipeF_out hj] at m2
        exact r.dis i j a m1 m2
  · by_cases hi : i ∈ vs
    · rw [wipeF_in hi]; exact List.nodup_nil
    · rw [wipeF_out hi]; exact r.nd i
  · by_cases hi : i ∈ vs
    · rw [wipeF_in hi] at m; cases m
    · rw [wipeF_out hi] at m; exact r.ng i a m
  · have : i ∉ vs := fun z => by
      have q := hp i z
      rw [List.contains_iff_mem.mpr m] at q; cases q
    rw [wipe_out this]
    exact r.pin i m
  · rw [wipe_length, wipeD_length]; exact r.len
theorem wipe_in {σ : L2.St} {i : Nat} : ∀ {vs : List Nat}, i ∈ vs → i < σ.length → (L2.wipe σ vs)[i]? = some none
  | v :: vs, m, hl => by
    show ((L2.wipe σ vs).set v none)[i]? = _
    by_cases hi : i = v
    · subst hi
      exact List.getElem?_set_self (by rw [wipe_length]; exact hl)
    · rw [List.getElem?_set_ne (Ne.symm hi)]
      exact wipe_in ((List.mem_cons.mp m).resolve_left hi) hl
theorem wipe_eq {σ σ2 : L2.St} {vs ws : List Nat} (hl : σ2.length = σ.length) (hw : ∀ i ∈ ws, i ∈ vs) (h : ∀ j, j ∉ ws → σ2[j]? = (L2.wipe σ vs)[j]?) : L2.wipe σ2 vs = L2.wipe σ vs := by
  apply List.ext_getElem?
  intro i
  by_cases hi : i ∈ vs
  · by_cases hl' : i < σ.length
    · rw [wipe_in hi hl', wipe_in hi (by rw [hl]; exact hl')]
    · rw [List.getElem?_eq_none (by rw [wipe_length]; omega), List.getElem?_eq_none (by rw [wipe_length]; omega)]
  · rw [wipe_out hi, h i fun m => hi (hw i m)]
def compL (vs : List Nat) (g : D → SD → Option SD) (tt : SD → R Bool) (te : SD → R D) (e : SD) : List D → Option (List D)
  | [] => some []
  | d :: ds => match g d (wipeD e vs) with
    | none => none
    | some e1 => match tt e1 with
      | .ok true _ => (match te e1 with
        | .ok y _ => if isImm y = true then (compL vs g tt te e ds).map (y :: ·) else none
        | _ => none)
      | .ok false _ => compL vs g tt te e ds
      | _ => none
def eComp (vs : List Nat) (it : SD → R (List D)) (g : D → SD → Option SD) (tt : SD → R Bool) (te : SD → R D) : SD → R D := fun env => (it env).bind fun ds e => match compL vs g tt te e ds with
  | some ys => if ys.length ≤ sizeLine then .ok (.lst .own ys) e else .bad
  | none => .bad
section
variable {X : Cx} {Γ : Gm} {W : Wx} {p f fe : Bool} {elt tg iter : Expr} {ifs : List Expr} {scope : Scope} {own : List (Str × Nat)} {pos : Pos} {it : SD → R (List D)} {g : D → SD → Option SD} {ws : List Nat} {tt : SD → R Bool} {te : SD → R D}
theorem same_upd_new {H H1 : Hp} {z : Addr} {o : HO} (h : H z = none) (s : Same H H1) : Same H (upd H1 z o) := fun b x e => by
  rw [upd_ne (ne_of_none e h)]
  exact s b x e
theorem sat_lc {K : PySem.W.Frag} {wi : TI} {vs : List Nat} (si : SatI K Γ W p wi it) (hw : ∀ i ∈ ws, i ∈ vs) (hpn : ∀ i ∈ vs, Γ.pins.contains i = false) :
    Sat K Γ W p true (tLc wi (tOfG K Γ ws g) (tOfT K Γ W0 true tt) (tOf K Γ W0 true fe te) vs) (eComp vs it g tt te) := fun σ H env fp re Q h => by
  refine si σ H env fp re _ (hold_mono (hold_bind h) (fun ds e h0 Jt H1 fp1 re1 fm1 pu1 go => ?_) fun _ _ z => z)
  obtain ⟨G, Y, wk, hG, hY⟩ := go
  intro Dn hD
  cases hc : compL vs g tt te e ds with
  | none => rw [hc] at h0; exact h0.elim
  | some ys =>
    rw [hc] at h0
    have h1 : hold (if ys.length ≤ sizeLine then R.ok (D.lst .own ys) e else R.bad) _ _ := h0
    split at h1
    · rename_i hsz
      have nG : ¬ Γ.G Dn := re1.notG (.inr hD)
      have agD : ∀ (H4 : Hp) (a b : List V), H4 Dn = some (.lst a) → Ag Γ [] H4 (upd H4 Dn (.lst b)) := fun H4 a b e4 y o hy q => by
        by_cases hyD : y = Dn
        · subst hyD
          rw [e4] at hy; cases hy
          rcases q with q | q | q
          · cases q
          · exact (q trivial).elim
          · exact (nG q).elim
        · rw [upd_ne hyD]; exact hy
      refine lc_it wk (fun i H' => ∃ zs acc rest, H' Dn = some (.lst acc) ∧ Reps K Γ H' zs acc [] ∧ Same H1 H' ∧ compL vs g tt te e (ds.drop i) = some rest ∧ zs ++ rest = ys) ⟨[], [], ys, upd_same, rfl, same_new hD, hc, rfl⟩
        (fun i H' _ ⟨_, _, _, _, _, sm, _⟩ => hG _ (Ag.same sm)) (fun i x H' H2 hi ⟨zs, acc, rest, eD, rz, sm, er, es⟩ hy => ?_) (fun H' ⟨zs, acc, rest, eD, rz, sm, er, es⟩ => ?_)
      · obtain ⟨d, hd, rd, sm2⟩ := hY i H' x H2 (Ag.same sm) hi hy
        have hdrop : ds.drop i = d :: ds.drop (i + 1) := by
          obtain ⟨hl, rfl⟩ := List.getElem?_eq_some_iff.mp hd
          exact List.drop_eq_getElem_cons hl
        rw [hdrop] at er
        have sm12 : Same H1 H2 := sm.trans sm2
        cases hg : g d (wipeD e vs) with
        | none => simp only [compL, hg] at er; cases er
        | some e1 =>
          refine ⟨wipeD e vs, wipeF fp1 vs, d, e1, (re1.same sm12).wipe hpn, rd, hg, fun σ2 fp2 re2 k2 z2 l2 => ⟨?_, ?_⟩⟩
          · exact wipe_eq (ws := ws) (by rw [l2, wipe_length]) hw fun j nj => (k2 j nj).1
          · refine ⟨e1, fp2, re2, ?_⟩
            simp only [compL, hg] at er
            cases htt : tt e1 with
            | bad => rw [htt] at er; cases er
            | exc c e' => rw [htt] at er; cases er
            | ok b e2 =>
              rw [htt] at er
              intro H3 fp3 re3 fm3 pu3
              obtain ⟨q1, q2, q3⟩ := pu3 rfl
              subst q1 q2
              cases b with
              | false =>
                simp only at er
                exact ⟨zs, acc, rest, q3 _ _ (sm2 _ _ eD), (rz.same sm2).same q3, sm12.trans q3, er, es⟩
              | true =>
                simp only at er
                refine (if_pos rfl).mpr ⟨e2, fp3, re3, ?_⟩
                cases hte : te e2 with
                | bad => rw [hte] at er; cases er
                | exc c e' => rw [hte] at er; cases er
                | ok y e3 =>
                  rw [hte] at er
                  simp only at er
                  intro v H4 fp4 Fr o
                  split at er
                  · rename_i hi
                    obtain ⟨_, _, r3⟩ := o.pu rfl
                    have sm4 : Same H2 H4 := q3.trans r3
                    have e4 : H4 Dn = some (.lst acc) := sm4 _ _ (sm2 _ _ eD)
                    obtain ⟨rest', hr', hrr⟩ := Option.map_eq_some_iff.mp er
                    have ry := o.rep
                    rw [ry.immF hi] at ry
                    have lz := rz.len
                    refine ⟨acc, e4, ?_, zs ++ [y], acc ++ [v], rest', upd_same, ?_, same_upd_new hD (sm12.trans sm4), hr', ?_⟩
                    · have : (zs ++ rest).length ≤ sizeLine := by rw [es]; exact hsz
                      rw [← hrr, List.length_append, List.length_cons] at this
                      omega
                    · exact (((rz.same sm2).same sm4).ag (agD H4 acc _ e4)).append0 (Reps.one (ry.ag (agD H4 acc _ e4)))
                    · rw [← es, ← hrr]; simp
                  · cases er
      · have : ds.drop ds.length = [] := List.drop_length
        rw [this] at er
        cases er
        rw [List.append_nil] at es
        subst es
        refine h1 (.ref Dn) H' fp1 [Dn] ⟨re1.same sm, ⟨Dn, acc, [], rfl, eD, rz, rfl⟩, by simp, fm1.trans (Fm.same sm), fun z m => ?_, fun hp => ?_, fun _ z m i => ?_⟩
        · rw [List.mem_singleton.mp m]; exact fm1.back (.inr hD)
        · obtain ⟨a1, a2, a3⟩ := pu1 hp
          exact ⟨a1, a2, a3.trans sm⟩
        · rw [List.mem_singleton.mp m]; exact re1.fresh hD i
    · exact h1.elim
end
end Vs

namespace Vs
open PySem PySem.Spec PyProof.Rows L2

section
variable {X : Cx} {Γ : Gm} {W : Wx} {p f fe : Bool} {elt tg iter : Expr} {ifs : List Expr} {scope : Scope} {own : List (Str × Nat)} {pos : Pos} {it : SD → R (List D)} {g : D → SD → Option SD} {ws : List Nat} {tt : SD → R Bool} {te : SD → R D}
theorem j_lc (own : List (Str × Nat)) (hc : X.calm = true) (hN : X.N.Nodup) (hi : JI X Γ W p tg iter it) (ok : BlkOk X.N X.env.scope scope own)
    (hg : ∀ (s : Shared) (H : Hp) (C : Addr) (cl : List (Str × Addr)) (fp : List Addr), JG (X.blk s H scope (compEnvC scope cl C X.env) fp) Γ ws tg g) (ht : ∀ (s : Shared) (H : Hp) (C : Addr) (cl : List (Str × Addr)) (fp : List Addr), JTs (X.blk s H scope (compEnvC scope cl C X.env) fp) Γ W0 true ifs tt)
    (he : ∀ (s : Shared) (H : Hp) (C : Addr) (cl : List (Str × Addr)) (fp : List Addr), J (X.blk s H scope (compEnvC scope cl C X.env) fp) Γ W0 true fe elt te) (hw : ∀ i ∈ ws, i ∈ own.map (·.2)) (hpn : ∀ i ∈ own.map (·.2), Γ.pins.contains i = false)
    (hs : ∀ x, foldedSetIterable iter X.env x = pure x := by intro _; rfl) : J X Γ W p true (.ListComp elt [⟨tg, iter, ifs, 0⟩] scope pos) (eComp (own.map (·.2)) it g tt te) := by
  obtain ⟨wi, pi, si⟩ := hi.ex
  exact ⟨_, pe_lc hc hN pi ok (fun s H C cl fp => (hg s H C cl fp).canon) (fun s H C cl fp => (ht s H C cl fp).pts) (fun s H C cl fp => (he s H C cl fp).canon) hs, sat_lc si hw hpn⟩
theorem sat_setV {K : PySem.W.Frag} {t : TE} {ev : SD → R D} {i : Nat} (s : Sat K Γ W p true t ev) (hp : Γ.pins.contains i = false) : SatS K Γ W (tAsg t (gName i)) (sSet i ev) := fun σ H env fp re Z h => by
  refine s σ H env fp re _ (hold_mono (hold_bind h) (fun d e k v H' fp' Fr o => ?_) fun c e z H' fp' r' f' => z σ H' fp' r' f')
  obtain ⟨q, r', f'⟩ := put_ok k o.re o.fm o.rep o.nd (o.fr rfl) o.nw (fun z m => re.notG (o.nw z m)) hp
  exact q _ _ _ r' f'
theorem js_setLc {i : Nat} {y : Str} {py spos : Pos} (own : List (Str × Nat)) (hc : X.calm = true) (hN : X.N.Nodup) (hi : JI X Γ W p tg iter it) (ok : BlkOk X.N X.env.scope scope own)
    (hg : ∀ (s : Shared) (H : Hp) (C : Addr) (cl : List (Str × Addr)) (fp : List Addr), JG (X.blk s H scope (compEnvC scope cl C X.env) fp) Γ ws tg g) (ht : ∀ (s : Shared) (H : Hp) (C : Addr) (cl : List (Str × Addr)) (fp : List Addr), JTs (X.blk s H scope (compEnvC scope cl C X.env) fp) Γ W0 true ifs tt)
    (he : ∀ (s : Shared) (H : Hp) (C : Addr) (cl : List (Str × Addr)) (fp : List Addr), J (X.blk s H scope (compEnvC scope cl C X.env) fp) Γ W0 true fe elt te) (hw : ∀ i ∈ ws, i ∈ own.map (·.2)) (hpn : ∀ i ∈ own.map (·.2), Γ.pins.contains i = false)
    (hsw : swapsWith (.ListComp elt [⟨tg, iter, ifs, 0⟩] scope pos) (some (.Name y py)) spos.line X.env = pure true) (hy : X.N[i]? = some y := by rfl) (hyl : X.env.scope.names.lookup y = some .local := by rfl) (hp : Γ.pins.contains i = false := by rfl)
    (hs : ∀ x, foldedSetIterable iter X.env x = pure x := by intro _; rfl) : JS X Γ W (.Assign [.Name y py] (.ListComp elt [⟨tg, iter, ifs, 0⟩] scope pos) spos) (sSet i (eComp (own.map (·.2)) it g tt te)) := by
  obtain ⟨wi, pi, si⟩ := hi.ex
  exact ⟨_, ps_setLc hc hN hy hyl hsw pi ok (fun s H C cl fp => (hg s H C cl fp).canon) (fun s H C cl fp => (ht s H C cl fp).pts) (fun s H C cl fp => (he s H C cl fp).canon) hs, sat_setV (sat_lc si hw hpn) hp⟩

/-! ### a comprehension whose parts write -/
def compE (vs : List Nat) (g : D → SD → Option SD) (tt : SD → R Bool) (te : SD → R D) : List D → List D → SD → R (List D)
  | [], acc, env => .ok acc env
  | d :: ds, acc, env => (R.opt (g d (wipeD env vs)) env).bind fun e1 _ => (tt e1).bind fun b e2 => if b = true then (te e2).bind fun y e3 => if isImm y = true ∧ acc.length < sizeLine then compE vs g tt te ds (acc ++ [y]) e3 else .bad
    else compE vs g tt te ds acc e2
def unwipe (e0 e : SD) : List Nat → SD
  | [] => e
  | v :: vs => (unwipe e0 e vs).set v ((e0[v]?).join)
def noX {α : Type} (r : R α) : R α := match r with
  | .exc _ _ => .bad
  | r => r
def eCompE (vs : List Nat) (it : SD → R (List D)) (g : D → SD → Option SD) (tt : SD → R Bool) (te : SD → R D) : SD → R D := fun env => (it env).bind fun ds e => (noX (compE vs g tt te ds [] e)).bind fun ys e' => .ok (.lst .own ys) (unwipe e e' vs)
theorem unwipe_length (e0 e : SD) : ∀ vs : List Nat, (unwipe e0 e vs).length = e.length
  | [] => rfl
  | v :: vs => by show ((unwipe e0 e vs).set v _).length = _; rw [List.length_set]; exact unwipe_length e0 e vs
theorem unwipe_out {e0 e : SD} {i : Nat} : ∀ {vs : List Nat}, i ∉ vs → (unwipe e0 e vs)[i]? = e[i]?
  | [], _ => rfl
  | v :: vs, h => by
    show ((unwipe e0 e vs).set v _)[i]? = _
    rw [List.getElem?_set_ne fun z => h (by rw [z]; exact List.mem_cons_self)]
    exact unwipe_out fun m => h (List.mem_cons_of_mem _ m)
theorem unwipe_in {e0 e : SD} {i : Nat} : ∀ {vs : List Nat}, i ∈ vs → i < e.length → (unwipe e0 e vs)[i]? = some ((e0[i]?).join)
  | v :: vs, m, hl => by
    show ((unwipe e0 e vs).set v _)[i]? = _
    by_cases hi : i = v
    · subst hi
      exact List.getElem?_set_self (by rw [unwipe_length]; exact hl)
    · rw [List.getElem?_set_ne (Ne.symm hi)]
      exact unwipe_in ((List.mem_cons.mp m).resolve_left hi) hl
theorem hold_noX {α : Type} {r : R α} {Q : α → SD → Prop} {E : String → SD → Prop} (h : hold (noX r) Q E) : hold r Q (fun _ _ => False) := by
  cases r with
  | ok a e => exact h
  | exc c e => exact h
  | bad => exact h
theorem sat_lcE {K : PySem.W.Frag} {wi : TI} {vs : List Nat} {pt pe : Bool} (si : SatI K Γ W p wi it) (hw : ∀ i ∈ ws, i ∈ vs) (hpn : ∀ i ∈ vs, Γ.pins.contains i = false) :
    Sat K Γ W false true (tLc wi (tOfG K Γ ws g) (tOfT K Γ W0 pt tt) (tOf K Γ W0 pe fe te) vs) (eCompE vs it g tt te) := fun σ H env fp re Q h => by
  refine si σ H env fp re _ (hold_mono (hold_bind h) (fun ds e h0 Jt H1 fp1 re1 fm1 pu1 go => ?_) fun _ _ z => z)
  obtain ⟨G, Y, wk, hG, hY⟩ := go
  intro Dn hD
  have h1 := hold_noX (hold_mono (hold_bind h0) (fun _ _ z => z) fun _ _ z => z)
  have nG : ¬ Γ.G Dn := re1.notG (.inr hD)
  have rew := re1.wipe hpn
  have agD : ∀ (H4 : Hp) (a b : List V), H4 Dn = some (.lst a) → Ag Γ [] H4 (upd H4 Dn (.lst b)) := fun H4 a b e4 y o hy q => by
    by_cases hyD : y = Dn
    · subst hyD
      rw [e4] at hy; cases hy
      rcases q with q | q | q
      · cases q
      · exact (q trivial).elim
      · exact (nG q).elim
    · rw [upd_ne hyD]; exact hy
  have reD : ∀ (H4 : Hp) (σ4 : L2.St) (e4 : SD) (fp4 : Fp) (b : List V), RE K Γ H4 σ4 e4 fp4 → (∀ j, Dn ∉ fp4 j) → (H4 Dn = none ∨ ∃ a, H4 Dn = some (.lst a)) → RE K Γ (upd H4 Dn (.lst b)) σ4 e4 fp4 := fun H4 σ4 e4 fp4 b r4 n4 q4 => r4.ag fun y o hy q => by
    by_cases hyD : y = Dn
    · subst hyD
      rcases q4 with q4 | ⟨a, q4⟩
      · rw [q4] at hy; cases hy
      · rw [q4] at hy; cases hy
        rcases q with ⟨j, q⟩ | q | q
        · exact (n4 j q).elim
        · exact (q trivial).elim
        · exact (nG q).elim
    · rw [upd_ne hyD]; exact hy
  have fmD : ∀ (H4 : Hp) (fp4 : Fp) (b : List V), Fm H1 (wipeF fp1 vs) H4 fp4 → Fm H1 (wipeF fp1 vs) (upd H4 Dn (.lst b)) fp4 := fun H4 fp4 b f4 => ⟨fun a o ha n => by
    rw [upd_ne (ne_of_none ha hD)]; exact f4.keep a o ha n, f4.new⟩
  have nw1 : ∀ j, Dn ∉ wipeF fp1 vs j := fun j => rew.fresh hD j
  refine lc_it wk (fun i H' => ∃ ei fpi zs acc, RE K Γ H' (wipe σ vs) (wipeD ei vs) fpi ∧ Fm H1 (wipeF fp1 vs) H' fpi ∧ (∀ j, Dn ∉ fpi j) ∧ H' Dn = some (.lst acc) ∧ Reps K Γ H' zs acc [] ∧
      hold (compE vs g tt te (ds.drop i) zs ei) (fun ys e' => hold (R.ok (D.lst .own ys) (unwipe e e' vs)) (fun d env' => ∀ v H' fp' Fr, Out K Γ false true σ H env fp d env' v H' fp' Fr → Q v H') (fun _ _ => False)) (fun _ _ => False))
    ⟨e, wipeF fp1 vs, [], [], reD H1 _ _ _ [] rew nw1 (.inl hD), fmD H1 _ [] Fm.refl, nw1, upd_same, rfl, h1⟩ (fun i H' _ ⟨_, _, _, _, _, f', _⟩ => hG _ (Ag.of_fm rew f')) (fun i x H' H2 hi ⟨ei, fpi, zs, acc, ri, f', nD, eD, rz, hh⟩ hy => ?_) (fun H' ⟨ei, fpi, zs, acc, ri, f', nD, eD, rz, hh⟩ => ?_)
  · obtain ⟨d, hd, rd, sm2⟩ := hY i H' x H2 (Ag.of_fm rew f') hi hy
    have hdrop : ds.drop i = d :: ds.drop (i + 1) := by
      obtain ⟨hl, rfl⟩ := List.getElem?_eq_some_iff.mp hd
      exact List.drop_eq_getElem_cons hl
    rw [hdrop] at hh
    obtain ⟨e1, hg, k1⟩ := hold_opt (hold_bind (show hold ((R.opt (g d (wipeD ei vs)) ei).bind fun e1 _ => (tt e1).bind fun b e2 => if b = true then (te e2).bind fun y e3 => if isImm y = true ∧ zs.length < sizeLine then compE vs g tt te (ds.drop (i + 1)) (zs ++ [y]) e3 else .bad
      else compE vs g tt te (ds.drop (i + 1)) zs e2) _ _ from hh))
    have fm2 : Fm H1 (wipeF fp1 vs) H2 fpi := f'.trans (Fm.same sm2)
    have eD2 := sm2 _ _ eD
    refine ⟨wipeD ei vs, fpi, d, e1, ri.same sm2, rd, hg, fun σ2 fp2 re2 k2 z2 l2 => ⟨?_, ?_⟩⟩
    · exact wipe_eq (ws := ws) (by rw [l2, wipe_length]) hw fun j nj => (k2 j nj).1
    · have ew : wipe σ2 vs = wipe σ vs := wipe_eq (ws := ws) (by rw [l2, wipe_length]) hw fun j nj => (k2 j nj).1
      have fmt : Fm H1 (wipeF fp1 vs) H2 fp2 := fm2.trans (Fm.tg k2 z2)
      have nD2 : ∀ j, Dn ∉ fp2 j := fun j m => by
        rcases (Fm.tg (H := H2) k2 z2).new j Dn m with ⟨q, hq⟩ | hq
        · exact nD q hq
        · rw [eD2] at hq; cases hq
      refine ⟨e1, fp2, re2, hold_mono (hold_bind k1) (fun b e2 k3 H3 fp3 re3 fm3 pu3 => ?_) fun _ _ z => z.elim⟩
      have eD3 : H3 Dn = some (.lst acc) := fm3.keep _ _ eD2 nD2
      have nD3 : ∀ j, Dn ∉ fp3 j := fun j m => by
        rcases fm3.new j Dn m with ⟨q, hq⟩ | hq
        · exact nD2 q hq
        · rw [eD2] at hq; cases hq
      have fmt3 := fmt.trans fm3
      have rz3 : Reps K Γ H3 zs acc [] := (rz.same sm2).held re2 fm3 fun _ m => nomatch m
      have wipeFm : ∀ (H4 : Hp) (fp4 : Fp), Fm H1 (wipeF fp1 vs) H4 fp4 → Fm H1 (wipeF fp1 vs) H4 (wipeF fp4 vs) := fun H4 fp4 f4 => ⟨f4.keep, fun j a m => by
        by_cases hj : j ∈ vs
        · rw [wipeF_in hj] at m; cases m
        · rw [wipeF_out hj] at m; exact f4.new j a m⟩
      have wipeN : ∀ (fp4 : Fp), (∀ j, Dn ∉ fp4 j) → ∀ j, Dn ∉ wipeF fp4 vs j := fun fp4 n j m => by
        by_cases hj : j ∈ vs
        · rw [wipeF_in hj] at m; cases m
        · rw [wipeF_out hj] at m; exact n j m
      cases b with
      | false =>
        have rew3 := re3.wipe hpn
        rw [ew] at rew3
        exact ⟨e2, wipeF fp3 vs, zs, acc, rew3, wipeFm _ _ fmt3, wipeN _ nD3, eD3, rz3, k3⟩
      | true =>
        refine (if_pos rfl).mpr ⟨e2, fp3, re3, hold_mono (hold_bind (show hold ((te e2).bind _) _ _ from k3)) (fun y e3 k4 v H4 fp4 Fr o => ?_) fun _ _ z => z.elim⟩
        have k5 : hold (if isImm y = true ∧ zs.length < sizeLine then compE vs g tt te (ds.drop (i + 1)) (zs ++ [y]) e3 else .bad) _ _ := k4
        split at k5
        · rename_i hh2
          have eD4 : H4 Dn = some (.lst acc) := o.fm.keep _ _ eD3 nD3
          have nD4 : ∀ j, Dn ∉ fp4 j := fun j m => by
            rcases o.fm.new j Dn m with ⟨q, hq⟩ | hq
            · exact nD3 q hq
            · rw [eD3] at hq; cases hq
          have rew4 := o.re.wipe hpn
          rw [ew] at rew4
          have ry := o.rep
          rw [ry.immF hh2.1] at ry
          have rz4 : Reps K Γ H4 zs acc [] := rz3.held re3 o.fm fun _ m => nomatch m
          refine ⟨acc, eD4, by rw [← rz.len]; exact hh2.2, e3, wipeF fp4 vs, zs ++ [y], acc ++ [v], reD H4 _ _ _ _ rew4 (wipeN _ nD4) (.inr ⟨_, eD4⟩), fmD _ _ _ (wipeFm _ _ (fmt3.trans o.fm)), wipeN _ nD4, upd_same, ?_, k5⟩
          exact (rz4.ag (agD H4 acc _ eD4)).append0 (Reps.one (ry.ag (agD H4 acc _ eD4)))
        · exact k5.elim
  · have : ds.drop ds.length = [] := List.drop_length
    rw [this] at hh
    have keepV : ∀ a o, H1 a = some o → (∀ j, j ∉ vs → a ∉ fp1 j) → H' a = some o := fun a o ha n => f'.keep a o ha fun j m => by
      by_cases hj : j ∈ vs
      · rw [wipeF_in hj] at m; cases m
      · rw [wipeF_out hj] at m; exact n j hj m
    have newV : ∀ j a, j ∉ vs → a ∈ fpi j → (∃ k, k ∉ vs ∧ a ∈ fp1 k) ∨ H1 a = none := fun j a hj m => by
      rcases f'.new j a m with ⟨k, q⟩ | q
      · by_cases hk : k ∈ vs
        · rw [wipeF_in hk] at q; cases q
        · rw [wipeF_out hk] at q; exact .inl ⟨k, hk, q⟩
      · exact .inr q
    have hlen : ei.length = e.length := by
      have l1 := ri.len
      have l2 := re1.len
      rw [wipe_length, wipeD_length] at l1
      omega
    let fpo : Fp := fun j => if j ∈ vs then fp1 j else fpi j
    have fo_in : ∀ j, j ∈ vs → fpo j = fp1 j := fun j h => if_pos h
    have fo_out : ∀ j, j ∉ vs → fpo j = fpi j := fun j h => if_neg h
    have mixed : ∀ j k a, j ∈ vs → k ∉ vs → a ∈ fp1 j → a ∈ fpi k → False := fun j k a hj hk m1 m2 => by
      rcases newV k a hk m2 with ⟨l, hl, q⟩ | q
      · exact hl (re1.dis l j a q m1 ▸ hj)
      · exact re1.fresh q j m1
    have reo : RE K Γ H' σ (unwipe e ei vs) fpo := by
      refine ⟨fun j d q => ?_, fun j n => ?_, fun j k a m1 m2 => ?_, fun j => ?_, fun j a m => ?_, re1.pin, ?_, ?_⟩
      · by_cases hj : j ∈ vs
        · have hjl : j < ei.length := by
            have := (List.getElem?_eq_some_iff.mp q).1
            rw [unwipe_length] at this; exact this
          rw [unwipe_in hj hjl] at q
          obtain ⟨v, q1, q2⟩ := re1.slot j d (join_some (Option.some.inj q))
          refine ⟨v, q1, ?_⟩
          rw [fo_in j hj]
          refine q2.ag fun a o ha z => keepV a o ha fun k hk m => ?_
          rcases z with z | z | z
          · exact hk (re1.dis k j a m z ▸ hj)
          · have := re1.mut m
            rw [ha] at this; exact z this
          · exact re1.ng k a m z
        · rw [unwipe_out hj] at q
          obtain ⟨v, q1, q2⟩ := ri.slot j d (by rw [wipeD_out hj]; exact q)
          rw [wipe_out hj] at q1
          exact ⟨v, q1, by rw [fo_out j hj]; exact q2⟩
      · by_cases hj : j ∈ vs
        · rw [fo_in j hj]
          refine re1.void j fun d q => ?_
          have hjl : j < ei.length := by rw [hlen]; exact (List.getElem?_eq_some_iff.mp q).1
          exact n d (by rw [unwipe_in hj hjl, q]; rfl)
        · rw [fo_out j hj]
          exact ri.void j fun d q => n d (by rw [unwipe_out hj]; rw [wipeD_out hj] at q; exact q)
      · by_cases hj : j ∈ vs <;> by_cases hk : k ∈ vs
        · rw [fo_in j hj] at m1; rw [fo_in k hk] at m2; exact re1.dis j k a m1 m2
        · rw [fo_in j hj] at m1; rw [fo_out k hk] at m2; exact (mixed j k a hj hk m1 m2).elim
        · rw [fo_out j hj] at m1; rw [fo_in k hk] at m2; exact (mixed k j a hk hj m2 m1).elim
        · rw [fo_out j hj] at m1; rw [fo_out k hk] at m2; exact ri.dis j k a m1 m2
      · by_cases hj : j ∈ vs
        · rw [fo_in j hj]; exact re1.nd j
        · rw [fo_out j hj]; exact ri.nd j
      · by_cases hj : j ∈ vs
        · rw [fo_in j hj] at m; exact re1.ng j a m
        · rw [fo_out j hj] at m; exact ri.ng j a m
      · exact ri.base
      · rw [unwipe_length, hlen]; exact re1.len
    have fmo : Fm H1 fp1 H' fpo := ⟨fun a o ha n => keepV a o ha fun j _ => n j, fun j a m => by
      by_cases hj : j ∈ vs
      · rw [fo_in j hj] at m; exact .inl ⟨j, m⟩
      · rw [fo_out j hj] at m
        exact (newV j a hj m).imp (fun ⟨k, _, q⟩ => ⟨k, q⟩) id⟩
    have nDo : ∀ j, Dn ∉ fpo j := fun j m => by
      by_cases hj : j ∈ vs
      · rw [fo_in j hj] at m; exact re1.fresh hD j m
      · rw [fo_out j hj] at m; exact nD j m
    refine (show ∀ v H' fp' Fr, Out K Γ false true σ H env fp (D.lst .own zs) (unwipe e ei vs) v H' fp' Fr → Q v H' from hh) (.ref Dn) H' fpo [Dn] ⟨reo, ⟨Dn, acc, [], rfl, eD, rz, rfl⟩, by simp, fm1.trans fmo, fun z m => ?_, (fun z => nomatch z), fun _ z m i => ?_⟩
    · rw [List.mem_singleton.mp m]; exact fm1.back (.inr hD)
    · rw [List.mem_singleton.mp m]; exact nDo i
theorem j_lcE {pt pe : Bool} (own : List (Str × Nat)) (hc : X.calm = true) (hN : X.N.Nodup) (hi : JI X Γ W p tg iter it) (ok : BlkOk X.N X.env.scope scope own)
    (hg : ∀ (s : Shared) (H : Hp) (C : Addr) (cl : List (Str × Addr)) (fp : List Addr), JG (X.blk s H scope (compEnvC scope cl C X.env) fp) Γ ws tg g) (ht : ∀ (s : Shared) (H : Hp) (C : Addr) (cl : List (Str × Addr)) (fp : List Addr), JTs (X.blk s H scope (compEnvC scope cl C X.env) fp) Γ W0 pt ifs tt)
    (he : ∀ (s : Shared) (H : Hp) (C : Addr) (cl : List (Str × Addr)) (fp : List Addr), J (X.blk s H scope (compEnvC scope cl C X.env) fp) Γ W0 pe fe elt te) (hw : ∀ i ∈ ws, i ∈ own.map (·.2)) (hpn : ∀ i ∈ own.map (·.2), Γ.pins.contains i = false)
    (hs : ∀ x, foldedSetIterable iter X.env x = pure x := by intro _; rfl) : J X Γ W false true (.ListComp elt [⟨tg, iter, ifs, 0⟩] scope pos) (eCompE (own.map (·.2)) it g tt te) := by
  obtain ⟨wi, pi, si⟩ := hi.ex
  exact ⟨_, pe_lc hc hN pi ok (fun s H C cl fp => (hg s H C cl fp).canon) (fun s H C cl fp => (ht s H C cl fp).pts) (fun s H C cl fp => (he s H C cl fp).canon) hs, sat_lcE si hw hpn⟩
theorem js_setLcE {pt pe : Bool} {i : Nat} {y : Str} {py spos : Pos} (own : List (Str × Nat)) (hc : X.calm = true) (hN : X.N.Nodup) (hi : JI X Γ W p tg iter it) (ok : BlkOk X.N X.env.scope scope own)
    (hg : ∀ (s : Shared) (H : Hp) (C : Addr) (cl : List (Str × Addr)) (fp : List Addr), JG (X.blk s H scope (compEnvC scope cl C X.env) fp) Γ ws tg g) (ht : ∀ (s : Shared) (H : Hp) (C : Addr) (cl : List (Str × Addr)) (fp : List Addr), JTs (X.blk s H scope (compEnvC scope cl C X.env) fp) Γ W0 pt ifs tt)
    (he : ∀ (s : Shared) (H : Hp) (C : Addr) (cl : List (Str × Addr)) (fp : List Addr), J (X.blk s H scope (compEnvC scope cl C X.env) fp) Γ W0 pe fe elt te) (hw : ∀ i ∈ ws, i ∈ own.map (·.2)) (hpn : ∀ i ∈ own.map (·.2), Γ.pins.contains i = false)
    (hsw : swapsWith (.ListComp elt [⟨tg, iter, ifs, 0⟩] scope pos) (some (.Name y py)) spos.line X.env = pure true) (hy : X.N[i]? = some y := by rfl) (hyl : X.env.scope.names.lookup y = some .local := by rfl) (hp : Γ.pins.contains i = false := by rfl)
    (hs : ∀ x, foldedSetIterable iter X.env x = pure x := by intro _; rfl) : JS X Γ W (.Assign [.Name y py] (.ListComp elt [⟨tg, iter, ifs, 0⟩] scope pos) spos) (sSet i (eCompE (own.map (·.2)) it g tt te)) := by
  obtain ⟨wi, pi, si⟩ := hi.ex
  exact ⟨_, ps_setLc hc hN hy hyl hsw pi ok (fun s H C cl fp => (hg s H C cl fp).canon) (fun s H C cl fp => (ht s H C cl fp).pts) (fun s H C cl fp => (he s H C cl fp).canon) hs, sat_setV (sat_lcE si hw hpn) hp⟩
end
end Vs

namespace PySem
open Sem (wp)
open AutoSeq1 (wpAny_loadPart')
set_option maxHeartbeats 1000000 in
theorem vs_enumerate_newT (l : Addr) (items : Array Value) (n : Nat) (dct : Option Addr) (sl : Array (Option Value)) :
    Meets (Builtin.«enumerate.__new__» ⟨[.type "enumerate", .ref l], []⟩) (fun _ R s => s.heap.get? l = some { cls := .type "tuple", dict := dct, data := .seq items n, slots := sl } ∧
      R (.ok (.ret (.ref (s.heap.push { cls := .type "tuple_iterator", data := .fields #[.ref l, .int 0 0] }).objs.size)))
        { s with heap := (s.heap.push { cls := .type "tuple_iterator", data := .fields #[.ref l, .int 0 0] }).push { cls := .type "enumerate", data := .fields #[.none, .bool false, .ref s.heap.objs.size, rawInt 0, .none, .none] } }) :=
  .of_wp fun prog w A R s h => by
    obtain ⟨hp, g, d, tk, os⟩ := s; obtain ⟨hl, h⟩ := h
    have hsub := sub_enumerate
    have hL : Heap.IsTuple (Shared.heap ⟨hp, g, d, tk, os⟩) l items := ⟨_, hl, rfl, n, rfl⟩
    wp_walk using wpAny_loadPart' hl
    refine wpAny_stack_any fun st => wpAny_pure ?_
    split
    · rename_i c _ _ _ _ _
      cases (c == Value.type "enumerate")
      · wp_walk using wpAny_loadPart' hl, wpAny_pyIter_tuple hL
        exact ⟨_, rfl, h⟩
      · wp_walk using wpAny_loadPart' hl, wpAny_pyIter_tuple hL
        exact ⟨_, rfl, h⟩
    · wp_walk using wpAny_loadPart' hl, wpAny_pyIter_tuple hL
      exact ⟨_, rfl, h⟩
theorem vs_call_enumerate_tuple {prog : Program} {w : World} {A : Around} {E : Value → Shared → Prop} {s : Shared} {l : Addr} {items : Array Value} {Q : Value → Shared → Prop} (hL : s.heap.IsTuple l items)
    (h : ∀ h', IsEnum h' (s.heap.objs.size + 1) s.heap.objs.size 0 .none → h'.IsTupleIter s.heap.objs.size l 0 → h'.objs.size = s.heap.objs.size + 2 →
      (∀ b o, s.heap.get? b = some o → h'.get? b = some o) → Q (.ref (s.heap.objs.size + 1)) { s with heap := h' }) :
    wpAny (model prog w) A (call (.type "enumerate") [.ref l]) Q E s := by
  obtain ⟨⟨c, dct, dt, sl⟩, hl, hc, n, hd⟩ := hL
  replace hc : c = .type "tuple" := hc
  replace hd : dt = .seq items n := hd
  subst hc hd
  refine callType_new F.called_enumerate (by decide) (F.typeCall_enumerate_1 _) (F.newCall_enumerate_1 _) (fun obj => F.args_object_init_2 obj _) F.entry_enumerate_new
    (vs_enumerate_newT l items n dct sl) ⟨hl, ?_⟩
  have hz : (s.heap.push { cls := .type "tuple_iterator", data := .fields #[.ref l, .int 0 0] }).objs.size = s.heap.objs.size + 1 := Heap.size_push ..
  show _ ∧ _
  rw [hz]
  have he : IsEnum ((s.heap.push { cls := .type "tuple_iterator", data := .fields #[.ref l, .int 0 0] }).push
      { cls := .type "enumerate", data := .fields #[.none, .bool false, .ref s.heap.objs.size, rawInt 0, .none, .none] }) (s.heap.objs.size + 1) s.heap.objs.size 0 .none := by
    have := Heap.get?_push_size (s.heap.push { cls := .type "tuple_iterator", data := .fields #[.ref l, .int 0 0] })
      (o := { cls := .type "enumerate", data := .fields #[.none, .bool false, .ref s.heap.objs.size, rawInt 0, .none, .none] }) rfl
    rw [hz] at this; exact this
  refine ⟨⟨_, he, rfl⟩, h _ he ⟨_, Heap.get?_push_of_some _ (Heap.get?_push_size _ rfl), rfl, rfl⟩ (by rw [Heap.size_push, hz]) fun b o x => Heap.get?_push_of_some _ (Heap.get?_push_of_some _ x)⟩
end PySem
namespace Vs
open PySem PySem.Spec PyProof.Rows L2
/-- enumerate(tuple) -/
def IteT (K : PySem.W.Frag) (a : Addr) : It :=
  ⟨fun i H => ∃ (xs : List V) (x : V), SqT K H a xs ∧ xs[i]? = some x, fun i H v H' => ∃ T x, v = .ref T ∧ H T = none ∧ H' = upd H T (.tup [.int (i : Nat), x]) ∧ ∀ xs, SqT K H a xs → xs[i]? = some x, fun i H => ∃ xs : List V, SqT K H a xs ∧ xs.length = i⟩
theorem vs_tup {h : Heap} {a : Addr} {its : Array Value} (p : IsTup h a its) : h.IsTuple a its := by
  obtain ⟨o, h1, h2, n, h3⟩ := p
  exact ⟨o, h1, h2, n, h3⟩
theorem turn_enumT {P : Program} {w : World} {K : PySem.W.Frag} {elts : List Expr} {kk : Nat} {tpos : Pos} (a e it : Addr) :
    Turn P w K (.Tuple elts kk tpos) (IteT K a) [e, it] e (fun i h => (∃ old, IsEnum h e it ((i : Nat) : Int) old) ∧ h.IsTupleIter it a i ∧ e ≠ it) where
  mem := by simp
  obj := fun i h st b hb => by
    obtain ⟨⟨old, he⟩, ⟨o, ho, hc, hd⟩, _⟩ := st
    have e' : b = e ∨ b = it := by simpa using hb
    rcases e' with z | z
    · rw [z]; exact ⟨_, he, fun v q => nomatch q⟩
    · rw [z]; exact ⟨o, ho, fun v q => by rw [hd] at q; cases q⟩
  keep := fun i h h' st k => let ⟨⟨old, he⟩, hi, hne⟩ := st; ⟨⟨old, k e (by simp) _ he⟩, hi.at fun o q => k it (by simp) o q, hne⟩
  item := by
    intro X hP hw hK hc i pins s σ H E I hf st hg
    subst hP hw hK
    obtain ⟨⟨old, he⟩, hit, hne⟩ := st
    obtain ⟨xs, x, hq, hx⟩ := hg
    obtain ⟨its, rv, p, hz⟩ := I.tuple hq
    obtain ⟨u, hu, ru⟩ := rv.get hx
    have hel : e < s.heap.objs.size := Heap.lt_size he
    have hil : it < s.heap.objs.size := by obtain ⟨_, q, _⟩ := hit; exact Heap.lt_size q
    have hta : a ≠ it := fun z => by
      obtain ⟨o1, q1, q2, _⟩ := vs_tup p
      obtain ⟨o2, r1, r2, _⟩ := hit
      rw [z, r1] at q1; cases q1; rw [r2] at q2; exact absurd q2 (by simp)
    have hea : e ≠ a := fun z => by
      obtain ⟨o1, q1, q2, _⟩ := vs_tup p
      have r1 := he
      unfold IsEnum at r1
      rw [z, q1] at r1; cases r1; exact absurd q2 (by simp)
    have hlt : i < its.toArray.size := by
      have := (List.getElem?_eq_some_iff.mp hu).1
      simpa using this
    refine wpAny_pyNext_enum_itemD (Draws.tuple (A := X.A.in1) (I.ok.hd hc) it a hta its.toArray) he ⟨hit, vs_tup p⟩ hlt hne (by simp [hne, hea]) fun x' h' tk hP ho hit' hT hsz hk => ?_
    have ex : x' = u := by
      have h1 : its.toArray[i]? = some x' := hP
      have h2 : its.toArray[i]? = some u := by simpa using hu
      rw [h2] at h1; cases h1; rfl
    subst ex
    refine ⟨_, rfl, wpAny_letOwnedTupleGo_enum (s := { s with heap := h', toks := tk + 1 }) ho fun h'' he' sb => ?_⟩
    have hT2 : h''.get? s.heap.objs.size = some { cls := .type "tuple", data := .seq #[.int i tk, x'] } := (sb.2 _ (Nat.ne_of_gt hel)).trans hT
    have new : ObjOk X.prog X.w (upd H s.heap.objs.size (.tup [.int (i : Nat), x])) h'' s.heap.objs.size (.tup [.int (i : Nat), x]) :=
      ⟨by show 2 ≤ sizeLine; decide, [.int i tk, x'], .cons ⟨_, rfl⟩ (.cons ru .nil), ⟨_, hT2, rfl, _, rfl⟩⟩
    have I1 : Inv X pins σ (upd H s.heap.objs.size (.tup [.int (i : Nat), x])) { s with heap := h'', toks := tk + 1 } :=
      I.turnedNew (ch := [e, it]) (fun b ob hb q => (sb.2 b (fun z => hb (by simp [z]))).trans (hk b ob (fun z => hb (by simp [z])) (fun z => hb (by simp [z])) q)) hf (Nat.le_refl _) new
    refine ⟨.ref s.heap.objs.size, _, I1, rfl, ⟨_, x, rfl, I.hok.fresh (Nat.le_refl _), rfl, fun ys hy => by rw [I.tuple_inj hy hq]; exact hx⟩, ⟨⟨x', ?_⟩, hit'.1.at fun o q => (sb.2 it (Ne.symm hne)).trans q, hne⟩, fun b hb => ?_⟩
    · have e1 : ((i + 1 : Nat) : Int) = (i : Int) + 1 := by omega
      rw [e1]; exact he'
    · have hb' : b < s.heap.objs.size := by
        have e' : b = e ∨ b = it := by simpa using hb
        rcases e' with z | z
        · rw [z]; exact hel
        · rw [z]; exact hil
      rw [upd_ne (Nat.ne_of_lt hb')]
      exact (hf b hb).1
  done := by
    intro X hP hw hK hc i pins s σ H E I hf st hg
    subst hP hw hK
    obtain ⟨⟨old, he⟩, hit, hne⟩ := st
    obtain ⟨xs, hq, hx⟩ := hg
    obtain ⟨its, rv, p, hz⟩ := I.tuple hq
    obtain ⟨f0, f1, f2, f3, f4, f5⟩ := hf it (by simp)
    have hl := rv.length
    have hta : a ≠ it := fun z => by
      obtain ⟨o1, q1, q2, _⟩ := vs_tup p
      obtain ⟨o2, r1, r2, _⟩ := hit
      rw [z, r1] at q1; cases q1; rw [r2] at q2; exact absurd q2 (by simp)
    have hn : i = its.toArray.size := by simp; omega
    refine wpAny_pyNext_enum_endD (Draws.tuple (A := X.A.in1) (I.ok.hd hc) it a hta its.toArray) he ⟨by rw [← hn]; exact hit, vs_tup p⟩ fun h' eb => ⟨rfl, I.turned (t' := s.toks) (fun b o hb q => eb b o hb q) f0 f1 f3 f4 f5⟩
  self := fun A i s Q E st h => let ⟨⟨_, he⟩, _⟩ := st; wpAny_pyIter_enum he h
def iEnumT (K : PySem.W.Frag) (ta : TA) : TI := fun σ H R => ta σ H fun vs H1 => ∃ a xs, vs = [.ref a] ∧ SqT K H1 a xs ∧ R (IteT K a) H1
theorem pi_enumT {X : Cx} {e : Expr} {ta : TA} {p pos tpos : Pos} {elts : List Expr} {kk : Nat} (hg : Gl X "enumerate") (hm : X.mg "enumerate" = none) (ha : PA X [e] ta) (hs : starEach [e] X.env = [(false, eval e X.env)] := by rfl) :
    PI X (.Tuple elts kk tpos) (.Call (.Name "enumerate" p) [e] [] pos) (iEnumT X.K ta) := by
  refine ⟨fun pins s σ H R I h => ?_⟩
  refine Call_ (ld_blt I hg hm boot_enumerate (PyProof.Rows.callWith_type1 (thn (ha.run pos pins s σ H _ I h) fun us s1 ⟨vs, H1, I1, r1, q1⟩ => ?_) hs rfl))
  obtain ⟨a, xs, ex, hq, q⟩ := q1
  subst ex
  cases r1 with
  | cons r rr =>
    cases rr
    cases r
    obtain ⟨its, rv, p', hz⟩ := I1.tuple hq
    refine vs_call_enumerate_tuple (vs_tup p') fun h' he hit hsz hk => wpAny_pyIter_enum he ?_
    have I2 : Inv X pins σ H1 { s1 with heap := h' } := I1.kept (t' := s1.toks) hk
    refine ⟨s1.heap.objs.size + 1, [s1.heap.objs.size + 1, s1.heap.objs.size], _, _, H1, rfl, I2, turn_enumT a (s1.heap.objs.size + 1) s1.heap.objs.size, ⟨⟨.none, he⟩, hit, Nat.succ_ne_self _⟩, fun b hb => ?_, q⟩
    have e' : b = s1.heap.objs.size + 1 ∨ b = s1.heap.objs.size := by simpa using hb
    have hle : s1.heap.objs.size ≤ b := by
      rcases e' with z | z
      · rw [z]; exact Nat.le_add_right _ _
      · rw [z]; exact Nat.le_refl _
    exact I1.fpOk hle (I1.hok.fresh hle)
theorem walk_enumT {K : PySem.W.Frag} {a : Addr} {xs : List V} : Walk (IteT K a) xs.length (fun H => SqT K H a xs) (YPair (fun i => some (.int (i : Nat))) (fun i => xs[i]?)) where
  goes := fun i H hi g => ⟨xs, xs[i], g, List.getElem?_eq_getElem hi⟩
  stops := fun H g => ⟨xs, g, rfl⟩
  yields := fun i H x H' hi g ⟨T, y, e1, e2, e3, e4⟩ => ⟨T, .int (i : Nat), y, e1, e2, e3, rfl, e4 xs g⟩

/-! ### walks of data -/
def itL (ev : SD → R D) : SD → R (List D) := fun env => (ev env).bind fun d e => match d with
  | .lst .imm ds => .ok ds e
  | .lst .bor ds => .ok ds e
  | _ => .bad
def itT (ev : SD → R D) : SD → R (List D) := fun env => (ev env).bind fun d e => match d with
  | .tup ds => .ok ds e
  | _ => .bad
def itS (ev : SD → R D) : SD → R (List D) := fun env => (ev env).bind fun d e => match d with
  | .str x => .ok (x.cps.toList.map fun c => .str ⟨#[c]⟩) e
  | _ => .bad
def rangeD (lo : Int) (n : Nat) : List D := (List.range n).map fun i => .int (lo + (i : Nat))
def itR1 (ev : SD → R D) : SD → R (List D) := fun env => (ev env).bind fun d e => match d with
  | .int j => if -(2 ^ 62) ≤ j ∧ j < 2 ^ 62 then .ok (rangeD 0 j.toNat) e else .bad
  | _ => .bad
def itR2 (ev : SD → R (List D)) : SD → R (List D) := fun env => (ev env).bind fun d e => match d with
  | [.int i, .int j] => if -(2 ^ 62) ≤ i ∧ i < 2 ^ 62 ∧ -(2 ^ 62) ≤ j ∧ j < 2 ^ 62 then .ok (rangeD i (j - i).toNat) e else .bad
  | _ => .bad
def enumD (ds : List D) : List D := ds.zipIdx.map fun p => .tup [.int (p.2 : Nat), p.1]
def zipD (xs ys : List D) : List D := (xs.zip ys).map fun p => .tup [p.1, p.2]
def itEnum (it : SD → R (List D)) : SD → R (List D) := fun env => (it env).bind fun ds e => .ok (enumD ds) e
def listOf : D → Option (List D)
  | .lst .imm ds => some ds
  | .lst .bor ds => some ds
  | _ => none
def tupOf : D → Option (List D)
  | .tup ds => some ds
  | _ => none
def itZip (f : D → Option (List D)) (ev : SD → R (List D)) : SD → R (List D) := fun env => (ev env).bind fun d e => match d with
  | [x, y] => (match f x, f y with
    | some xs, some ys => .ok (zipD xs ys) e
    | _, _ => .bad)
  | _ => .bad
section
variable {X : Cx} {Γ : Gm} {W : Wx} {p f : Bool} {a b : Expr} {eva : SD → R D} {evs : SD → R (List D)} {tg : Expr}
/-- a list that is read -/
theorem read_lst {K : PySem.W.Frag} {H : Hp} {d : D} {v : V} {F : List Addr} {ds : List D} (r : Rep K Γ H d v F) (h : listOf d = some ds) : ∃ z vs, v = .ref z ∧ Reps K Γ H ds vs [] ∧ ∀ H2, Ag Γ [] H H2 → SqL K H2 z vs := by
  cases d with
  | lst m xs =>
    cases m with
    | own => cases h
    | imm =>
      cases h
      obtain ⟨z, vs, rfl, s, rs, _⟩ := r
      exact ⟨z, vs, rfl, rs, fun H2 g => (s.ag g).sq⟩
    | bor =>
      cases h
      obtain ⟨z, vs, rfl, gg, s, rs, _⟩ := r
      exact ⟨z, vs, rfl, rs, fun H2 g => .inl (.inl (g _ _ s (.inr (.inr gg))))⟩
  | _ => cases h
theorem read_tup {K : PySem.W.Frag} {H : Hp} {d : D} {v : V} {F : List Addr} {ds : List D} (r : Rep K Γ H d v F) (h : tupOf d = some ds) : ∃ z vs, v = .ref z ∧ Reps K Γ H ds vs [] ∧ ∀ H2, Ag Γ [] H H2 → SqT K H2 z vs := by
  cases d with
  | tup xs =>
    cases h
    obtain ⟨z, vs, rfl, s, rs, _⟩ := r
    exact ⟨z, vs, rfl, rs, fun H2 g => SqT.ag s g⟩
  | _ => cases h
theorem ag_refl {H : Hp} {F : List Addr} : Ag Γ F H H := fun _ _ h _ => h
theorem yAt_ok {K : PySem.W.Frag} {H H2 H3 : Hp} {ds : List D} {vs : List V} (rs : Reps K Γ H ds vs []) {i : Nat} {x : V} (g : Ag Γ [] H H2) (y : YAt vs i H2 x H3) : ∃ d, ds[i]? = some d ∧ Rep K Γ H3 d x [] ∧ Same H2 H3 := by
  obtain ⟨rfl, hx⟩ := y
  have hl : i < ds.length := by rw [rs.len]; exact (List.getElem?_eq_some_iff.mp hx).1
  obtain ⟨v, h1, h2⟩ := (rs.ag g).get0 (List.getElem?_eq_getElem hl)
  rw [hx] at h1; cases h1
  exact ⟨_, List.getElem?_eq_getElem hl, h2, Same.refl _⟩
theorem ji_lst (h : J X Γ W p f a eva) : JI X Γ W p tg a (itL eva) := by
  obtain ⟨t, pe, s⟩ := h.ex
  refine ⟨_, pi_list pe, fun σ H env fp re Rr q => s σ H env fp re _ (hold_mono (hold_bind q) (fun d e k v H' fp' Fr o => ?_) fun _ _ z => z)⟩
  have main : ∀ ds, listOf d = some ds → hold (R.ok ds e) (fun ds env' => ∀ Jt H' fp', RE X.K Γ H' σ env' fp' → Fm H fp H' fp' → (p = true → env' = env ∧ fp' = fp ∧ Same H H') → Goes X.K Γ Jt H' ds → Rr Jt H') (fun _ _ => True) → ∃ z, v = .ref z ∧ (∃ xs, SqL X.K H' z xs) ∧ Rr (Itl X.K z) H' := fun ds hl k => by
    obtain ⟨z, vs, rfl, rs, sq⟩ := read_lst o.rep hl
    refine ⟨z, rfl, ⟨vs, sq H' ag_refl⟩, k _ H' fp' o.re o.fm o.pu ⟨_, _, by rw [rs.len]; exact walk_list, fun H2 g => sq H2 g, fun i H2 x H3 g _ y => yAt_ok rs g y⟩⟩
  cases d with
  | lst m xs =>
    cases m with
    | own => exact k.elim
    | imm => exact main xs rfl k
    | bor => exact main xs rfl k
  | _ => exact k.elim
theorem ji_tup (h : J X Γ W p f a eva) : JI X Γ W p tg a (itT eva) := by
  obtain ⟨t, pe, s⟩ := h.ex
  refine ⟨_, pi_tup pe, fun σ H env fp re Rr q => s σ H env fp re _ (hold_mono (hold_bind q) (fun d e k v H' fp' Fr o => ?_) fun _ _ z => z)⟩
  cases d with
  | tup xs =>
    obtain ⟨z, vs, rfl, rs, sq⟩ := read_tup o.rep rfl
    exact ⟨z, rfl, ⟨vs, sq H' ag_refl⟩, k _ H' fp' o.re o.fm o.pu ⟨_, _, by rw [rs.len]; exact walk_tup, fun H2 g => sq H2 g, fun i H2 x H3 g _ y => yAt_ok rs g y⟩⟩
  | _ => exact k.elim
theorem ji_str (h : J X Γ W p f a eva) : JI X Γ W p tg a (itS eva) := by
  obtain ⟨t, pe, s⟩ := h.ex
  refine ⟨_, pi_str pe, fun σ H env fp re Rr q => s σ H env fp re _ (hold_mono (hold_bind q) (fun d e k v H' fp' Fr o => ?_) fun _ _ z => z)⟩
  cases d with
  | str z =>
    obtain ⟨rfl, _⟩ := o.rep
    refine ⟨z, rfl, k _ H' fp' o.re o.fm o.pu ⟨_, _, by rw [List.length_map, Array.length_toList]; exact walk_str, fun _ _ => trivial, fun i H2 x H3 g hi y => ?_⟩⟩
    obtain ⟨rfl, c, hc, rfl⟩ := y
    refine ⟨.str ⟨#[c]⟩, ?_, ⟨rfl, rfl⟩, Same.refl _⟩
    rw [List.getElem?_map, Array.getElem?_toList, hc]; rfl
  | _ => exact k.elim
theorem range_goes {K : PySem.W.Frag} {H : Hp} {lo : Int} {n : Nat} : Goes K Γ (Itr lo n) H (rangeD lo n) := by
  refine ⟨_, _, by unfold rangeD; rw [List.length_map, List.length_range]; exact walk_range, fun _ _ => trivial, fun i H2 x H3 g hi y => ?_⟩
  obtain ⟨rfl, rfl⟩ := y
  refine ⟨.int (lo + i), ?_, ⟨rfl, rfl⟩, Same.refl _⟩
  unfold rangeD at hi ⊢
  rw [List.length_map, List.length_range] at hi
  rw [List.getElem?_map, List.getElem?_range hi]; rfl
theorem ji_range1 {q pos : Pos} (h : J X Γ W p f a eva) (hm : X.mg "range" = none) (hg : Gl X "range" := by rfl) (hs : starEach [a] X.env = [(false, eval a X.env)] := by rfl) : JI X Γ W p tg (.Call (.Name "range" q) [a] [] pos) (itR1 eva) := by
  obtain ⟨t, pe, s⟩ := h.ex
  refine ⟨_, pi_range1 hg hm (pa_cons pe pa_nil hs) hs, fun σ H env fp re Rr q => s σ H env fp re _ (hold_mono (hold_bind q) (fun d e k v H' fp' Fr o => ?_) fun _ _ z => z)⟩
  cases d with
  | int j =>
    obtain ⟨rfl, _⟩ := o.rep
    have k' : hold (if -(2 ^ 62) ≤ j ∧ j < 2 ^ 62 then R.ok (rangeD 0 j.toNat) e else R.bad) _ _ := k
    split at k'
    · rename_i hh
      exact ⟨j, rfl, hh.1, hh.2, k' _ H' fp' o.re o.fm o.pu range_goes⟩
    · exact k'.elim
  | _ => exact k.elim
theorem ji_range2 {q pos : Pos} (h : JA X Γ W p f [a, b] evs) (hm : X.mg "range" = none) (hg : Gl X "range" := by rfl) (hs : starEach [a, b] X.env = [(false, eval a X.env), (false, eval b X.env)] := by rfl) (hs2 : starEach [b] X.env = [(false, eval b X.env)] := by rfl) :
    JI X Γ W p tg (.Call (.Name "range" q) [a, b] [] pos) (itR2 evs) := by
  obtain ⟨t, pa, s⟩ := h.ex
  refine ⟨_, pi_range2 hg hm pa hs hs2, fun σ H env fp re Rr q => s σ H env fp re _ (hold_mono (hold_bind q) (fun d e k v H' fp' Fr o => ?_) fun _ _ z => z)⟩
  match d, k with
  | [.int i, .int j], k =>
    have k' : hold (if -(2 ^ 62) ≤ i ∧ i < 2 ^ 62 ∧ -(2 ^ 62) ≤ j ∧ j < 2 ^ 62 then R.ok (rangeD i (j - i).toNat) e else R.bad) _ _ := k
    split at k'
    · rename_i hh
      obtain ⟨e1, _⟩ := (show Reps X.K Γ H' ([i, j].map D.int) v Fr from o.rep).ints
      exact ⟨i, j, e1, hh, k' _ H' fp' o.re o.fm o.pu range_goes⟩
    · exact k'.elim
theorem yPair_ok {K : PySem.W.Frag} {H2 H3 : Hp} {fx fy : Nat → Option V} {i : Nat} {v : V} {dx dy : D} (y : YPair fx fy i H2 v H3) (hx : ∀ x, fx i = some x → Rep K Γ H2 dx x []) (hy : ∀ x, fy i = some x → Rep K Γ H2 dy x []) : Rep K Γ H3 (.tup [dx, dy]) v [] ∧ Same H2 H3 := by
  obtain ⟨T, x, z, rfl, nT, rfl, e1, e2⟩ := y
  have sm : Same H2 (upd H2 T (.tup [x, z])) := same_new nT
  exact ⟨⟨T, [x, z], rfl, .inl (.inl upd_same), Reps.cons0 ((hx x e1).same sm) (Reps.cons0 ((hy z e2).same sm) rfl), rfl⟩, sm⟩
theorem enumD_length (ds : List D) : (enumD ds).length = ds.length := by unfold enumD; simp
theorem enumD_get (ds : List D) {i : Nat} (hi : i < ds.length) : (enumD ds)[i]? = some (.tup [.int (i : Nat), ds[i]]) := by
  unfold enumD
  rw [List.getElem?_map, List.getElem?_zipIdx, List.getElem?_eq_getElem hi]
  simp
theorem enum_goes {K : PySem.W.Frag} {H : Hp} {Jt : It} {ds : List D} {vs : List V} {G : Hp → Prop} (rs : Reps K Γ H ds vs []) (wk : Walk Jt vs.length G (YPair (fun i => some (.int (i : Nat))) (fun i => vs[i]?))) (hG : ∀ H2, Ag Γ [] H H2 → G H2) : Goes K Γ Jt H (enumD ds) := by
  refine ⟨G, _, by rw [enumD_length, rs.len]; exact wk, hG, fun i H2 x H3 g hi y => ?_⟩
  rw [enumD_length] at hi
  refine ⟨_, enumD_get ds hi, ?_⟩
  refine yPair_ok y (fun x e => ?_) (fun x e => ?_)
  · cases e; exact ⟨rfl, rfl⟩
  · obtain ⟨v, h1, h2⟩ := (rs.ag g).get0 (List.getElem?_eq_getElem hi)
    rw [e] at h1; cases h1
    exact h2
theorem ji_enumL {elts : List Expr} {kk : Nat} {q pos tpos : Pos} (h : J X Γ W p f a eva) (hm : X.mg "enumerate" = none) (hg : Gl X "enumerate" := by rfl) (hs : starEach [a] X.env = [(false, eval a X.env)] := by rfl) :
    JI X Γ W p (.Tuple elts kk tpos) (.Call (.Name "enumerate" q) [a] [] pos) (itEnum (itL eva)) := by
  obtain ⟨t, pe, s⟩ := h.ex
  refine ⟨_, pi_enum hg hm (pa_cons pe pa_nil hs) hs, fun σ H env fp re Rr q => s σ H env fp re _ (hold_mono (hold_bind (hold_bind q)) (fun d e k v H' fp' Fr o => ?_) fun _ _ z => z)⟩
  have main : ∀ ds, listOf d = some ds → hold (R.ok (enumD ds) e) (fun ds env' => ∀ Jt H' fp', RE X.K Γ H' σ env' fp' → Fm H fp H' fp' → (p = true → env' = env ∧ fp' = fp ∧ Same H H') → Goes X.K Γ Jt H' ds → Rr Jt H') (fun _ _ => True) → ∃ z xs, [v] = [V.ref z] ∧ SqL X.K H' z xs ∧ Rr (Ite X.K z) H' := fun ds hl k => by
    obtain ⟨z, vs, rfl, rs, sq⟩ := read_lst o.rep hl
    exact ⟨z, vs, rfl, sq H' ag_refl, k _ H' fp' o.re o.fm o.pu (enum_goes rs walk_enum sq)⟩
  cases d with
  | lst m xs =>
    cases m with
    | own => exact k.elim
    | imm => exact main xs rfl k
    | bor => exact main xs rfl k
  | _ => exact k.elim
theorem ji_enumT {elts : List Expr} {kk : Nat} {q pos tpos : Pos} (h : J X Γ W p f a eva) (hm : X.mg "enumerate" = none) (hg : Gl X "enumerate" := by rfl) (hs : starEach [a] X.env = [(false, eval a X.env)] := by rfl) :
    JI X Γ W p (.Tuple elts kk tpos) (.Call (.Name "enumerate" q) [a] [] pos) (itEnum (itT eva)) := by
  obtain ⟨t, pe, s⟩ := h.ex
  refine ⟨_, pi_enumT hg hm (pa_cons pe pa_nil hs) hs, fun σ H env fp re Rr q => s σ H env fp re _ (hold_mono (hold_bind (hold_bind q)) (fun d e k v H' fp' Fr o => ?_) fun _ _ z => z)⟩
  cases d with
  | tup xs =>
    obtain ⟨z, vs, rfl, rs, sq⟩ := read_tup o.rep rfl
    exact ⟨z, vs, rfl, sq H' ag_refl, k _ H' fp' o.re o.fm o.pu (enum_goes rs walk_enumT sq)⟩
  | _ => exact k.elim
theorem zipD_get (xs ys : List D) {i : Nat} (hi : i < xs.length) (hj : i < ys.length) : (zipD xs ys)[i]? = some (.tup [xs[i], ys[i]]) := by
  unfold zipD
  rw [List.getElem?_map, List.getElem?_eq_getElem (by rw [List.length_zip]; omega), List.getElem_zip]
  rfl
theorem zip_goes {K : PySem.W.Frag} {H : Hp} {Jt : It} {xs ys : List D} {us vs : List V} {G : Hp → Prop} (rx : Reps K Γ H xs us []) (ry : Reps K Γ H ys vs []) (wk : Walk Jt (min us.length vs.length) G (YPair (fun i => us[i]?) (fun i => vs[i]?))) (hG : ∀ H2, Ag Γ [] H H2 → G H2) : Goes K Γ Jt H (zipD xs ys) := by
  have hl : (zipD xs ys).length = min us.length vs.length := by unfold zipD; rw [List.length_map, List.length_zip, rx.len, ry.len]
  refine ⟨G, _, by rw [hl]; exact wk, hG, fun i H2 x H3 g hi y => ?_⟩
  rw [hl] at hi
  have h1 : i < xs.length := by rw [rx.len]; omega
  have h2 : i < ys.length := by rw [ry.len]; omega
  refine ⟨_, zipD_get xs ys h1 h2, ?_⟩
  refine yPair_ok y (fun x e => ?_) (fun x e => ?_)
  · obtain ⟨v, q1, q2⟩ := (rx.ag g).get0 (List.getElem?_eq_getElem h1)
    rw [e] at q1; cases q1
    exact q2
  · obtain ⟨v, q1, q2⟩ := (ry.ag g).get0 (List.getElem?_eq_getElem h2)
    rw [e] at q1; cases q1
    exact q2
theorem walk_zipT {K : PySem.W.Frag} {a b : Addr} {xs ys : List V} : Walk (RZ.ItzT K a b) (min xs.length ys.length) (fun H => SqT K H a xs ∧ SqT K H b ys) (YPair (fun i => xs[i]?) (fun i => ys[i]?)) where
  goes := fun i H hi g => ⟨xs, ys, xs[i]'(by omega), ys[i]'(by omega), g.1, g.2, List.getElem?_eq_getElem _, List.getElem?_eq_getElem _⟩
  stops := fun H g => ⟨xs, ys, g.1, g.2, by omega⟩
  yields := fun i H x H' hi g ⟨T, y, z, e1, e2, e3, e4, e5⟩ => ⟨T, y, z, e1, e2, e3, e4 xs g.1, e5 ys g.2⟩
theorem Reps.two {K : PySem.W.Frag} {H : Hp} {x y : D} {vs : List V} {F : List Addr} (h : Reps K Γ H [x, y] vs F) : ∃ u v F1 F2, vs = [u, v] ∧ Rep K Γ H x u F1 ∧ Rep K Γ H y v F2 := by
  match vs, h with
  | [u, v], h =>
    obtain ⟨F1, F2, _, r1, F3, F4, _, r2, _⟩ := h
    exact ⟨u, v, F1, F3, rfl, r1, r2⟩
  | [u], h =>
    obtain ⟨F1, F2, _, r1, r2⟩ := h
    exact r2.elim
  | u :: v :: w :: r, h =>
    obtain ⟨F1, F2, _, r1, F3, F4, _, r2, r3⟩ := h
    exact r3.elim
theorem ji_zipL {elts : List Expr} {kk : Nat} {q pos tpos : Pos} (h : JA X Γ W p f [a, b] evs) (hm : X.mg "zip" = none) (hg : Gl X "zip" := by rfl)
    (hs : starEach [a, b] X.env = (false, eval a X.env) :: starEach [b] X.env := by rfl) (hpl : (backTo pos (starEach [b] X.env)).any (·.1) = false := by rfl) :
    JI X Γ W p (.Tuple elts kk tpos) (.Call (.Name "zip" q) [a, b] [] pos) (itZip listOf evs) := by
  obtain ⟨t, pa, s⟩ := h.ex
  refine ⟨_, pi_zip hg hm pa hs hpl, fun σ H env fp re Rr q => s σ H env fp re _ (hold_mono (hold_bind q) (fun d e k v H' fp' Fr o => ?_) fun _ _ z => z)⟩
  match d, k, o with
  | [x, y], k, o =>
    obtain ⟨u, w', F1, F2, rfl, r1, r2⟩ := Reps.two o.rep
    cases hx : listOf x with
    | none => simp only [hx] at k; exact k.elim
    | some xs =>
      cases hy : listOf y with
      | none => simp only [hx, hy] at k; exact k.elim
      | some ys =>
        simp only [hx, hy] at k
        obtain ⟨z1, vs1, rfl, rs1, sq1⟩ := read_lst r1 hx
        obtain ⟨z2, vs2, rfl, rs2, sq2⟩ := read_lst r2 hy
        exact ⟨z1, z2, vs1, vs2, rfl, sq1 H' ag_refl, sq2 H' ag_refl, k _ H' fp' o.re o.fm o.pu (zip_goes rs1 rs2 (walk_zip rfl) fun H2 g => ⟨sq1 H2 g, sq2 H2 g⟩)⟩
theorem ji_zipT {elts : List Expr} {kk : Nat} {q pos tpos : Pos} (h : JA X Γ W p f [a, b] evs) (hm : X.mg "zip" = none) (hg : Gl X "zip" := by rfl)
    (hs : starEach [a, b] X.env = (false, eval a X.env) :: starEach [b] X.env := by rfl) (hpl : (backTo pos (starEach [b] X.env)).any (·.1) = false := by rfl) :
    JI X Γ W p (.Tuple elts kk tpos) (.Call (.Name "zip" q) [a, b] [] pos) (itZip tupOf evs) := by
  obtain ⟨t, pa, s⟩ := h.ex
  refine ⟨_, RZ.pi_zipA hg hm pa hs hpl, fun σ H env fp re Rr q => s σ H env fp re _ (hold_mono (hold_bind q) (fun d e k v H' fp' Fr o => ?_) fun _ _ z => z)⟩
  match d, k, o with
  | [x, y], k, o =>
    obtain ⟨u, w', F1, F2, rfl, r1, r2⟩ := Reps.two o.rep
    cases hx : tupOf x with
    | none => simp only [hx] at k; exact k.elim
    | some xs =>
      cases hy : tupOf y with
      | none => simp only [hx, hy] at k; exact k.elim
      | some ys =>
        simp only [hx, hy] at k
        obtain ⟨z1, vs1, rfl, rs1, sq1⟩ := read_tup r1 hx
        obtain ⟨z2, vs2, rfl, rs2, sq2⟩ := read_tup r2 hy
        exact ⟨z1, z2, vs1, vs2, rfl, .inr ⟨sq1 H' ag_refl, sq2 H' ag_refl, k _ H' fp' o.re o.fm o.pu (zip_goes rs1 rs2 walk_zipT fun H2 g => ⟨sq1 H2 g, sq2 H2 g⟩)⟩⟩
end
end Vs

namespace PySem
open AutoSeq1
theorem vs_list_add (l : Addr) (items : Array Value) (n : Nat) (sl : Array (Option Value)) (b : Addr) (items2 : Array Value) (n2 : Nat) (sl2 : Array (Option Value)) (hc0 : items.size + items2.size ≤ sizeLine) :
    Meets (Builtin.«list.__add__» ⟨[.ref l, .ref b], []⟩) (fun _ R s => s.heap.get? l = some { cls := .type "list", dict := none, data := .seq items n, slots := sl } ∧ s.heap.get? b = some { cls := .type "list", dict := none, data := .seq items2 n2, slots := sl2 } ∧ R (.ok (.ret (Value.ref s.heap.objs.size))) { s with heap := s.heap.push { cls := Value.type "list", data := Data.seq (items ++ items2) }, toks := s.toks }) :=
  .of_wp fun prog w A R s h => by obtain ⟨hp, g, d, tk, os⟩ := s; obtain ⟨hl, hb, h⟩ := h; have f1 := idx_int; have f2 := sub_tuple_tuple; have f3 := sub_list_list; have f4 := sub_tuple_list; have f5 := sub_list_tuple; wp_walk using wpAny_loadPart' hl, wpAny_loadPart' hb; exact ⟨_, rfl, h⟩
end PySem
namespace Vs
open PySem PySem.Spec PyProof.Rows L2

/-! ### data as the library's data; equality -/
mutual
def toPy : D → PyData
  | .non => .none | .bl b => .bool b | .int i => .int i | .str x => .str x
  | .tup xs => .tuple (toPys xs)
  | .tx xs => .tuple (toPys xs)
  | .lst _ xs => .list (toPys xs)
  | .dic _ _ => .none | .obj _ _ _ => .none | .exn _ => .none
def toPys : List D → List PyData
  | [] => []
  | d :: ds => toPy d :: toPys ds
end
mutual
/-- plain data, at most n deep -/
def dOk : Nat → D → Bool
  | _, .non => true | _, .bl _ => true | _, .int _ => true | _, .str x => PyData.strOk x
  | n, .tup xs => decide (0 < n) && dOks (n - 1) xs
  | n, .tx xs => decide (0 < n) && dOks (n - 1) xs
  | n, .lst _ xs => decide (0 < n) && dOks (n - 1) xs
  | _, .dic _ _ => false | _, .obj _ _ _ => false | _, .exn _ => false
def dOks : Nat → List D → Bool
  | _, [] => true
  | n, d :: ds => dOk n d && dOks n ds
end
mutual
theorem dOk_shape : ∀ {n : Nat} {d : D}, dOk n d = true → (toPy d).canLay0 = true ∧ (toPy d).depth ≤ n
  | _, .non, _ => ⟨rfl, Nat.zero_le _⟩
  | _, .bl _, _ => ⟨rfl, Nat.zero_le _⟩
  | _, .int _, _ => ⟨rfl, Nat.zero_le _⟩
  | _, .str _, h => ⟨h, Nat.zero_le _⟩
  | n, .tup xs, h => by
    have h' : (decide (0 < n) && dOks (n - 1) xs) = true := h
    rw [Bool.and_eq_true] at h'
    obtain ⟨a, b⟩ := dOks_shape h'.2
    have := of_decide_eq_true h'.1
    refine ⟨a, ?_⟩
    show PyData.depthAll (toPys xs) + 1 ≤ n
    omega
  | n, .tx xs, h => by
    have h' : (decide (0 < n) && dOks (n - 1) xs) = true := h
    rw [Bool.and_eq_true] at h'
    obtain ⟨a, b⟩ := dOks_shape h'.2
    have := of_decide_eq_true h'.1
    refine ⟨a, ?_⟩
    show PyData.depthAll (toPys xs) + 1 ≤ n
    omega
  | n, .lst _ xs, h => by
    have h' : (decide (0 < n) && dOks (n - 1) xs) = true := h
    rw [Bool.and_eq_true] at h'
    obtain ⟨a, b⟩ := dOks_shape h'.2
    have := of_decide_eq_true h'.1
    refine ⟨a, ?_⟩
    show PyData.depthAll (toPys xs) + 1 ≤ n
    omega
  | _, .dic _ _, h => nomatch h
  | _, .obj _ _ _, h => nomatch h
  | _, .exn _, h => nomatch h
theorem dOks_shape : ∀ {n : Nat} {ds : List D}, dOks n ds = true → PyData.canLayAll0 (toPys ds) = true ∧ PyData.depthAll (toPys ds) ≤ n
  | _, [], _ => ⟨rfl, Nat.zero_le _⟩
  | n, d :: ds, h => by
    have h' : (dOk n d && dOks n ds) = true := h
    rw [Bool.and_eq_true] at h'
    obtain ⟨a, b⟩ := dOk_shape h'.1
    obtain ⟨a', b'⟩ := dOks_shape h'.2
    refine ⟨?_, ?_⟩
    · show ((toPy d).canLay0 && PyData.canLayAll0 (toPys ds)) = true
      rw [a, a']; rfl
    · show max (toPy d).depth (PyData.depthAll (toPys ds)) ≤ n
      omega
end
theorem dOk_shaped {d : D} (h : dOk 60 d = true) : SeqAt.shaped (toPy d) = true := by
  obtain ⟨a, b⟩ := dOk_shape h
  show ((toPy d).canLay0 && decide ((toPy d).depth ≤ 64)) = true
  rw [a, decide_eq_true (by omega)]; rfl
mutual
theorem Rep.dp {K : PySem.W.Frag} {Γ : Gm} {H : Hp} : ∀ {n : Nat} {d : D} {v : V} {F : List Addr}, Rep K Γ H d v F → dOk n d = true → Dp K H v (toPy d)
  | _, .non, _, _, h, _ => by rw [h.1]; exact .non
  | _, .bl _, _, _, h, _ => by rw [h.1]; exact .bl _
  | _, .int _, _, _, h, _ => by rw [h.1]; exact .int _
  | _, .str _, _, _, h, _ => by rw [h.1]; exact .str _
  | n, .tup xs, v, F, h, k => by
    obtain ⟨a, vs, rfl, s, r, f⟩ := h
    have k' : (decide (0 < n) && dOks (n - 1) xs) = true := k
    rw [Bool.and_eq_true] at k'
    exact .tup s (Reps.dp r k'.2)
  | n, .tx xs, v, F, h, k => by
    obtain ⟨a, vs, rfl, s, r, f⟩ := h
    have k' : (decide (0 < n) && dOks (n - 1) xs) = true := k
    rw [Bool.and_eq_true] at k'
    exact .tup s.sq (Reps.dp r k'.2)
  | n, .lst .own xs, v, F, h, k => by
    obtain ⟨a, vs, F', rfl, s, r, f⟩ := h
    have k' : (decide (0 < n) && dOks (n - 1) xs) = true := k
    rw [Bool.and_eq_true] at k'
    exact .lst (SqL.of s) (Reps.dp r k'.2)
  | n, .lst .imm xs, v, F, h, k => by
    obtain ⟨a, vs, rfl, s, r, f⟩ := h
    have k' : (decide (0 < n) && dOks (n - 1) xs) = true := k
    rw [Bool.and_eq_true] at k'
    exact .lst s.sq (Reps.dp r k'.2)
  | n, .lst .bor xs, v, F, h, k => by
    obtain ⟨a, vs, rfl, g, s, r, f⟩ := h
    have k' : (decide (0 < n) && dOks (n - 1) xs) = true := k
    rw [Bool.and_eq_true] at k'
    exact .lst (SqL.of s) (Reps.dp r k'.2)
  | _, .dic _ _, _, _, _, k => nomatch k
  | _, .obj _ _ _, _, _, _, k => nomatch k
  | _, .exn _, _, _, _, k => nomatch k
theorem Reps.dp {K : PySem.W.Frag} {Γ : Gm} {H : Hp} : ∀ {n : Nat} {ds : List D} {vs : List V} {F : List Addr}, Reps K Γ H ds vs F → dOks n ds = true → DpAll K H vs (toPys ds)
  | _, [], [], _, _, _ => .nil
  | n, d :: ds, v :: vs, F, h, k => by
    obtain ⟨F1, F2, _, r, rs⟩ := h
    have k' : (dOk n d && dOks n ds) = true := k
    rw [Bool.and_eq_true] at k'
    exact .cons (Rep.dp r k'.1) (Reps.dp rs k'.2)
  | _, [], _ :: _, _, h, _ => h.elim
  | _, _ :: _, [], _, h, _ => h.elim
end
def eqD (x y : D) : Bool := PyData.eqv (toPy x) (toPy y)
def strs2 : D → D → Bool
  | .str _, .str _ => true
  | _, _ => false
def gEq (x y : D) : Option D := if (strs2 x y || (dOk 60 x && dOk 60 y)) = true then some (.bl (eqD x y)) else none
def gNe (x y : D) : Option D := if (strs2 x y || (dOk 60 x && dOk 60 y)) = true then some (.bl (!eqD x y)) else none

section
variable {X : Cx} {Γ : Gm} {W : Wx} {K : PySem.W.Frag}
theorem os_scalar {r : R2} {g : D → D → Option D} (h : ∀ (H : Hp) (x y : V) (dx dy : D) (Fx Fy : List Addr) (d : D) (Q : VK), Rep K Γ H dx x Fx → Rep K Γ H dy y Fy → g dx dy = some d → ∃ v, (∀ H', Rep K Γ H' d v []) ∧ (Q v H → r x y H Q)) : OpSat K Γ r g := fun H x y dx dy Fx Fy d Q r1 r2 hg q => by
  obtain ⟨v, hv, hr⟩ := h H x y dx dy Fx Fy d Q r1 r2 hg
  exact hr (q v H [] (hv H) List.nodup_nil (Same.refl H) fun _ m => nomatch m)
theorem os_eq : OpSat K Γ (fun x y H Q => rEq x y H Q ∨ rEqD K x y H Q) gEq := os_scalar fun H x y dx dy Fx Fy d Q r1 r2 hg => by
  unfold gEq at hg
  split at hg
  · rename_i h
    cases hg
    refine ⟨.bl (eqD dx dy), fun _ => ⟨rfl, rfl⟩, fun q => ?_⟩
    rw [Bool.or_eq_true, Bool.and_eq_true] at h
    rcases h with h | ⟨h1, h2⟩
    · cases dx with
      | str a =>
        cases dy with
        | str b =>
          refine .inl ⟨by rw [r1.1, r2.1]; rfl, ?_⟩
          rw [r1.1, r2.1, dec_str]
          exact q
        | _ => cases h
      | _ => cases h
    · exact .inr ⟨_, _, r1.dp h1, r2.dp h2, dOk_shaped h1, dOk_shaped h2, q⟩
  · cases hg
theorem os_ne : OpSat K Γ (fun x y H Q => rNe x y H Q ∨ rNeD K x y H Q) gNe := os_scalar fun H x y dx dy Fx Fy d Q r1 r2 hg => by
  unfold gNe at hg
  split at hg
  · rename_i h
    cases hg
    refine ⟨.bl (!eqD dx dy), fun _ => ⟨rfl, rfl⟩, fun q => ?_⟩
    rw [Bool.or_eq_true, Bool.and_eq_true] at h
    rcases h with h | ⟨h1, h2⟩
    · cases dx with
      | str a =>
        cases dy with
        | str b =>
          refine .inl ⟨by rw [r1.1, r2.1]; rfl, ?_⟩
          rw [r1.1, r2.1, dec_str]
          exact q
        | _ => cases h
      | _ => cases h
    · exact .inr ⟨_, _, r1.dp h1, r2.dp h2, dOk_shaped h1, dOk_shaped h2, q⟩
  · cases hg
theorem or_eq (hu : X.A.units + 64 < cLine) : OpR X (compareOp .Eq) (fun x y H Q => rEq x y H Q ∨ rEqD X.K x y H Q) := OpR.or op_eq (op_eqD hu)
theorem or_ne (hu : X.A.units + 64 < cLine) : OpR X (compareOp .NotEq) (fun x y H Q => rNe x y H Q ∨ rNeD X.K x y H Q) := OpR.or op_ne (op_neD hu)

/-! ### numbers -/
def gI2 (f : Int → Int → Int) (x y : D) : Option D := match x, y with
  | .int i, .int j => some (.int (f i j))
  | _, _ => none
def gC2 (f : Int → Int → Bool) (x y : D) : Option D := match x, y with
  | .int i, .int j => some (.bl (f i j))
  | _, _ => none
open Classical in
noncomputable def gMul (x y : D) : Option D := match x, y with
  | .int i, .int j => if CMul i j ∨ CMulW i j then some (.int (i * j)) else none
  | .tup a, .int k => if 0 ≤ k ∧ k ≤ 1000 ∧ a.length ≤ 1000 then some (.tup (List.replicate k.toNat a).flatten) else none
  | .lst m a, .int k => if isImms a = true ∧ m ≠ .imm ∧ -(2 ^ 63) ≤ k ∧ k < 2 ^ 63 ∧ a.length * k.toNat ≤ sizeLine then some (.lst .own (List.replicate k.toNat a).flatten) else none
  | .str a, .int k => if 0 ≤ k ∧ k ≤ 1000 ∧ a.length ≤ 1000 then some (.str ⟨(List.replicate k.toNat a.cps.toList).flatten.toArray⟩) else none
  | _, _ => none
open Classical in
noncomputable def gDiv (x y : D) : Option D := match x, y with
  | .int i, .int j => if CDivW i j then some (.int (i / j)) else none
  | _, _ => none
def gMod (x y : D) : Option D := match x, y with
  | .int i, .int j => if 0 < j then some (.int (i % j)) else none
  | _, _ => none
def gPow (x y : D) : Option D := match x, y with
  | .int i, .int j => if 0 ≤ j ∧ j ≤ 1000000 ∧ i.natAbs < 2 ^ 64 then some (.int (i ^ j.toNat)) else none
  | _, _ => none
def gNeg (x : D) : Option D := match x with
  | .int i => some (.int (-i))
  | _ => none
theorem os_div : OpSat K Γ (rI CDivW fun i j => .int (i / j)) gDiv := os_scalar fun H x y dx dy Fx Fy d Q r1 r2 hg => by
  cases dx with
  | int i =>
    cases dy with
    | int j =>
      have hg' : (open Classical in if CDivW i j then some (D.int (i / j)) else none) = some d := hg
      split at hg'
      · rename_i h
        cases hg'
        exact ⟨.int (i / j), fun _ => ⟨rfl, rfl⟩, fun q => ⟨i, j, r1.1, r2.1, h, q⟩⟩
      · cases hg'
    | _ => cases hg
  | _ => cases hg
theorem os_mod : OpSat K Γ (rI (fun _ j => 0 < j) fun i j => .int (i % j)) gMod := os_scalar fun H x y dx dy Fx Fy d Q r1 r2 hg => by
  cases dx with
  | int i =>
    cases dy with
    | int j =>
      have hg' : (if 0 < j then some (D.int (i % j)) else none) = some d := hg
      split at hg'
      · rename_i h
        cases hg'
        exact ⟨.int (i % j), fun _ => ⟨rfl, rfl⟩, fun q => ⟨i, j, r1.1, r2.1, h, q⟩⟩
      · cases hg'
    | _ => cases hg
  | _ => cases hg
theorem os_pow : OpSat K Γ (rI CPow fun i j => .int (i ^ j.toNat)) gPow := os_scalar fun H x y dx dy Fx Fy d Q r1 r2 hg => by
  cases dx with
  | int i =>
    cases dy with
    | int j =>
      have hg' : (if 0 ≤ j ∧ j ≤ 1000000 ∧ i.natAbs < 2 ^ 64 then some (D.int (i ^ j.toNat)) else none) = some d := hg
      split at hg'
      · rename_i h
        cases hg'
        exact ⟨.int (i ^ j.toNat), fun _ => ⟨rfl, rfl⟩, fun q => ⟨i, j, r1.1, r2.1, h, q⟩⟩
      · cases hg'
    | _ => cases hg
  | _ => cases hg
theorem us_neg : UnSat K Γ (rU fun i => .int (-i)) gNeg := fun H x dx Fx d Q r1 hg q => by
  cases dx with
  | int i =>
    cases hg
    exact ⟨i, r1.1, q (.int (-i)) H [] ⟨rfl, rfl⟩ List.nodup_nil (Same.refl H) fun _ m => nomatch m⟩
  | _ => cases hg
theorem os_i2 {f : Int → Int → Int} : OpSat K Γ (rI0 fun i j => .int (f i j)) (gI2 f) := os_scalar fun H x y dx dy Fx Fy d Q r1 r2 hg => by
  cases dx with
  | int i =>
    cases dy with
    | int j =>
      cases hg
      exact ⟨.int (f i j), fun _ => ⟨rfl, rfl⟩, fun q => ⟨i, j, r1.1, r2.1, q⟩⟩
    | _ => cases hg
  | _ => cases hg
theorem os_c2 {f : Int → Int → Bool} : OpSat K Γ (rI0 fun i j => .bl (f i j)) (gC2 f) := os_scalar fun H x y dx dy Fx Fy d Q r1 r2 hg => by
  cases dx with
  | int i =>
    cases dy with
    | int j =>
      cases hg
      exact ⟨.bl (f i j), fun _ => ⟨rfl, rfl⟩, fun q => ⟨i, j, r1.1, r2.1, q⟩⟩
    | _ => cases hg
  | _ => cases hg

/-! ### + of numbers, texts, tuples, lists -/
def gAdd (x y : D) : Option D := match x, y with
  | .int i, .int j => some (.int (i + j))
  | .str a, .str b => if a.length + b.length ≤ sizeLine then some (.str (a ++ b)) else none
  | .tup a, .tup b => if a.length + b.length ≤ sizeLine then some (.tup (a ++ b)) else none
  | .lst _ a, .lst _ b => if isImms a = true ∧ isImms b = true ∧ a.length + b.length ≤ sizeLine then some (.lst .own (a ++ b)) else none
  | _, _ => none
/-- lists that are read, added -/
def rCatL (K : PySem.W.Frag) : R2 := fun x y H Q => ∃ l b xs zs, x = .ref l ∧ y = .ref b ∧ SqL K H l xs ∧ SqL K H b zs ∧ xs.length + zs.length ≤ sizeLine ∧ ∀ p, H p = none → Q (.ref p) (upd H p (.lst (xs ++ zs)))
theorem op_catL : OpR X (binaryOp .Add) (rCatL X.K) := by
  intro pins s σ H x y v u Q I rx ry h
  obtain ⟨l, b, xs, zs, rfl, rfl, hH, hB, hz, q⟩ := h
  cases rx
  cases ry
  obtain ⟨its, r, p1, z⟩ := I.list hH
  obtain ⟨its2, r2, p2, z2⟩ := I.list hB
  obtain ⟨⟨c1, d1, t1, s1⟩, n1, e1, c1', d1', t1'⟩ := p1
  obtain ⟨⟨c2, d2, t2, s2⟩, n2, e2, c2', d2', t2'⟩ := p2
  have hl := r.length
  have hl2 := r2.length
  simp only at c1' d1' t1' c2' d2' t2'
  subst c1' d1' t1' c2' d2' t2'
  have go : ∀ (E : Value → Shared → Prop) (Q : Value → Shared → Prop), Q (.ref s.heap.objs.size) { s with heap := s.heap.push { cls := .type "list", data := .seq (its.toArray ++ its2.toArray) } } → wpAny (model X.prog X.w) X.A (binaryOp .Add (.ref l) (.ref b)) Q E s := fun E Q h => by
    have hsz : its.toArray.size + its2.toArray.size ≤ sizeLine := by rw [List.size_toArray, List.size_toArray]; omega
    exact concat_meets ⟨_, e1, rfl⟩ ⟨_, e2, rfl⟩ noFill_list_add seq_list_add F.slot_list_add F.entry_list_add (F.args_list_add_2 _ _) (vs_list_add l its.toArray n1 s1 b its2.toArray n2 s2 hsz) ⟨e1, e2, h⟩
  refine go _ _ ?_
  have ea : its.toArray ++ its2.toArray = (its ++ its2).toArray := by simp
  rw [ea]
  exact ⟨.ref _, _, I.lnew (t' := s.toks) (r.append r2) (by rw [List.length_append]; omega), rfl, q _ I.fresh⟩
/-- a list that is read, whoever may write it -/
theorem read_any {H : Hp} {m : Md} {xs : List D} {v : V} {F : List Addr} (r : Rep K Γ H (.lst m xs) v F) : ∃ z vs F', v = .ref z ∧ SqL K H z vs ∧ Reps K Γ H xs vs F' ∧ ∀ a ∈ F', a ∈ F := by
  cases m with
  | own =>
    obtain ⟨z, vs, F', rfl, s, rs, rfl⟩ := r
    exact ⟨z, vs, F', rfl, SqL.of s, rs, fun a m => List.mem_cons_of_mem _ m⟩
  | imm =>
    obtain ⟨z, vs, rfl, s, rs, rfl⟩ := r
    exact ⟨z, vs, [], rfl, s.sq, rs, fun a m => m⟩
  | bor =>
    obtain ⟨z, vs, rfl, g, s, rs, rfl⟩ := r
    exact ⟨z, vs, [], rfl, SqL.of s, rs, fun a m => m⟩
/-- a new list of things that can't be written -/
theorem new_lst {H : Hp} {ds : List D} {vs : List V} {Q : VK} (rs : Reps K Γ H ds vs []) (q : ∀ v H' Fr, Rep K Γ H' (.lst .own ds) v Fr → Fr.Nodup → Same H H' → (∀ z ∈ Fr, H z = none) → Q v H') : ∀ p, H p = none → Q (.ref p) (upd H p (.lst vs)) := fun p np =>
  q (.ref p) _ [p] ⟨p, vs, [], rfl, upd_same, rs.same (same_new np), rfl⟩ (by simp) (same_new np) fun z m => by rw [List.mem_singleton.mp m]; exact np
theorem new_tup {H : Hp} {ds : List D} {vs : List V} {Q : VK} (rs : Reps K Γ H ds vs []) (q : ∀ v H' Fr, Rep K Γ H' (.tup ds) v Fr → Fr.Nodup → Same H H' → (∀ z ∈ Fr, H z = none) → Q v H') : ∀ p, H p = none → Q (.ref p) (upd H p (.tup vs)) := fun p np =>
  q (.ref p) _ [] ⟨p, vs, rfl, .inl (.inl upd_same), rs.same (same_new np), rfl⟩ List.nodup_nil (same_new np) fun _ m => nomatch m
abbrev rAddA (K : PySem.W.Frag) : R2 := fun x y H Q => (rI0 (fun i j => .int (i + j)) x y H Q) ∨ ((∃ i j, x = .str i ∧ y = .str j ∧ i.length + j.length ≤ sizeLine ∧ Q (.str (i ++ j)) H) ∨ (rCatA K x y H Q ∨ rCatL K x y H Q))
theorem or_add : OpR X (binaryOp .Add) (rAddA X.K) := OpR.or op_add (OpR.or op_add_str (OpR.or op_catA op_catL))
theorem os_add : OpSat K Γ (rAddA K) gAdd := fun H x y dx dy Fx Fy d Q r1 r2 hg q => by
  cases dx with
  | int i =>
    cases dy with
    | int j =>
      cases hg
      exact .inl ⟨i, j, r1.1, r2.1, q _ H [] ⟨rfl, rfl⟩ List.nodup_nil (Same.refl H) fun _ m => nomatch m⟩
    | _ => cases hg
  | str a =>
    cases dy with
    | str b =>
      have hg' : (if a.length + b.length ≤ sizeLine then some (D.str (a ++ b)) else none) = some d := hg
      split at hg'
      · rename_i h
        cases hg'
        exact .inr (.inl ⟨a, b, r1.1, r2.1, h, q _ H [] ⟨rfl, rfl⟩ List.nodup_nil (Same.refl H) fun _ m => nomatch m⟩)
      · cases hg'
    | _ => cases hg
  | tup a =>
    cases dy with
    | tup b =>
      have hg' : (if a.length + b.length ≤ sizeLine then some (D.tup (a ++ b)) else none) = some d := hg
      split at hg'
      · rename_i h
        cases hg'
        obtain ⟨z1, v1, rfl, s1, rs1, rfl⟩ := r1
        obtain ⟨z2, v2, rfl, s2, rs2, rfl⟩ := r2
        have l1 := rs1.len
        have l2 := rs2.len
        refine .inr (.inr (.inl ⟨z1, z2, v1, v2, rfl, rfl, s1, s2, by omega, fun e => ?_, fun _ e => ?_, fun _ _ => new_tup (rs1.append0 rs2) q⟩))
        · subst e
          have : a = [] := List.length_eq_zero_iff.mp l1
          subst this
          exact q _ H [] ⟨z2, v2, rfl, s2, rs2, rfl⟩ List.nodup_nil (Same.refl H) fun _ m => nomatch m
        · subst e
          have : b = [] := List.length_eq_zero_iff.mp l2
          subst this
          rw [List.append_nil] at q
          exact q _ H [] ⟨z1, v1, rfl, s1, rs1, rfl⟩ List.nodup_nil (Same.refl H) fun _ m => nomatch m
      · cases hg'
    | _ => cases hg
  | lst m a =>
    cases dy with
    | lst n b =>
      have hg' : (if isImms a = true ∧ isImms b = true ∧ a.length + b.length ≤ sizeLine then some (D.lst .own (a ++ b)) else none) = some d := hg
      split at hg'
      · rename_i h
        cases hg'
        obtain ⟨z1, v1, F1, rfl, s1, rs1, _⟩ := read_any r1
        obtain ⟨z2, v2, F2, rfl, s2, rs2, _⟩ := read_any r2
        have e1 := rs1.immF h.1
        have e2 := rs2.immF h.2.1
        subst e1 e2
        have l1 := rs1.len
        have l2 := rs2.len
        exact .inr (.inr (.inr ⟨z1, z2, v1, v2, rfl, rfl, s1, s2, by omega, new_lst (rs1.append0 rs2) q⟩))
      · cases hg'
    | _ => cases hg
  | _ => cases hg
/-! ### * -/
/-- a text so many times -/
def rRepS : R2 := fun x y H Q => ∃ (a : Str) (k : Int), x = .str a ∧ y = .int k ∧ 0 ≤ k ∧ k ≤ 1000 ∧ a.length ≤ 1000 ∧ Q (.str ⟨(List.replicate k.toNat a.cps.toList).flatten.toArray⟩) H
theorem flat_arr (a : Array Nat) : ∀ (k : Nat) (acc : List Nat), List.foldl (fun x1 x2 => x1 ++ x2) acc.toArray (List.replicate k a) = (acc ++ (List.replicate k a.toList).flatten).toArray
  | 0, acc => by simp
  | k + 1, acc => by
    rw [List.replicate_succ, List.foldl_cons]
    have : acc.toArray ++ a = (acc ++ a.toList).toArray := by
      apply Array.toList_inj.mp
      simp
    rw [this, flat_arr a k, List.replicate_succ, List.flatten_cons, List.append_assoc]
theorem op_repS : OpR X (binaryOp .Mult) rRepS := by
  intro pins s σ H x y v u Q I rx ry h
  obtain ⟨a, k, rfl, rfl, h0, h1, hl, q⟩ := h
  obtain ⟨t, rfl⟩ := rx
  obtain ⟨t', rfl⟩ := ry
  have hmul : a.length * k.toNat ≤ 1000 * 1000 := Nat.mul_le_mul hl (by omega)
  refine P.mul_str ?_ (fun h2 _ => ?_) (fun _ _ => ?_) ?_
  · rw [decide_eq_false (by omega), decide_eq_false (by omega)]; rfl
  · have : (1000 : Int) ≤ (2 ^ 63 - 1) / k := by
      refine Int.le_ediv_of_mul_le (by omega) ?_
      omega
    omega
  · show decide _ = false
    refine decide_eq_false ?_
    have : (sizeLine : Nat) = 16777216 := rfl
    omega
  · split
    · rename_i hk
      have : k = 0 := by omega
      subst this
      exact ⟨by decide, ⟨.str Str.empty, H, I.tok _, ⟨_, rfl⟩, q⟩⟩
    · rename_i hk
      split
      · rename_i hk2
        rw [Bool.or_eq_true] at hk2
        have e : (⟨(List.replicate k.toNat a.cps.toList).flatten.toArray⟩ : Str) = a := by
          rcases hk2 with z | z
          · have : k = 1 := by simpa using z
            subst this
            show (⟨((List.replicate 1 a.cps.toList).flatten).toArray⟩ : Str) = a
            simp
          · have : a.cps = #[] := by
              have z' : a.cps.size = 0 := by simpa [Str.length] using z
              exact Array.size_eq_zero_iff.mp z'
            cases a with
            | mk c =>
              simp only at this
              subst this
              simp
        rw [e] at q
        exact ⟨.str a, H, I, ⟨_, rfl⟩, q⟩
      · have e := flat_arr a.cps k.toNat []
        simp only [List.nil_append] at e
        refine ⟨?_, ⟨.str _, H, I.tok _, ⟨_, by rw [← e]⟩, q⟩⟩
        rw [e]
        show ((List.replicate k.toNat a.cps.toList).flatten.toArray).size ≤ sizeLine
        rw [List.size_toArray, List.length_flatten, List.map_replicate, List.sum_replicate_nat, Array.length_toList]
        have : (sizeLine : Nat) = 16777216 := rfl
        show k.toNat * a.length ≤ _
        rw [Nat.mul_comm]
        omega
end
end Vs

namespace Vs
open PySem PySem.Spec PyProof.Rows L2
section
variable {X : Cx} {Γ : Gm} {W : Wx} {K : PySem.W.Frag} {p p' fa fb f : Bool} {a b : Expr} {eva evb : SD → R D} {es : List Expr} {evs : SD → R (List D)}
/-- a list that is no frozen one, so many times -/
theorem own_lst {H : Hp} {m : Md} {xs : List D} {v : V} {F : List Addr} (r : Rep K Γ H (.lst m xs) v F) (hm : m ≠ .imm) : ∃ z vs F', v = .ref z ∧ H z = some (.lst vs) ∧ Reps K Γ H xs vs F' := by
  cases m with
  | own =>
    obtain ⟨z, vs, F', rfl, s, rs, rfl⟩ := r
    exact ⟨z, vs, F', rfl, s, rs⟩
  | imm => exact (hm rfl).elim
  | bor =>
    obtain ⟨z, vs, rfl, g, s, rs, rfl⟩ := r
    exact ⟨z, vs, [], rfl, s, rs⟩
abbrev rMulA : R2 := fun x y H Q => (rI CMul (fun i j => .int (i * j)) x y H Q) ∨ ((rI CMulW (fun i j => .int (i * j)) x y H Q) ∨ (rRepS x y H Q ∨ rRep x y H Q))
theorem or_mul : OpR X (binaryOp .Mult) rMulA := OpR.or op_mul (OpR.or op_mulW (OpR.or op_repS op_rep))
open Classical in
noncomputable def gMul1 (x y : D) : Option D := match x, y with
  | .int i, .int j => if CMul i j ∨ CMulW i j then some (.int (i * j)) else none
  | .lst m a, .int k => if isImms a = true ∧ m ≠ .imm ∧ -(2 ^ 63) ≤ k ∧ k < 2 ^ 63 ∧ a.length * k.toNat ≤ sizeLine then some (.lst .own (List.replicate k.toNat a).flatten) else none
  | .str a, .int k => if 0 ≤ k ∧ k ≤ 1000 ∧ a.length ≤ 1000 then some (.str ⟨(List.replicate k.toNat a.cps.toList).flatten.toArray⟩) else none
  | _, _ => none
theorem os_mul : OpSat K Γ rMulA gMul1 := fun H x y dx dy Fx Fy d Q r1 r2 hg q => by
  cases dx with
  | int i =>
    cases dy with
    | int j =>
      have hg' : (open Classical in if CMul i j ∨ CMulW i j then some (D.int (i * j)) else none) = some d := hg
      split at hg'
      · rename_i h
        cases hg'
        have q' := q (.int (i * j)) H [] ⟨rfl, rfl⟩ List.nodup_nil (Same.refl H) fun _ m => nomatch m
        rcases h with h | h
        · exact .inl ⟨i, j, r1.1, r2.1, h, q'⟩
        · exact .inr (.inl ⟨i, j, r1.1, r2.1, h, q'⟩)
      · cases hg'
    | _ => cases hg
  | str s =>
    cases dy with
    | int k =>
      have hg' : (if 0 ≤ k ∧ k ≤ 1000 ∧ s.length ≤ 1000 then some (D.str ⟨(List.replicate k.toNat s.cps.toList).flatten.toArray⟩) else none) = some d := by
        rw [← hg]; unfold gMul1; simp only
      split at hg'
      · rename_i h
        cases hg'
        exact .inr (.inr (.inl ⟨s, k, r1.1, r2.1, h.1, h.2.1, h.2.2, q _ H [] ⟨rfl, rfl⟩ List.nodup_nil (Same.refl H) fun _ m => nomatch m⟩))
      · cases hg'
    | _ => cases hg
  | lst m s =>
    cases dy with
    | int k =>
      have hg' : (if isImms s = true ∧ m ≠ .imm ∧ -(2 ^ 63) ≤ k ∧ k < 2 ^ 63 ∧ s.length * k.toNat ≤ sizeLine then some (D.lst .own (List.replicate k.toNat s).flatten) else none) = some d := by
        rw [← hg]; unfold gMul1; simp only
      split at hg'
      · rename_i h
        cases hg'
        obtain ⟨z, vs, F', rfl, hz, rs⟩ := own_lst r1 h.2.1
        have e := rs.immF h.1
        subst e
        have l := rs.len
        exact .inr (.inr (.inr ⟨z, k, vs, rfl, r2.1, hz, h.2.2.1, h.2.2.2.1, by rw [← l]; exact h.2.2.2.2, new_lst (rs.rep0 k.toNat) q⟩))
      · cases hg'
    | _ => cases hg
  | _ => cases hg
/-! ### order -/
def gLt (x y : D) : Option D := match x, y with
  | .int i, .int j => some (.bl (decide (i < j)))
  | .str i, .str j => some (.bl (decide (i.cps.toList < j.cps.toList)))
  | _, _ => none
def gLe (x y : D) : Option D := match x, y with
  | .int i, .int j => some (.bl (decide (i ≤ j)))
  | .str i, .str j => some (.bl (!decide (j.cps.toList < i.cps.toList)))
  | _, _ => none
def gGt (x y : D) : Option D := match x, y with
  | .int i, .int j => some (.bl (decide (j < i)))
  | .str i, .str j => some (.bl (decide (j.cps.toList < i.cps.toList)))
  | _, _ => none
def gGe (x y : D) : Option D := match x, y with
  | .int i, .int j => some (.bl (decide (j ≤ i)))
  | .str i, .str j => some (.bl (!decide (i.cps.toList < j.cps.toList)))
  | _, _ => none
abbrev rIS (p : Int → Int → Bool) (q : Str → Str → Bool) : R2 := fun x y H Q => (rI0 (fun i j => .bl (p i j)) x y H Q) ∨ (∃ i j, x = .str i ∧ y = .str j ∧ Q (.bl (q i j)) H)
theorem os_is {p : Int → Int → Bool} {q : Str → Str → Bool} {g : D → D → Option D} (hg : ∀ x y d, g x y = some d → (∃ i j, x = .int i ∧ y = .int j ∧ d = .bl (p i j)) ∨ ∃ i j, x = .str i ∧ y = .str j ∧ d = .bl (q i j)) : OpSat K Γ (rIS p q) g := os_scalar fun H x y dx dy Fx Fy d Q r1 r2 h => by
  rcases hg dx dy d h with ⟨i, j, rfl, rfl, rfl⟩ | ⟨i, j, rfl, rfl, rfl⟩
  · exact ⟨_, fun _ => ⟨rfl, rfl⟩, fun q => .inl ⟨i, j, r1.1, r2.1, q⟩⟩
  · exact ⟨_, fun _ => ⟨rfl, rfl⟩, fun q => .inr ⟨i, j, r1.1, r2.1, q⟩⟩
theorem or_lt : OpR X (compareOp .Lt) (rIS (fun i j => decide (i < j)) fun i j => decide (i.cps.toList < j.cps.toList)) := OpR.or op_lt op_lt_str
theorem or_le : OpR X (compareOp .LtE) (rIS (fun i j => decide (i ≤ j)) fun i j => !decide (j.cps.toList < i.cps.toList)) := OpR.or op_le op_le_str
theorem or_gt : OpR X (compareOp .Gt) (rIS (fun i j => decide (j < i)) fun i j => decide (j.cps.toList < i.cps.toList)) := OpR.or op_gt op_gt_str
theorem or_ge : OpR X (compareOp .GtE) (rIS (fun i j => decide (j ≤ i)) fun i j => !decide (i.cps.toList < j.cps.toList)) := OpR.or op_ge op_ge_str
theorem os_lt : OpSat K Γ (rIS (fun i j => decide (i < j)) fun i j => decide (i.cps.toList < j.cps.toList)) gLt := os_is fun x y d h => by
  cases x with
  | int i => cases y with
    | int j => cases h; exact .inl ⟨i, j, rfl, rfl, rfl⟩
    | _ => cases h
  | str i => cases y with
    | str j => cases h; exact .inr ⟨i, j, rfl, rfl, rfl⟩
    | _ => cases h
  | _ => cases h
theorem os_le : OpSat K Γ (rIS (fun i j => decide (i ≤ j)) fun i j => !decide (j.cps.toList < i.cps.toList)) gLe := os_is fun x y d h => by
  cases x with
  | int i => cases y with
    | int j => cases h; exact .inl ⟨i, j, rfl, rfl, rfl⟩
    | _ => cases h
  | str i => cases y with
    | str j => cases h; exact .inr ⟨i, j, rfl, rfl, rfl⟩
    | _ => cases h
  | _ => cases h
theorem os_gt : OpSat K Γ (rIS (fun i j => decide (j < i)) fun i j => decide (j.cps.toList < i.cps.toList)) gGt := os_is fun x y d h => by
  cases x with
  | int i => cases y with
    | int j => cases h; exact .inl ⟨i, j, rfl, rfl, rfl⟩
    | _ => cases h
  | str i => cases y with
    | str j => cases h; exact .inr ⟨i, j, rfl, rfl, rfl⟩
    | _ => cases h
  | _ => cases h
theorem os_ge : OpSat K Γ (rIS (fun i j => decide (j ≤ i)) fun i j => !decide (i.cps.toList < j.cps.toList)) gGe := os_is fun x y d h => by
  cases x with
  | int i => cases y with
    | int j => cases h; exact .inl ⟨i, j, rfl, rfl, rfl⟩
    | _ => cases h
  | str i => cases y with
    | str j => cases h; exact .inr ⟨i, j, rfl, rfl, rfl⟩
    | _ => cases h
  | _ => cases h
/-! ### is None -/
def isNon : D → Bool
  | .non => true
  | _ => false
def gIsN (x y : D) : Option D := match y with
  | .non => some (.bl (isNon x))
  | _ => none
def gNotN (x y : D) : Option D := match y with
  | .non => some (.bl (!isNon x))
  | _ => none
theorem rep_non {H : Hp} {d : D} {v : V} {F : List Addr} (r : Rep K Γ H d v F) : decide (v = .non) = isNon d := by
  cases d with
  | non => rw [r.1]; rfl
  | bl b => rw [r.1]; rfl
  | int b => rw [r.1]; rfl
  | str b => rw [r.1]; rfl
  | tup xs => obtain ⟨z, vs, rfl, _⟩ := r; rfl
  | tx xs => obtain ⟨z, vs, rfl, _⟩ := r; rfl
  | lst m xs => obtain ⟨z, vs, F', rfl, _⟩ := read_any r; rfl
  | dic m kvs =>
    cases m with
    | own => obtain ⟨z, vs, rfl, _⟩ := r; rfl
    | imm => obtain ⟨z, vs, o, rfl, _⟩ := r; rfl
    | bor => obtain ⟨z, vs, rfl, _⟩ := r; rfl
  | obj m c fs => exact r.elim
  | exn c => exact r.elim
theorem os_isN : OpSat K Γ (fun x y H Q => y = .non ∧ Q (.bl (decide (x = .non))) H) gIsN := os_scalar fun H x y dx dy Fx Fy d Q r1 r2 h => by
  cases dy with
  | non => cases h; exact ⟨_, fun _ => ⟨rfl, rfl⟩, fun q => ⟨r2.1, by rw [rep_non r1]; exact q⟩⟩
  | _ => cases h
theorem os_notN : OpSat K Γ (fun x y H Q => y = .non ∧ Q (.bl (!decide (x = .non))) H) gNotN := os_scalar fun H x y dx dy Fx Fy d Q r1 r2 h => by
  cases dy with
  | non => cases h; exact ⟨_, fun _ => ⟨rfl, rfl⟩, fun q => ⟨r2.1, by rw [rep_non r1]; exact q⟩⟩
  | _ => cases h
/-! ### in -/
def flatD : D → Bool
  | .non => true | .bl _ => true | .int _ => true | .str _ => true
  | _ => false
def seqOf : D → Option (List D)
  | .tup xs => some xs
  | .lst _ xs => some xs
  | _ => none
def gIn (neg : Bool) (x y : D) : Option D := match y with
  | .str z => (match x with
    | .str c => if c.cps.size = 1 then some (.bl (xor neg (decide (c.cps.getD 0 0 ∈ z.cps.toList)))) else none
    | _ => none)
  | y => (match seqOf y with
    | some xs => if (flatD x && xs.all flatD) = true then some (.bl (xor neg (xs.any fun y => eqD y x))) else none
    | none => none)
theorem rep_flat {H : Hp} {d : D} {v : V} {F : List Addr} (r : Rep K Γ H d v F) (h : flatD d = true) : flatV v = true := by
  cases d with
  | non => rw [r.1]; rfl
  | bl b => rw [r.1]; rfl
  | int b => rw [r.1]; rfl
  | str b => rw [r.1]; rfl
  | _ => cases h
theorem reps_flat {H : Hp} : ∀ {ds : List D} {vs : List V} {F : List Addr}, Reps K Γ H ds vs F → ds.all flatD = true → vs.all flatV = true
  | [], [], _, _, _ => rfl
  | d :: ds, v :: vs, F, h, k => by
    obtain ⟨F1, F2, _, r, rs⟩ := h
    rw [List.all_cons, Bool.and_eq_true] at k ⊢
    exact ⟨rep_flat r k.1, reps_flat rs k.2⟩
  | [], _ :: _, _, h, _ => h.elim
  | _ :: _, [], _, h, _ => h.elim
theorem eqV_eqD {H : Hp} {d e : D} {v u : V} {F F' : List Addr} (r : Rep K Γ H d v F) (q : Rep K Γ H e u F') (h : flatD d = true) (h' : flatD e = true) : eqV v u = eqD d e := by
  cases d <;> first | (cases h; done) | (cases e <;> first | (cases h'; done) | (rw [r.1, q.1]; rfl))
theorem inV_any {H : Hp} {x : D} {u : V} {Fx : List Addr} (rx : Rep K Γ H x u Fx) (hx : flatD x = true) : ∀ {ds : List D} {vs : List V} {F : List Addr}, Reps K Γ H ds vs F → ds.all flatD = true → inV u vs = ds.any fun y => eqD y x
  | [], [], _, _, _ => rfl
  | d :: ds, v :: vs, F, h, k => by
    obtain ⟨F1, F2, _, r, rs⟩ := h
    rw [List.all_cons, Bool.and_eq_true] at k
    show (eqV v u || inV u vs) = (eqD d x || ds.any fun y => eqD y x)
    rw [eqV_eqD r rx k.1 hx, inV_any rx hx rs k.2]
  | [], _ :: _, _, h, _ => h.elim
  | _ :: _, [], _, h, _ => h.elim
abbrev rInA (K : PySem.W.Frag) (neg : Bool) : R2 := fun x y H Q => (rIn K neg x y H Q) ∨ (∃ (c : Nat) (z : Str), x = .str ⟨#[c]⟩ ∧ y = .str z ∧ Q (.bl (xor neg (decide (c ∈ z.cps.toList)))) H)
theorem or_in : OpR X (compareOp .In) (rInA X.K false) := OpR.or op_in_seq (fun pins s σ H x y v u Q I rx ry ⟨c, z, e1, e2, q⟩ => op_in_sign pins s σ H x y v u Q I rx ry ⟨c, z, e1, e2, by simpa using q⟩)
theorem or_notIn : OpR X (compareOp .NotIn) (rInA X.K true) := OpR.or op_notIn_seq (fun pins s σ H x y v u Q I rx ry ⟨c, z, e1, e2, q⟩ => op_notIn_sign pins s σ H x y v u Q I rx ry ⟨c, z, e1, e2, by simpa using q⟩)
theorem os_in {neg : Bool} : OpSat K Γ (rInA K neg) (gIn neg) := os_scalar fun H x y dx dy Fx Fy d Q r1 r2 h => by
  have seq : ∀ xs, seqOf dy = some xs → (if (flatD dx && xs.all flatD) = true then some (D.bl (xor neg (xs.any fun y => eqD y dx))) else none) = some d → ∃ v, (∀ H', Rep K Γ H' d v []) ∧ (Q v H → rInA K neg x y H Q) := fun xs hs h => by
    split at h
    · rename_i hh
      cases h
      rw [Bool.and_eq_true] at hh
      refine ⟨_, fun _ => ⟨rfl, rfl⟩, fun q => .inl ?_⟩
      have fin : ∀ vs F, Reps K Γ H xs vs F → (if neg = true then !inV x vs else inV x vs) = xor neg (xs.any fun y => eqD y dx) := fun vs F rs => by
        rw [inV_any r1 hh.1 rs hh.2]
        cases neg <;> simp
      cases dy with
      | tup ys =>
        cases hs
        obtain ⟨z, vs, rfl, s, rs, _⟩ := r2
        exact ⟨z, vs, rfl, .inr s, rep_flat r1 hh.1, reps_flat rs hh.2, by rw [fin vs _ rs]; exact q⟩
      | lst m ys =>
        cases hs
        obtain ⟨z, vs, F', rfl, s, rs, _⟩ := read_any r2
        exact ⟨z, vs, rfl, .inl s, rep_flat r1 hh.1, reps_flat rs hh.2, by rw [fin vs _ rs]; exact q⟩
      | _ => cases hs
    · cases h
  cases dy with
  | str z =>
    cases dx with
    | str c =>
      have h' : (if c.cps.size = 1 then some (D.bl (xor neg (decide (c.cps.getD 0 0 ∈ z.cps.toList)))) else none) = some d := h
      split at h'
      · rename_i hs
        cases h'
        have e : c = ⟨#[c.cps.getD 0 0]⟩ := by
          cases c with
          | mk cs =>
            simp only at hs ⊢
            congr 1
            apply Array.ext
            · simpa using hs
            · intro i h1 h2
              have : i = 0 := by omega
              subst this
              simp [Array.getD, h1]
        exact ⟨_, fun _ => ⟨rfl, rfl⟩, fun q => .inr ⟨c.cps.getD 0 0, z, by rw [r1.1]; exact congrArg V.str e, r2.1, q⟩⟩
      · cases h'
    | _ => cases h
  | tup ys => exact seq ys rfl h
  | lst m ys => exact seq ys rfl h
  | _ => cases h
/-! ### items -/
def gIx (x y : D) : Option D := match y with
  | .int i => (match x with
    | .str z => if z.length ≤ sizeLine then (atI z.cps.toList i).map fun c => .str ⟨#[c]⟩ else none
    | x => (match seqOf x with
      | some xs => (match atI xs i with
        | some d => if isImm d = true then some d else none
        | none => none)
      | none => none))
  | _ => none
theorem j_sub {r : R2} {g : D → D → Option D} {pos : Pos} (hr : IxR X r) (hs : OpSat X.K Γ r g) (ha : J X Γ W p fa a eva) (hb : J X Γ W p' fb b evb) (hx : PlainIx b := by exact fun _ _ => rfl) (hpf : (p' || fa) = true := by rfl) :
    J X Γ W (p && p') true (.Subscript a b pos) (eBin g eva evb) := by
  obtain ⟨ta, pa, sa⟩ := ha.ex
  obtain ⟨tb, pb, sb⟩ := hb.ex
  refine ⟨_, pe_ix hr pa pb hx, fun σ H env fp re Q h => ?_⟩
  refine sat2 sa sb hpf re h (fun c e z H' fp' r' f' => z H' fp' r' f') fun da db e2 x y H2 fp2 Fa Fb t q => ?_
  obtain ⟨d, hg, q⟩ := hold_opt q
  refine hs H2 x y da db Fa Fb d Q t.ra t.rb hg fun v H3 Fr r3 n3 sm nw => q v H3 fp2 Fr ⟨t.re.same sm, r3, n3, t.fm.trans (Fm.same sm), fun z m => t.fm.back (.inr (nw z m)), fun z => ?_, fun _ z m i => t.re.fresh (nw z m) i⟩
  obtain ⟨q1, q2, q3⟩ := t.pu z
  exact ⟨q1, q2, q3.trans sm⟩
theorem atI_map {α β : Type} {xs : List α} {ys : List β} {i : Int} {x : α} (hl : xs.length = ys.length) (h : atI xs i = some x) : ∃ j : Nat, xs[j]? = some x ∧ ∀ y, ys[j]? = some y → atI ys i = some y := by
  unfold atI at h ⊢
  rw [← hl]
  obtain ⟨j, h1, h2⟩ := Option.bind_eq_some_iff.mp h
  exact ⟨j, h2, fun y hy => by rw [h1]; exact hy⟩
theorem os_ix : OpSat K Γ (rIx K) gIx := fun H x y dx dy Fx Fy d Q r1 r2 h q => by
  have fin : ∀ v, Rep K Γ H d v [] → Q v H := fun v r => q v H [] r List.nodup_nil (Same.refl H) fun _ m => nomatch m
  cases dy with
  | int i =>
    have seq : ∀ xs, seqOf dx = some xs → (match atI xs i with | some d => if isImm d = true then some d else none | none => none) = some d → rIx K x y H Q := fun xs hs h => by
      cases ha : atI xs i with
      | none => rw [ha] at h; cases h
      | some d' =>
        rw [ha] at h
        have h' : (if isImm d' = true then some d' else none) = some d := h
        split at h'
        · rename_i hi
          cases h'
          cases dx with
          | tup ys =>
            cases hs
            obtain ⟨z, vs, rfl, s, rs, _⟩ := r1
            obtain ⟨j, h1, h2⟩ := atI_map rs.len ha
            obtain ⟨v, g1, g2⟩ := rs.get0 h1
            exact .inr (.inl ⟨z, vs, i, v, rfl, r2.1, s, h2 v g1, fin v g2⟩)
          | lst m ys =>
            cases hs
            obtain ⟨z, vs, F', rfl, s, rs, _⟩ := read_any r1
            obtain ⟨j, h1, h2⟩ := atI_map rs.len ha
            obtain ⟨v, F2, g1, g2, _, _⟩ := rs.get h1
            have e := g2.immF hi
            subst e
            exact .inl ⟨z, vs, i, v, rfl, r2.1, s, h2 v g1, fin v g2⟩
          | _ => cases hs
        · cases h'
    cases dx with
    | str z =>
      have h' : (if z.length ≤ sizeLine then (atI z.cps.toList i).map fun c => D.str ⟨#[c]⟩ else none) = some d := h
      split at h'
      · rename_i hz
        obtain ⟨c, hc, rfl⟩ := Option.map_eq_some_iff.mp h'
        exact .inr (.inr ⟨z, i, c, r1.1, r2.1, hz, hc, fin _ ⟨rfl, rfl⟩⟩)
      · cases h'
    | tup ys => exact seq ys rfl h
    | lst m ys => exact seq ys rfl h
    | _ => cases h
  | _ => cases h
/-- an item that may be written by its holder: read alone -/
def gIxA (x y : D) : Option D := match y with
  | .int i => (match seqOf x with
    | some xs => atI xs i
    | none => none)
  | _ => none
theorem j_subA {pos : Pos} (ha : J X Γ W true fa a eva) (hb : J X Γ W true fb b evb) (hx : PlainIx b := by exact fun _ _ => rfl) : J X Γ W true false (.Subscript a b pos) (eBin gIxA eva evb) := by
  obtain ⟨ta, pa, sa⟩ := ha.ex
  obtain ⟨tb, pb, sb⟩ := hb.ex
  refine ⟨_, pe_ix ix_seq pa pb hx, fun σ H env fp re Q h => ?_⟩
  refine sat2 sa sb rfl re h (fun c e z H' fp' r' f' => z H' fp' r' f') fun da db e2 x y H2 fp2 Fa Fb t q => ?_
  obtain ⟨d, hg, q⟩ := hold_opt q
  have fin : ∀ v F', Rep X.K Γ H2 d v F' → F'.Nodup → (∀ z ∈ F', z ∈ Fa) → Q v H2 := fun v F' r n m => q v H2 fp2 F' ⟨t.re, r, n, t.fm, fun z hz => t.na z (m z hz), t.pu, fun z => nomatch z⟩
  cases db with
  | int i =>
    cases da with
    | tup ys =>
      obtain ⟨z, vs, rfl, s, rs, _⟩ := t.ra
      obtain ⟨j, h1, h2⟩ := atI_map rs.len (show atI ys i = some d from hg)
      obtain ⟨v, g1, g2⟩ := rs.get0 h1
      exact .inr (.inl ⟨z, vs, i, v, rfl, t.rb.1, s, h2 v g1, fin v [] g2 List.nodup_nil fun _ m => nomatch m⟩)
    | lst m ys =>
      cases m with
      | own =>
        obtain ⟨z, vs, F', rfl, s, rs, eF⟩ := t.ra
        obtain ⟨j, h1, h2⟩ := atI_map rs.len (show atI ys i = some d from hg)
        obtain ⟨v, F2, g1, g2, g3, g4⟩ := rs.get h1
        have nd := t.nda
        rw [eF] at nd
        exact .inl ⟨z, vs, i, v, rfl, t.rb.1, SqL.of s, h2 v g1, fin v F2 g2 (g4 (List.nodup_cons.mp nd).2) fun w m => by rw [eF]; exact List.mem_cons_of_mem _ (g3 w m)⟩
      | imm =>
        obtain ⟨z, vs, rfl, s, rs, _⟩ := t.ra
        obtain ⟨j, h1, h2⟩ := atI_map rs.len (show atI ys i = some d from hg)
        obtain ⟨v, g1, g2⟩ := rs.get0 h1
        exact .inl ⟨z, vs, i, v, rfl, t.rb.1, s.sq, h2 v g1, fin v [] g2 List.nodup_nil fun _ m => nomatch m⟩
      | bor =>
        obtain ⟨z, vs, rfl, g, s, rs, _⟩ := t.ra
        obtain ⟨j, h1, h2⟩ := atI_map rs.len (show atI ys i = some d from hg)
        obtain ⟨v, g1, g2⟩ := rs.get0 h1
        exact .inl ⟨z, vs, i, v, rfl, t.rb.1, SqL.of s, h2 v g1, fin v [] g2 List.nodup_nil fun _ m => nomatch m⟩
    | _ => cases hg
  | _ => cases hg
/-! ### slices -/
structure JO (X : Cx) (Γ : Gm) (W : Wx) (p : Bool) (e : Option Expr) (ev : SD → R (Option Int)) : Prop where
  ex : ∃ t, PO X e t ∧ ∀ σ H env fp, RE X.K Γ H σ env fp → ∀ Q : Option Int → Hp → Prop, hold (ev env) (fun o env' => ∀ H' fp', RE X.K Γ H' σ env' fp' → Fm H fp H' fp' → (p = true → env' = env ∧ fp' = fp ∧ Same H H') → Q o H')
    (fun c env' => ∀ H' fp', RE X.K Γ H' σ env' fp' → Fm H fp H' fp' → W c σ H') → t σ H Q
def oNone : SD → R (Option Int) := fun env => .ok none env
def oSome (ev : SD → R D) : SD → R (Option Int) := fun env => (ev env).bind fun d e => match d with
  | .int i => .ok (some i) e
  | _ => .bad
theorem jo_none : JO X Γ W true none oNone := ⟨_, po_none, fun σ H env fp re Q q => q H fp re Fm.refl fun _ => ⟨rfl, rfl, Same.refl H⟩⟩
theorem jo_some (h : J X Γ W p f a eva) : JO X Γ W p (some a) (oSome eva) := by
  obtain ⟨t, pe, s⟩ := h.ex
  refine ⟨_, po_some pe, fun σ H env fp re Q q => s σ H env fp re _ (hold_mono (hold_bind q) (fun d e k v H' fp' Fr o => ?_) fun _ _ z => z)⟩
  cases d with
  | int i => exact ⟨i, o.rep.1, k H' fp' o.re o.fm o.pu⟩
  | _ => exact k.elim
def cutD (xs : List D) (lo hi : Option Int) : List D := (xs.drop (HT.sIx xs.length 0 lo)).take (HT.sIx xs.length xs.length hi - HT.sIx xs.length 0 lo)
def gSl (x : D) (lo hi : Option Int) : Option D := match x with
  | .str z => if z.length ≤ sizeLine then some (.str (cutS z lo hi)) else none
  | .tup xs => some (.tup (cutD xs lo hi))
  | .lst _ xs => if isImms xs = true then some (.lst .own (cutD xs lo hi)) else none
  | _ => none
def eSl (a : SD → R D) (lo hi : SD → R (Option Int)) : SD → R D := fun env => (a env).bind fun x e1 => (lo e1).bind fun l e2 => (hi e2).bind fun h e3 => R.opt (gSl x l h) e3
theorem reps_cut {H : Hp} {xs : List D} {vs : List V} (rs : Reps K Γ H xs vs []) (lo hi : Option Int) : Reps K Γ H (cutD xs lo hi) (cutV vs lo hi) [] := by
  unfold cutD cutV
  rw [rs.len]
  exact (rs.drop0 _).take0 _
abbrev rSlAll (K : PySem.W.Frag) : V → Option Int → Option Int → Hp → VK → Prop := fun x lo hi H Q => rSlS x lo hi H Q ∨ (rSlA K x lo hi H Q ∨ rSlL K x lo hi H Q)
theorem sl_all : SlR X (rSlAll X.K) := SlR.or sl_str (SlR.or sl_tupA sl_list)
theorem cut_whole {xs : List D} {lo hi : Option Int} (h : HT.sIx xs.length 0 lo = 0 ∧ HT.sIx xs.length xs.length hi = xs.length) : cutD xs lo hi = xs := by
  unfold cutD
  rw [h.1, h.2]
  simp
theorem sl_ok {H : Hp} {x : V} {d d' : D} {F : List Addr} {lo hi : Option Int} {Q : VK} (r : Rep K Γ H d x F) (hg : gSl d lo hi = some d') (q : ∀ v H' Fr, Rep K Γ H' d' v Fr → Fr.Nodup → Same H H' → (∀ z ∈ Fr, H z = none) → Q v H') : rSlAll K x lo hi H Q := by
  cases d with
  | str z =>
    have hg' : (if z.length ≤ sizeLine then some (D.str (cutS z lo hi)) else none) = some d' := hg
    split at hg'
    · rename_i hz
      cases hg'
      exact .inl ⟨z, r.1, hz, q _ H [] ⟨rfl, rfl⟩ List.nodup_nil (Same.refl H) fun _ m => nomatch m⟩
    · cases hg'
  | tup xs =>
    cases hg
    obtain ⟨z, vs, rfl, s, rs, _⟩ := r
    refine .inr (.inl ⟨z, vs, rfl, s, fun hw => ?_, fun _ => new_tup (reps_cut rs lo hi) q⟩)
    have e : cutD xs lo hi = xs := cut_whole (by rw [rs.len]; exact hw)
    rw [e] at q
    exact q _ H [] ⟨z, vs, rfl, s, rs, rfl⟩ List.nodup_nil (Same.refl H) fun _ m => nomatch m
  | lst m xs =>
    have hg' : (if isImms xs = true then some (D.lst .own (cutD xs lo hi)) else none) = some d' := hg
    split at hg'
    · rename_i hi'
      cases hg'
      obtain ⟨z, vs, F', rfl, s, rs, _⟩ := read_any r
      have e := rs.immF hi'
      subst e
      exact .inr (.inr ⟨z, vs, rfl, s, new_lst (reps_cut rs lo hi) q⟩)
    · cases hg'
  | _ => cases hg
theorem j_sl {lo hi : Option Expr} {evl evh : SD → R (Option Int)} {pl ph : Bool} {pos p2 : Pos} (ha : J X Γ W p fa a eva) (hl : JO X Γ W pl lo evl) (hh : JO X Γ W ph hi evh) (hpf : ((pl && ph) || fa) = true := by rfl) :
    J X Γ W (p && (pl && ph)) true (.Subscript a (.Slice lo hi none p2) pos) (eSl eva evl evh) := by
  obtain ⟨ta, pa, sa⟩ := ha.ex
  obtain ⟨tl, pl', sl⟩ := hl.ex
  obtain ⟨th, ph', sh⟩ := hh.ex
  refine ⟨_, pe_slice sl_all pa pl' ph', fun σ H env fp re Q h => ?_⟩
  refine sa σ H env fp re _ (hold_mono (hold_bind h) (fun d e1 k1 x H1 fp1 Fa oa => ?_) fun _ _ z => z)
  refine sl σ H1 e1 fp1 oa.re _ (hold_mono (hold_bind k1) (fun l e2 k2 H2 fp2 re2 fm2 pu2 => ?_) fun c e z H' fp' r' f' => z H' fp' r' (oa.fm.trans f'))
  refine sh σ H2 e2 fp2 re2 _ (hold_mono (hold_bind k2) (fun u e3 k3 H3 fp3 re3 fm3 pu3 => ?_) fun c e z H' fp' r' f' => z H' fp' r' (oa.fm.trans (fm2.trans f')))
  obtain ⟨d', hg, q⟩ := hold_opt k3
  have ra : Rep X.K Γ H3 d x Fa := by
    cases hp : (pl && ph) with
    | true =>
      rw [Bool.and_eq_true] at hp
      exact (oa.rep.same (pu2 hp.1).2.2).same (pu3 hp.2).2.2
    | false =>
      rw [hp] at hpf
      exact oa.rep.held oa.re (fm2.trans fm3) (oa.fr (by simpa using hpf))
  have fmA := oa.fm.trans (fm2.trans fm3)
  refine sl_ok ra hg fun v H4 Fr r4 n4 sm nw => q v H4 fp3 Fr ⟨re3.same sm, r4, n4, fmA.trans (Fm.same sm), fun z m => fmA.back (.inr (nw z m)), fun z => ?_, fun _ z m i => re3.fresh (nw z m) i⟩
  obtain ⟨q1, q2, q3⟩ := pu_and oa.pu (pu_and pu2 pu3) z
  exact ⟨q1, q2, q3.trans sm⟩
end
end Vs

namespace Vs
open PySem PySem.Spec PyProof.Rows L2
section
variable {X : Cx} {Γ : Gm} {W : Wx} {K : PySem.W.Frag} {p p' fa fb f : Bool} {a b : Expr} {eva evb : SD → R D} {es : List Expr} {evs : SD → R (List D)}
/-! ### built-ins of one or two arguments -/
theorem Reps.only {H : Hp} {x : D} {vs : List V} {F : List Addr} (h : Reps K Γ H [x] vs F) : ∃ u, vs = [u] ∧ Rep K Γ H x u F := by
  match vs, h with
  | [u], h =>
    obtain ⟨F1, F2, e, r1, e2⟩ := h
    have e2' : F2 = [] := e2
    subst e2'
    rw [List.append_nil] at e
    subst e
    exact ⟨u, rfl, r1⟩
  | u :: v :: w, h =>
    obtain ⟨F1, F2, _, r1, r2⟩ := h
    exact r2.elim
def g1 (g : D → Option D) : List D → Option D := fun ds => match ds with
  | [d] => g d
  | _ => none
def g2 (g : D → D → Option D) : List D → Option D := fun ds => match ds with
  | [x, y] => g x y
  | _ => none
theorem cs_1 {r : List V → Hp → VK → Prop} {g : D → Option D} (h : ∀ (H : Hp) (x : V) (d : D) (F : List Addr) (d' : D) (Q : VK), Rep K Γ H d x F → g d = some d' → (∀ v H' Fr, Rep K Γ H' d' v Fr → Fr.Nodup → Same H H' → (∀ z ∈ Fr, H z = none) → Q v H') → r [x] H Q) : CallSat K Γ r (g1 g) := fun H xs dx Fx d Q rs hg q => by
  match dx, rs, hg with
  | [x], rs, hg =>
    obtain ⟨u, rfl, r⟩ := rs.only
    exact h H u x Fx d Q r hg q
theorem cs_2 {r : List V → Hp → VK → Prop} {g : D → D → Option D} (h : ∀ (H : Hp) (x y : V) (d e : D) (F F' : List Addr) (d' : D) (Q : VK), Rep K Γ H d x F → Rep K Γ H e y F' → g d e = some d' → (∀ v H' Fr, Rep K Γ H' d' v Fr → Fr.Nodup → Same H H' → (∀ z ∈ Fr, H z = none) → Q v H') → r [x, y] H Q) : CallSat K Γ r (g2 g) := fun H xs dx Fx d Q rs hg q => by
  match dx, rs, hg with
  | [x, y], rs, hg =>
    obtain ⟨u, v, F1, F2, rfl, r1, r2⟩ := Reps.two rs
    exact h H u v x y F1 F2 d Q r1 r2 hg q
theorem scal_q {H : Hp} {d : D} {v : V} {Q : VK} (q : ∀ v H' Fr, Rep K Γ H' d v Fr → Fr.Nodup → Same H H' → (∀ z ∈ Fr, H z = none) → Q v H') (r : Rep K Γ H d v []) : Q v H := q v H [] r List.nodup_nil (Same.refl H) fun _ m => nomatch m
def gLen (d : D) : Option D := match d with
  | .str z => if z.length ≤ sizeLine then some (.int (z.length : Nat)) else none
  | .tup xs => some (.int (xs.length : Nat))
  | .lst _ xs => some (.int (xs.length : Nat))
  | _ => none
theorem cs_len : CallSat K Γ (fun xs H Q => ∃ x n, xs = [x] ∧ LenV K x H n ∧ Q (.int n) H) (g1 gLen) := cs_1 fun H x d F d' Q r hg q => by
  cases d with
  | str z =>
    have hg' : (if z.length ≤ sizeLine then some (D.int (z.length : Nat)) else none) = some d' := hg
    split at hg'
    · rename_i hz
      cases hg'
      obtain ⟨rfl, _⟩ := r
      exact ⟨_, z.length, rfl, ⟨hz, rfl⟩, scal_q q ⟨rfl, rfl⟩⟩
    · cases hg'
  | tup xs =>
    cases hg
    obtain ⟨z, vs, rfl, s, rs, _⟩ := r
    exact ⟨_, vs.length, rfl, .inr ⟨vs, s, rfl⟩, by rw [← rs.len]; exact scal_q q ⟨rfl, rfl⟩⟩
  | lst m xs =>
    cases hg
    obtain ⟨z, vs, F', rfl, s, rs, _⟩ := read_any r
    exact ⟨_, vs.length, rfl, .inl ⟨vs, s, rfl⟩, by rw [← rs.len]; exact scal_q q ⟨rfl, rfl⟩⟩
  | _ => cases hg
def gAbs (d : D) : Option D := match d with
  | .int i => some (.int (if i < 0 then -i else i))
  | _ => none
theorem cs_abs : CallSat K Γ (fun xs H Q => ∃ i, xs = [.int i] ∧ Q (.int (if i < 0 then -i else i)) H) (g1 gAbs) := cs_1 fun H x d F d' Q r hg q => by
  cases d with
  | int i => cases hg; obtain ⟨rfl, _⟩ := r; exact ⟨i, rfl, scal_q q ⟨rfl, rfl⟩⟩
  | _ => cases hg
def gMax2 (x y : D) : Option D := match x, y with
  | .int i, .int j => some (.int (if j > i then j else i))
  | _, _ => none
def gMin2 (x y : D) : Option D := match x, y with
  | .int i, .int j => some (.int (if j < i then j else i))
  | _, _ => none
theorem cs_max2 : CallSat K Γ (fun xs H Q => ∃ i j, xs = [.int i, .int j] ∧ Q (.int (if j > i then j else i)) H) (g2 gMax2) := cs_2 fun H x y d e F F' d' Q r1 r2 hg q => by
  cases d with
  | int i => cases e with
    | int j => cases hg; obtain ⟨rfl, _⟩ := r1; obtain ⟨rfl, _⟩ := r2; exact ⟨i, j, rfl, scal_q q ⟨rfl, rfl⟩⟩
    | _ => cases hg
  | _ => cases hg
theorem cs_min2 : CallSat K Γ (fun xs H Q => ∃ i j, xs = [.int i, .int j] ∧ Q (.int (if j < i then j else i)) H) (g2 gMin2) := cs_2 fun H x y d e F F' d' Q r1 r2 hg q => by
  cases d with
  | int i => cases e with
    | int j => cases hg; obtain ⟨rfl, _⟩ := r1; obtain ⟨rfl, _⟩ := r2; exact ⟨i, j, rfl, scal_q q ⟨rfl, rfl⟩⟩
    | _ => cases hg
  | _ => cases hg
def gInt (d : D) : Option D := match d with
  | .int i => some (.int i)
  | .bl k => some (.int (if k then 1 else 0))
  | _ => none
theorem cs_int : CallSat K Γ (fun xs H Q => (∃ i, xs = [.int i] ∧ Q (.int i) H) ∨ ∃ k, xs = [.bl k] ∧ Q (.int (if k then 1 else 0)) H) (g1 gInt) := cs_1 fun H x d F d' Q r hg q => by
  cases d with
  | int i => cases hg; obtain ⟨rfl, _⟩ := r; exact .inl ⟨i, rfl, scal_q q ⟨rfl, rfl⟩⟩
  | bl i => cases hg; obtain ⟨rfl, _⟩ := r; exact .inr ⟨i, rfl, scal_q q ⟨rfl, rfl⟩⟩
  | _ => cases hg
def gList (d : D) : Option D := match seqOf d with
  | some xs => if isImms xs = true then some (.lst .own xs) else none
  | none => none
def gTuple (d : D) : Option D := match seqOf d with
  | some xs => if isImms xs = true then some (.tup xs) else none
  | none => none
theorem read_seq {H : Hp} {d : D} {v : V} {F : List Addr} {xs : List D} (r : Rep K Γ H d v F) (h : seqOf d = some xs) (hi : isImms xs = true) : ∃ z vs, v = .ref z ∧ Reps K Γ H xs vs [] ∧ ((SqL K H z vs ∧ ∃ m, d = .lst m xs) ∨ (SqT K H z vs ∧ d = .tup xs)) := by
  cases d with
  | tup ys =>
    cases h
    obtain ⟨z, vs, rfl, s, rs, _⟩ := r
    exact ⟨z, vs, rfl, rs, .inr ⟨s, rfl⟩⟩
  | lst m ys =>
    cases h
    obtain ⟨z, vs, F', rfl, s, rs, _⟩ := read_any r
    have e := rs.immF hi
    subst e
    exact ⟨z, vs, rfl, rs, .inl ⟨s, m, rfl⟩⟩
  | _ => cases h
theorem cs_list : CallSat K Γ (fun xs H Q => ∃ p ys, xs = [.ref p] ∧ (SqL K H p ys ∨ SqT K H p ys) ∧ ∀ l, H l = none → Q (.ref l) (upd H l (.lst ys))) (g1 gList) := cs_1 fun H x d F d' Q r hg q => by
  unfold gList at hg
  cases hs : seqOf d with
  | none => rw [hs] at hg; cases hg
  | some xs =>
    rw [hs] at hg
    have hg' : (if isImms xs = true then some (D.lst .own xs) else none) = some d' := hg
    split at hg'
    · rename_i hi
      cases hg'
      obtain ⟨z, vs, rfl, rs, s⟩ := read_seq r hs hi
      exact ⟨z, vs, rfl, s.imp (·.1) (·.1), new_lst rs q⟩
    · cases hg'
theorem cs_tuple : CallSat K Γ (fun xs H Q => ∃ p ys, xs = [.ref p] ∧ ((SqL K H p ys ∧ ∀ l, H l = none → Q (.ref l) (upd H l (.tup ys))) ∨ (SqT K H p ys ∧ Q (.ref p) H))) (g1 gTuple) := cs_1 fun H x d F d' Q r hg q => by
  unfold gTuple at hg
  cases hs : seqOf d with
  | none => rw [hs] at hg; cases hg
  | some xs =>
    rw [hs] at hg
    have hg' : (if isImms xs = true then some (D.tup xs) else none) = some d' := hg
    split at hg'
    · rename_i hi
      cases hg'
      obtain ⟨z, vs, rfl, rs, s⟩ := read_seq r hs hi
      rcases s with ⟨s, _⟩ | ⟨s, _⟩
      · exact ⟨z, vs, rfl, .inl ⟨s, new_tup rs q⟩⟩
      · exact ⟨z, vs, rfl, .inr ⟨s, scal_q q ⟨z, vs, rfl, s, rs, rfl⟩⟩⟩
    · cases hg'
/-! ### sums -/
def intsOf : List D → Option (List Int)
  | [] => some []
  | .int i :: ds => (intsOf ds).map (i :: ·)
  | _ => none
theorem intsOf_map : ∀ {ds : List D} {ns : List Int}, intsOf ds = some ns → ds = ns.map D.int
  | [], ns, h => by cases h; rfl
  | .int i :: ds, ns, h => by
    obtain ⟨ms, h1, rfl⟩ := Option.map_eq_some_iff.mp h
    rw [intsOf_map h1]; rfl
  | .non :: _, _, h => nomatch h
  | .bl _ :: _, _, h => nomatch h
  | .str _ :: _, _, h => nomatch h
  | .tup _ :: _, _, h => nomatch h
  | .tx _ :: _, _, h => nomatch h
  | .lst _ _ :: _, _, h => nomatch h
  | .dic _ _ :: _, _, h => nomatch h
  | .obj _ _ _ :: _, _, h => nomatch h
  | .exn _ :: _, _, h => nomatch h
@[simp] theorem intsOf_ints : ∀ ns : List Int, intsOf (ns.map D.int) = some ns
  | [] => rfl
  | n :: ns => by show (intsOf (ns.map D.int)).map (n :: ·) = _; rw [intsOf_ints ns]; rfl
def gSum (d : D) : Option D := match d with
  | .lst _ xs => (intsOf xs).map fun ns => .int ns.sum
  | _ => none
theorem cs_sum : CallSat K Γ (rSum K) (g1 gSum) := cs_1 fun H x d F d' Q r hg q => by
  cases d with
  | lst m xs =>
    obtain ⟨ns, h1, rfl⟩ := Option.map_eq_some_iff.mp (show (intsOf xs).map (fun ns => D.int ns.sum) = some d' from hg)
    have e := intsOf_map h1
    subst e
    obtain ⟨z, vs, F', rfl, s, rs, _⟩ := read_any r
    obtain ⟨e1, _⟩ := rs.ints
    subst e1
    exact ⟨z, ns, rfl, s, scal_q q ⟨rfl, rfl⟩⟩
  | _ => cases hg
/-! ### isinstance of a built-in class -/
def tyName : D → Option String
  | .non => some "NoneType" | .bl _ => some "bool" | .int _ => some "int" | .str _ => some "str" | .tup _ => some "tuple" | .lst _ _ => some "list"
  | .dic .bor _ => none | .dic _ _ => some "dict"
  | _ => none
theorem ty_of {H : Hp} {d : D} {v : V} {F : List Addr} {T : String} (r : Rep K Γ H d v F) (h : tyName d = some T) : TyX K H v (.type T) := by
  cases d with
  | non => cases h; rw [r.1]; exact .base .non
  | bl b => cases h; rw [r.1]; exact .base (.bl b)
  | int b => cases h; rw [r.1]; exact .base (.int b)
  | str b => cases h; rw [r.1]; exact .base (.str b)
  | tup xs =>
    cases h
    obtain ⟨z, vs, rfl, s, _⟩ := r
    rcases s with (s | ⟨o, s⟩) | ⟨o, its, n, s1, s2, _⟩
    · exact .base (.tup s)
    · exact .fTuple s
    · exact .kTuple s1 s2
  | lst m xs =>
    cases h
    cases m with
    | own => obtain ⟨z, vs, F', rfl, s, _⟩ := r; exact .base (.lst s)
    | bor => obtain ⟨z, vs, rfl, g, s, _⟩ := r; exact .base (.lst s)
    | imm =>
      obtain ⟨z, vs, rfl, s, _⟩ := r
      rcases s with ⟨o, s⟩ | ⟨o, its, n, s1, s2, _⟩
      · exact .base (.frz s)
      · exact .kList s1 s2
  | dic m kvs =>
    cases m with
    | own => cases h; obtain ⟨z, vs, rfl, s, _⟩ := r; exact .base (.dK s)
    | imm => cases h; obtain ⟨z, vs, o, rfl, s, _⟩ := r; exact .fDict s
    | bor => cases h
  | _ => cases h
def gIsi (T : String) (d : D) : Option D := (tyName d).bind fun t => (kitB t T).map .bl
theorem j_isi {Tn : Str} {T : String} {q q2 pos : Pos} (ha : J X Γ W p fa a eva) (hm : X.mg "isinstance" = none) (hmT : X.mg Tn = none) (hbT : bootBuiltins Tn = some (.type T)) (hg : Gl X "isinstance" := by rfl) (hgT : Gl X Tn := by rfl) (hn : Tn ≠ "__name__" := by decide) (hd : (Tn == ("__debug__" : Str)) = false := by decide)
    (hs : starEach [a, .Name Tn q2] X.env = (false, eval a X.env) :: starEach [.Name Tn q2] X.env := by rfl) (hs2 : starEach [.Name Tn q2] X.env = (false, eval (.Name Tn q2) X.env) :: starEach [] X.env := by rfl)
    (hpl : (backTo pos (starEach [.Name Tn q2] X.env)).any (·.1) = false := by rfl) :
    J X Γ W p true (.Call (.Name "isinstance" q) [a, .Name Tn q2] [] pos) (eUn (gIsi T) eva) := by
  obtain ⟨ta, pa, sa⟩ := ha.ex
  refine ⟨_, pe_callB call_isi hg hm (by decide +kernel) (pa_cons pa (pa_cons (pe_bltn (v := .ty T) hgT hmT hbT rfl hn hd) pa_nil hs2) hs) (by decide) (by decide) hs hpl, fun σ H env fp re Q h => ?_⟩
  refine sa σ H env fp re _ (hold_mono (hold_bind h) (fun da e1 h1 x H1 fp1 Fa oa => ?_) fun c e z => z)
  obtain ⟨d, hgd, k⟩ := hold_opt h1
  obtain ⟨t, h2, h3⟩ := Option.bind_eq_some_iff.mp hgd
  obtain ⟨bb, h4, rfl⟩ := Option.map_eq_some_iff.mp h3
  exact ⟨x, .ty T, .type t, .type T, bb, rfl, .ty T, ty_of oa.rep h2, kit_ty h4, k _ H1 fp1 [] ⟨oa.re, ⟨rfl, rfl⟩, List.nodup_nil, oa.fm, (fun _ m => nomatch m), oa.pu, fun _ _ m => nomatch m⟩⟩

/-! ### freezing what a slot holds -/
def sFreeze (i : Nat) : SD → R Fl := fun env => match env[i]? with
  | some (some (.lst .own xs)) => if isImms xs = true then .ok .nx (env.set i (some (.lst .imm xs))) else .bad
  | _ => .bad
def tPre (t : TS) : TS := fun Z σ H => ∃ d u, H d = some u ∧ Mut (some u) ∧ ∀ od, t Z σ (upd H d (.frz od u))
theorem ps_pre {st : Stmt} {t : TS} (h : PS X st t) : PS X st (tPre t) := by
  refine ⟨fun pins s σ H Z I ⟨d, u, e, mu, q⟩ => ?_⟩
  obtain ⟨od, I2⟩ := I.lock e mu
  exact h.run pins s σ _ Z I2 (q od)
def tPost (t : TS) : TS := fun Z σ H => t { Z with nx := fun σ' H1 => ∃ d u, H1 d = some u ∧ Mut (some u) ∧ ∀ od, Z.nx σ' (upd H1 d (.frz od u)) } σ H
theorem ps_post {st : Stmt} {t : TS} (h : PS X st t) : PS X st (tPost t) := by
  refine ⟨fun pins s σ H Z I q => thn (h.run pins s σ H _ I q) fun fl s1 q1 => ?_⟩
  cases fl with
  | next =>
    obtain ⟨σ', H', I', d, u, e, mu, q'⟩ := q1
    obtain ⟨od, I2⟩ := I'.lock e mu
    exact ⟨σ', _, I2, q' od⟩
  | brk => exact q1
  | cont => exact q1
  | ret u => exact q1
theorem re_freeze {H : Hp} {σ : L2.St} {env : SD} {fp : Fp} {i : Nat} {xs : List D} (re : RE K Γ H σ env fp) (he : env[i]? = some (some (.lst .own xs))) (hi : isImms xs = true) : ∃ z vs, H z = some (.lst vs) ∧ ∀ od, RE K Γ (upd H z (.frz od (.lst vs))) σ (env.set i (some (.lst .imm xs))) (upF fp i []) ∧ Fm H fp (upd H z (.frz od (.lst vs))) (upF fp i []) := by
  obtain ⟨v, hv, z, vs, F', rfl, hz, rs, eF⟩ := re.slot i _ he
  have e0 := rs.immF hi
  subst e0
  have hzi : z ∈ fp i := by rw [eF]; exact List.mem_cons_self
  have gz : ¬ Γ.G z := re.ng i z hzi
  have il : i < env.length := (List.getElem?_eq_some_iff.mp he).1
  refine ⟨z, vs, hz, fun od => ⟨⟨fun j d e => ?_, fun j n => ?_, fun j k y m1 m2 => ?_, fun j => ?_, fun j y m => ?_, re.pin, fun y o g h => ?_, by rw [List.length_set]; exact re.len⟩, ⟨fun y o h n => ?_, fun j y m => ?_⟩⟩⟩
  · by_cases hj : j = i
    · subst hj
      rw [List.getElem?_set_self il] at e
      cases e
      exact ⟨.ref z, hv, by rw [upF_same]; exact ⟨z, vs, rfl, .inl ⟨od, upd_same⟩, rs.ag (ag_frz hz (by simp) gz), rfl⟩⟩
    · rw [List.getElem?_set_ne (Ne.symm hj)] at e
      obtain ⟨w, h1, h2⟩ := re.slot j d e
      exact ⟨w, h1, by rw [upF_ne hj]; exact h2.ag (ag_frz hz (fun m => hj (re.dis j i z m hzi)) gz)⟩
  · by_cases hj : j = i
    · subst hj; rw [upF_same]
    · rw [upF_ne hj]
      exact re.void j fun d e => n d (by rw [List.getElem?_set_ne (Ne.symm hj)]; exact e)
  · rcases upF_mem m1 with ⟨_, m1⟩ | ⟨_, m1⟩ <;> rcases upF_mem m2 with ⟨_, m2⟩ | ⟨_, m2⟩
    · cases m1
    · cases m1
    · cases m2
    · exact re.dis j k y m1 m2
  · by_cases hj : j = i
    · subst hj; rw [upF_same]; exact List.nodup_nil
    · rw [upF_ne hj]; exact re.nd j
  · rcases upF_mem m with ⟨_, m⟩ | ⟨_, m⟩
    · cases m
    · exact re.ng j y m
  · by_cases hy : y = z
    · subst hy; exact (gz g).elim
    · rw [upd_ne hy]; exact re.base y o g h
  · by_cases hy : y = z
    · subst hy; exact (n i hzi).elim
    · rw [upd_ne hy]; exact h
  · rcases upF_mem m with ⟨_, m⟩ | ⟨_, m⟩
    · cases m
    · exact .inl ⟨j, m⟩
variable {st : Stmt} {ss : SD → R Fl}
theorem js_pre (i : Nat) (h : JS X Γ W st ss) : JS X Γ W st (sSeq (sFreeze i) ss) := by
  obtain ⟨t, ps, s⟩ := h.ex
  refine ⟨_, ps_pre ps, fun σ H env fp re Z q => ?_⟩
  have q1 := hold_bind q
  unfold sFreeze at q1
  split at q1
  · rename_i xs he
    by_cases hi : isImms xs = true
    · rw [if_pos hi] at q1
      obtain ⟨z, vs, hz, all⟩ := re_freeze re he hi
      refine ⟨z, _, hz, trivial, fun od => ?_⟩
      obtain ⟨r', f'⟩ := all od
      exact s.from r' f' q1
    · rw [if_neg hi] at q1
      exact q1.elim
  · exact q1.elim
theorem js_post (i : Nat) (h : JS X Γ W st ss) : JS X Γ W st (sSeq ss (sFreeze i)) := by
  obtain ⟨t, ps, s⟩ := h.ex
  refine ⟨_, ps_post ps, fun σ H env fp re Z q => ?_⟩
  refine s σ H env fp re _ (hold_mono (hold_bind q) (fun fl e k => ?_) fun _ _ z => z)
  cases fl with
  | bk => exact k
  | ct => exact k
  | rt d => exact k
  | nx =>
    intro σ' H' fp' r' f'
    have k' : hold (sFreeze i e) _ _ := k
    unfold sFreeze at k'
    split at k'
    · rename_i xs he
      by_cases hi : isImms xs = true
      · rw [if_pos hi] at k'
        obtain ⟨z, vs, hz, all⟩ := re_freeze r' he hi
        refine ⟨z, _, hz, trivial, fun od => ?_⟩
        obtain ⟨r2, f2⟩ := all od
        exact k' σ' _ _ r2 (f'.trans f2)
      · rw [if_neg hi] at k'
        exact k'.elim
    · exact k'.elim

/-! ### writing what a slot holds -/
theorem RE.wr {H : Hp} {σ : L2.St} {env : SD} {fp : Fp} {s : Nat} {d d' : D} {z : Addr} {o' : HO} (re : RE K Γ H σ env fp) (he : env[s]? = some (some d)) (hv : σ[s]? = some (some (.ref z))) (hf : fp s = [z]) (hr : Rep K Γ (upd H z o') d' (.ref z) [z]) :
    RE K Γ (upd H z o') σ (env.set s (some d')) fp ∧ Fm H fp (upd H z o') fp := by
  have hzs : z ∈ fp s := by rw [hf]; exact List.mem_singleton.mpr rfl
  have il : s < env.length := (List.getElem?_eq_some_iff.mp he).1
  have mu := re.mut hzs
  have agO : ∀ F, z ∉ F → Ag Γ F H (upd H z o') := fun F n y o hy q => by
    by_cases e : y = z
    · subst e
      rw [hy] at mu
      rcases q with q | q | q
      · exact (n q).elim
      · exact (q mu).elim
      · exact (re.ng s y hzs q).elim
    · rw [upd_ne e]; exact hy
  refine ⟨⟨fun j dd e => ?_, fun j n => ?_, re.dis, re.nd, re.ng, re.pin, fun y o g h => ?_, by rw [List.length_set]; exact re.len⟩, ⟨fun y o h n => ?_, fun j y m => .inl ⟨j, m⟩⟩⟩
  · by_cases hj : j = s
    · subst hj
      rw [List.getElem?_set_self il] at e
      cases e
      exact ⟨.ref z, hv, by rw [hf]; exact hr⟩
    · rw [List.getElem?_set_ne (Ne.symm hj)] at e
      obtain ⟨w, h1, h2⟩ := re.slot j dd e
      exact ⟨w, h1, h2.ag (agO _ fun m => hj (re.dis j s z m hzs))⟩
  · by_cases hj : j = s
    · subst hj
      exact (n d' (List.getElem?_set_self il)).elim
    · exact re.void j fun dd e => n dd (by rw [List.getElem?_set_ne (Ne.symm hj)]; exact e)
  · by_cases e : y = z
    · subst e; exact (re.ng s y hzs g).elim
    · rw [upd_ne e]; exact re.base y o g h
  · by_cases e : y = z
    · subst e; exact (n s hzs).elim
    · rw [upd_ne e]; exact h
theorem ag_wr {H : Hp} {σ : L2.St} {env : SD} {fp : Fp} {s : Nat} {z : Addr} {o' : HO} (re : RE K Γ H σ env fp) (hzs : z ∈ fp s) : Ag Γ [] H (upd H z o') := fun y o hy q => by
  by_cases e : y = z
  · subst e
    have mu := re.mut hzs
    rw [hy] at mu
    rcases q with q | q | q
    · cases q
    · exact (q mu).elim
    · exact (re.ng s y hzs q).elim
  · rw [upd_ne e]; exact hy
/-- a slot's own list, its items not to be written -/
theorem own_slot {H : Hp} {σ : L2.St} {env : SD} {fp : Fp} {s : Nat} {xs : List D} (re : RE K Γ H σ env fp) (he : env[s]? = some (some (.lst .own xs))) (hi : isImms xs = true) : ∃ z vs, σ[s]? = some (some (.ref z)) ∧ H z = some (.lst vs) ∧ Reps K Γ H xs vs [] ∧ fp s = [z] := by
  obtain ⟨v, hv, z, vs, F', rfl, hz, rs, eF⟩ := re.slot s _ he
  have e0 := rs.immF hi
  subst e0
  exact ⟨z, vs, hv, hz, rs, eF⟩
/-- the slot's list becomes ys -/
theorem list_wr {H : Hp} {σ : L2.St} {env : SD} {fp : Fp} {s : Nat} {xs ys : List D} {z : Addr} {ws : List V} (re : RE K Γ H σ env fp) (he : env[s]? = some (some (.lst .own xs))) (hv : σ[s]? = some (some (.ref z))) (hf : fp s = [z]) (rs : Reps K Γ H ys ws []) :
    RE K Γ (upd H z (.lst ws)) σ (env.set s (some (.lst .own ys))) fp ∧ Fm H fp (upd H z (.lst ws)) fp :=
  re.wr he hv hf ⟨z, ws, [], rfl, upd_same, rs.ag (ag_wr (s := s) re (by rw [hf]; exact List.mem_singleton.mpr rfl)), rfl⟩
theorem eVar_hold {β : Type} {s : Nat} {e : SD} {k : D → SD → R β} {Q : β → SD → Prop} {E : String → SD → Prop} (h : hold ((eVar s e).bind k) Q E) : ∃ d, e[s]? = some (some d) ∧ hold (k d e) Q E := by
  unfold eVar at h
  split at h
  · rename_i d he
    exact ⟨d, he, h⟩
  · exact h.elim
/-- xs[i] = e -/
def setIxD (s : Nat) (d di : D) (e : SD) : R Fl := match di, e[s]? with
  | .int i, some (some (.lst .own xs)) => (match ixN xs.length i with
    | some j => if isImms xs = true then .ok .nx (e.set s (some (.lst .own (xs.set j d)))) else .bad
    | none => .bad)
  | _, _ => .bad
def sSetIx (s : Nat) (evi evv : SD → R D) : SD → R Fl := fun env => (evv env).bind fun d e1 => if isImm d = true then (eVar s e1).bind fun _ e1 => (evi e1).bind fun di e2 => setIxD s d di e2 else .bad
theorem setIx_ok {s : Nat} {d di : D} {e : SD} {Q : Fl → SD → Prop} {E : String → SD → Prop} (h : hold (setIxD s d di e) Q E) : ∃ i xs j, di = .int i ∧ e[s]? = some (some (.lst .own xs)) ∧ ixN xs.length i = some j ∧ isImms xs = true ∧ Q .nx (e.set s (some (.lst .own (xs.set j d)))) := by
  unfold setIxD at h
  split at h
  · rename_i i xs he
    split at h
    · rename_i j hj
      split at h
      · rename_i hi
        exact ⟨i, xs, j, rfl, he, hj, hi, h⟩
      · exact h.elim
    · exact h.elim
  · exact h.elim
theorem js_setIx {s : Nat} {x : Str} {i : Expr} {evi : SD → R D} {pi : Bool} {fi : Bool} {pos tpos q : Pos} (hv : J X Γ W p f a eva) (hi : J X Γ W pi fi i evi) (hN : X.N[s]? = some x := by rfl) (hvis : Vis X.env.scope x := by first | exact Or.inl rfl | exact Or.inr (Or.inl rfl) | exact Or.inr (Or.inr rfl)) (hd : (x == ("__debug__" : Str)) = false := by decide)
    (hcd : (x == ("__classdict__" : Str)) = false := by decide) (ha : ∀ v, assign (.Subscript (.Name x q) i tpos) X.env v = (do
      let ov ← holding [v] (eval (.Name x q) X.env)
      let iv ← holding [v, ov] (eval i X.env)
      standAt tpos
      holding [v, ov, iv] (setItem ov iv v)
      release [v, ov, iv] []) := by intro _; rfl)
    (hs : swapsWithSole [.Subscript (.Name x q) i tpos] a pos.line X.env = pure false := by rfl) (hw : swappedStores [.Subscript (.Name x q) i tpos] a X.env = pure none := by rfl)
    (h1 : (assignEach [.Subscript (.Name x q) i tpos] X.env).map (·.2) = [assign (.Subscript (.Name x q) i tpos) X.env] := by rfl) :
    JS X Γ W (.Assign [.Subscript (.Name x q) i tpos] a pos) (sSetIx s evi eva) := by
  obtain ⟨ta, pa, sa⟩ := hv.ex
  obtain ⟨ti, pi', si⟩ := hi.ex
  refine ⟨_, ps_asg pa (pg_sub (pe_var (i := s) (pos := q) hN hvis hd hcd) pi' set_list ha) hs hw h1, fun σ H env fp re Z h => ?_⟩
  refine sa σ H env fp re _ (hold_mono (hold_bind h) (fun d e1 k1 v H1 fp1 Fa oa => ?_) fun c e z H' fp' r' f' => z σ H' fp' r' f')
  by_cases him : isImm d = true
  · rw [if_pos him] at k1
    obtain ⟨d0, h0, k1⟩ := eVar_hold k1
    obtain ⟨ov, hov, _⟩ := oa.re.slot s d0 h0
    refine ⟨ov, hov, si σ H1 e1 fp1 oa.re _ (hold_mono (hold_bind k1) (fun di e2 k2 u H2 fp2 Fi oi => ?_) fun c e z H' fp' r' f' => z σ H' fp' r' (oa.fm.trans f'))⟩
    obtain ⟨n, xs, j, rfl, he, hj, hi', k2⟩ := setIx_ok k2
    obtain ⟨z, vs, hz1, hz2, rs, hf⟩ := own_slot oi.re he hi'
    rw [hz1] at hov
    cases hov
    have ra := oa.rep
    rw [ra.immF him] at ra
    have rd : Rep X.K Γ H2 d v [] := ra.held oa.re oi.fm fun _ m => nomatch m
    obtain ⟨r', f'⟩ := list_wr oi.re he hz1 hf (rs.set0 j rd)
    exact ⟨z, vs, n, j, rfl, oi.rep.1, hz2, by rw [← rs.len]; exact hj, k2 σ _ fp2 r' (oa.fm.trans (oi.fm.trans f'))⟩
  · rw [if_neg him] at k1
    exact k1.elim
/-- the slot holds a list, as its method's rule asks -/
theorem slot_ty {H : Hp} {d : D} {v : V} {F : List Addr} {m : Md} {xs : List D} (r : Rep K Γ H d v F) (h : d = .lst m xs) : tyV K "list" v H := by
  subst h
  obtain ⟨z, vs, F', rfl, s, _⟩ := read_any r
  exact .inl ⟨rfl, vs, s⟩
end
end Vs

namespace Vs
open PySem PySem.Spec PyProof.Rows L2
section
variable {X : Cx} {Γ : Gm} {W : Wx} {K : PySem.W.Frag} {p p' fa fb f : Bool} {a b : Expr} {eva evb : SD → R D} {es : List Expr} {evs : SD → R (List D)}
/-! ### methods of a slot's own list -/
def isLst : D → Bool
  | .lst _ _ => true
  | _ => false
/-- xs.m(..): the arguments, then the change; back: what it tells -/
def eMt (s : Nat) (ch : List D → List D → Option (D × List D)) (ev : SD → R (List D)) : SD → R D := fun env => (eVar s env).bind fun d0 env => if isLst d0 = true then (ev env).bind fun ds e => match e[s]? with
  | some (some (.lst .own xs)) => if isImms xs = true then (match ch xs ds with
    | some (r, ys) => if isImm r = true then .ok r (e.set s (some (.lst .own ys))) else .bad
    | none => .bad) else .bad
  | _ => .bad else .bad
/-- the method's rule does what ch says -/
def MtSat (K : PySem.W.Frag) (Γ : Gm) (r : V → List V → Hp → VK → Prop) (ch : List D → List D → Option (D × List D)) : Prop := ∀ (H : Hp) (z : Addr) (vs : List V) (xs ds : List D) (us : List V) (F : List Addr) (d : D) (ys : List D) (Q : VK),
  H z = some (.lst vs) → Reps K Γ H xs vs [] → Reps K Γ H ds us F → z ∉ F → ch xs ds = some (d, ys) → (∀ v ws, Reps K Γ H ys ws [] → Rep K Γ H d v [] → Q v (upd H z (.lst ws))) → r (.ref z) us H Q
theorem sat_mt {s : Nat} {r : V → List V → Hp → VK → Prop} {ch : List D → List D → Option (D × List D)} {t : TA} (hM : MtSat K Γ r ch) (hs : SatA K Γ W p true t evs) : Sat K Γ W false true (tBM K "list" r (tVar s) t) (eMt s ch evs) := fun σ H env fp re Q h => by
  obtain ⟨d0, h0, k1⟩ := eVar_hold h
  obtain ⟨ov, hov, r0⟩ := re.slot s d0 h0
  by_cases hl : isLst d0 = true
  · rw [if_pos hl] at k1
    cases d0 with
    | lst m0 x0 =>
      refine ⟨ov, hov, slot_ty r0 rfl, hs σ H env fp re _ (hold_mono (hold_bind k1) (fun ds e k2 us H2 fp2 Fi oi => ?_) fun c e z => z)⟩
      split at k2
      · rename_i xs he
        split at k2
        · rename_i hi
          cases hc : ch xs ds with
          | none => rw [hc] at k2; exact k2.elim
          | some rr =>
            obtain ⟨d, ys⟩ := rr
            rw [hc] at k2
            have k3 : hold (if isImm d = true then R.ok d (e.set s (some (D.lst .own ys))) else R.bad) _ _ := k2
            split at k3
            · rename_i hd
              obtain ⟨z, vs, hz1, hz2, rs, hf⟩ := own_slot oi.re he hi
              rw [hz1] at hov
              cases hov
              refine hM H2 z vs xs ds us Fi d ys Q hz2 rs oi.rep (fun m => oi.fr rfl z m s (by rw [hf]; exact List.mem_singleton.mpr rfl)) hc fun v ws rw' rd => ?_
              obtain ⟨r', f'⟩ := list_wr oi.re he hz1 hf rw'
              exact k3 v _ fp2 [] ⟨r', rd.ag (ag_wr (s := s) oi.re (by rw [hf]; exact List.mem_singleton.mpr rfl)), List.nodup_nil, oi.fm.trans f', (fun _ m => nomatch m), (fun z => nomatch z), fun _ _ m => nomatch m⟩
            · exact k3.elim
        · exact k2.elim
      · exact k2.elim
    | _ => cases hl
  · rw [if_neg hl] at k1
    exact k1.elim
theorem j_mt {s : Nat} {x name : Str} {id : String} {r : V → List V → Hp → VK → Prop} {ch : List D → List D → Option (D × List D)} {apos cpos q : Pos} (slot : Slot "list" name id) (hty : typeOf (.builtin id) = pure (.type "method_descriptor")) (hm : MtR X id r) (hM : MtSat X.K Γ r ch) (ha : JA X Γ W p true (a :: es) evs)
    (hN : X.N[s]? = some x := by rfl) (hvis : Vis X.env.scope x := by first | exact Or.inl rfl | exact Or.inr (Or.inl rfl) | exact Or.inr (Or.inr rfl)) (hd : (x == ("__debug__" : Str)) = false := by decide) (hcd : (x == ("__classdict__" : Str)) = false := by decide)
    (hbase : attributeBase (.Name x q) name X.env (eval (.Name x q) X.env) = eval (.Name x q) X.env := by rfl)
    (hfew : ((backTo cpos (starEach (a :: es) X.env)).all (fun x => !x.1) && (backToKw cpos (keywordEach [] X.env)).all (fun x => x.1.isSome)
      && decide ((a :: es).length + ([] : List Keyword).length + (if ([] : List Keyword).isEmpty then 0 else 1) < 30)) = true := by rfl)
    (hline : (apos.endLine == cpos.line) = true := by rfl) (hs : starEach (a :: es) X.env = (false, eval a X.env) :: starEach es X.env := by rfl) (hplain : (backTo cpos (starEach es X.env)).any (·.1) = false := by rfl) :
    J X Γ W false true (.Call (.Attribute (.Name x q) name apos) (a :: es) [] cpos) (eMt s ch evs) := by
  obtain ⟨t, pa, sa⟩ := ha.ex
  exact ⟨_, pe_bm PySem.F.plainAttrs_list slot hty hm (pe_var (i := s) (pos := q) hN hvis hd hcd) pa hbase hfew hline hs hplain, sat_mt hM sa⟩
def chApp (xs ds : List D) : Option (D × List D) := match ds with
  | [d] => if isImm d = true ∧ xs.length < sizeLine then some (.non, xs ++ [d]) else none
  | _ => none
theorem ms_app : MtSat K Γ rAppend chApp := fun H z vs xs ds us F d ys Q hz rs ru nz hc q => by
  match ds, ru, hc with
  | [d1], ru, hc =>
    obtain ⟨u, rfl, r1⟩ := ru.only
    have hc' : (if isImm d1 = true ∧ xs.length < sizeLine then some (D.non, xs ++ [d1]) else none) = some (d, ys) := hc
    split at hc'
    · rename_i hh
      cases hc'
      have e := r1.immF hh.1
      subst e
      exact ⟨z, vs, u, rfl, rfl, hz, by rw [← rs.len]; exact hh.2, q .non _ (rs.append0 (Reps.one r1)) ⟨rfl, rfl⟩⟩
    · cases hc'
def chPopAt (xs ds : List D) : Option (D × List D) := match ds with
  | [.int i] => (match ixN xs.length i with
    | some k => if xs.length ≤ sizeLine then (xs[k]?).map fun y => (y, xs.eraseIdx k) else none
    | none => none)
  | _ => none
theorem ms_popAt : MtSat K Γ rPopAt chPopAt := fun H z vs xs ds us F d ys Q hz rs ru nz hc q => by
  match ds, ru, hc with
  | [.int i], ru, hc =>
    obtain ⟨u, rfl, r1⟩ := ru.only
    cases hk : ixN xs.length i with
    | none => simp only [chPopAt, hk] at hc; cases hc
    | some k =>
      simp only [chPopAt, hk] at hc
      have hc' : (if xs.length ≤ sizeLine then (xs[k]?).map fun y => (y, xs.eraseIdx k) else none) = some (d, ys) := hc
      by_cases hsz : xs.length ≤ sizeLine
      case neg => rw [if_neg hsz] at hc'; cases hc'
      rw [if_pos hsz] at hc'
      obtain ⟨y, h1, h2⟩ := Option.map_eq_some_iff.mp hc'
      cases h2
      obtain ⟨v, g1, g2⟩ := rs.get0 h1
      obtain ⟨s1, s2, s3, s4⟩ := ixN_seq hk
      have hlen := rs.len
      have l63 := line63
      exact ⟨z, vs, i, k, v, rfl, by rw [r1.1], hz, by omega, by omega, by rw [← hlen]; exact s1, g1, q v _ (rs.erase0 k) g2⟩
def chExt (xs ds : List D) : Option (D × List D) := match ds with
  | [.lst .own zs] => if isImms zs = true ∧ xs.length + zs.length ≤ sizeLine then some (.non, xs ++ zs) else none
  | _ => none
theorem ms_ext : MtSat K Γ rExtend chExt := fun H z vs xs ds us F d ys Q hz rs ru nz hc q => by
  match ds, ru, hc with
  | [.lst .own zs], ru, hc =>
    obtain ⟨u, rfl, r1⟩ := ru.only
    have hc' : (if isImms zs = true ∧ xs.length + zs.length ≤ sizeLine then some (D.non, xs ++ zs) else none) = some (d, ys) := hc
    split at hc'
    · rename_i hh
      cases hc'
      obtain ⟨b, ws, F', rfl, hb, r2, _⟩ := r1
      have e := r2.immF hh.1
      subst e
      exact ⟨z, b, vs, ws, rfl, rfl, hz, hb, by rw [← rs.len, ← r2.len]; exact hh.2, q .non _ (rs.append0 r2) ⟨rfl, rfl⟩⟩
    · cases hc'
/-! ### xs[i] += e -/
theorem pg_list : PGet X (rIxL X.K) := by
  intro pins s σ H o i ov iv Q I ro ri h
  obtain ⟨z, xs, k, v, rfl, rfl, hq, he, q⟩ := h
  cases ro
  obtain ⟨t, rfl⟩ := ri
  obtain ⟨its, r, pl, hz⟩ := I.list hq
  obtain ⟨j, h1, h2, h3, h4, h5⟩ := atI_get he
  obtain ⟨w, ew, rw'⟩ := r.get h2
  have hl := r.length
  have hn := line63
  have fin : EP X pins σ Q w s := ⟨v, H, I, rw', q⟩
  by_cases h0 : 0 ≤ k
  · have hj : k.toNat = j := by
      rw [seqIndex_of h0 h5] at h1
      exact Option.some.inj h1
    refine wpAny_getItem_list pl.isList h0 (by omega) (x := w) ?_ fin
    rw [hj]
    simpa using ew
  · have hj : (k + (its.toArray.size : Int)).toNat = j := by
      rw [seqIndex_neg (by omega) h4] at h1
      rw [List.size_toArray, ← hl]
      exact Option.some.inj h1
    exact wpAny_getItem_list_neg pl.isList (by omega) (by rw [List.size_toArray] <;> omega) (by omega) (by rw [hj]; simpa using ew) fin
def sAugIx (s : Nat) (g : D → D → Option D) (evi evv : SD → R D) : SD → R Fl := fun env => (eVar s env).bind fun _ env => (evi env).bind fun di e => match di, e[s]? with
  | .int i, some (some (.lst .own xs)) => (match ixN xs.length i with
    | some j => (match xs[j]? with
      | some x => if isImms xs = true then (evv e).bind fun y _ => (R.opt (g x y) e).bind fun z e => if isImm z = true then .ok .nx (e.set s (some (.lst .own (xs.set j z)))) else .bad else .bad
      | none => .bad)
    | none => .bad)
  | _, _ => .bad
theorem js_augIx {s : Nat} {x : Str} {i : Expr} {evi : SD → R D} {pi fi : Bool} {op : Operator} {r : R2} {g : D → D → Option D} {pos tpos q : Pos} (ho : PIp X op r) (hO : OpSat X.K Γ r g) (hv : J X Γ W true f a eva) (hi : J X Γ W pi fi i evi) (hN : X.N[s]? = some x := by rfl) (hvis : Vis X.env.scope x := by first | exact Or.inl rfl | exact Or.inr (Or.inl rfl) | exact Or.inr (Or.inr rfl)) (hd : (x == ("__debug__" : Str)) = false := by decide)
    (hcd : (x == ("__classdict__" : Str)) = false := by decide) (ha : ∀ ov iv new, augStore i ov iv new = (do holding [new, ov, iv] (setItem ov iv new); release [new, ov, iv] []; pure .next) := by intros; rfl) :
    JS X Γ W (.AugAssign (.Subscript (.Name x q) i tpos) op a pos) (sAugIx s g evi eva) := by
  obtain ⟨ta, pa, sa⟩ := hv.ex
  obtain ⟨ti, pi', si⟩ := hi.ex
  refine ⟨_, ps_augS (pe_var (i := s) (pos := q) hN hvis hd hcd) pi' pg_list pa ho set_list ha, fun σ H env fp re Z h => ?_⟩
  obtain ⟨d0, h0, k1⟩ := eVar_hold h
  obtain ⟨ov, hov, _⟩ := re.slot s d0 h0
  refine ⟨ov, hov, si σ H env fp re _ (hold_mono (hold_bind k1) (fun di e k2 u H2 fp2 Fi oi => ?_) fun c e z H' fp' r' f' => z σ H' fp' r' f')⟩
  split at k2
  · rename_i n xs he
    split at k2
    · rename_i j hj
      split at k2
      · rename_i d1 hd1
        split at k2
        · rename_i him
          obtain ⟨z, vs, hz1, hz2, rs, hf⟩ := own_slot oi.re he him
          rw [hz1] at hov
          cases hov
          obtain ⟨v1, g1, g2⟩ := rs.get0 hd1
          refine ⟨z, vs, n, v1, rfl, oi.rep.1, SqL.of hz2, ?_, ?_⟩
          · unfold atI
            rw [← rs.len, hj]; exact g1
          · refine sa σ H2 e fp2 oi.re _ (hold_mono (hold_bind k2) (fun y e3 k3 v H3 fp3 Fa oa => ?_) fun c e z H' fp' r' f' => z σ H' fp' r' (oi.fm.trans f'))
            obtain ⟨e1, e2, sm⟩ := oa.pu rfl
            subst e1 e2
            obtain ⟨d3, hg, k4⟩ := hold_opt (hold_bind k3)
            have hzs : z ∈ fp3 s := by rw [hf]; exact List.mem_singleton.mpr rfl
            refine hO H3 v1 v d1 y [] Fa d3 _ (g2.same sm) oa.rep hg fun w H4 F4 r4 n4 sm4 nw4 => ?_
            by_cases hi3 : isImm d3 = true
            · rw [if_pos hi3] at k4
              have e0 := r4.immF hi3
              subst e0
              have re4 := oa.re.same sm4
              obtain ⟨r', f'⟩ := list_wr re4 he hz1 hf ((((rs.same sm).same sm4)).set0 j r4)
              refine ⟨z, vs, n, j, rfl, oi.rep.1, sm4 _ _ (sm _ _ hz2), by rw [← rs.len]; exact hj, k4 σ _ fp3 r' (oi.fm.trans ((Fm.same (sm.trans sm4)).trans f'))⟩
            · rw [if_neg hi3] at k4
              exact k4.elim
        · exact k2.elim
      · exact k2.elim
    · exact k2.elim
  · exact k2.elim
end
end Vs

namespace Vs
open PySem PySem.Spec PyProof.Rows L2

/-! ### two readings of one text -/
def orR {α : Type} (a b : R α) : R α := match a with
  | .bad => b
  | r => r
theorem hold_or {α : Type} {a b : R α} {Q : α → SD → Prop} {E : String → SD → Prop} (h : hold (orR a b) Q E) : hold a Q E ∨ hold b Q E := by
  cases a with
  | bad => exact .inr h
  | ok x e => exact .inl h
  | exc c e => exact .inl h
section
variable {X : Cx} {Γ : Gm} {W : Wx} {p p' fa fb f : Bool} {a b : Expr} {eva evb : SD → R D} {es : List Expr} {evs : SD → R (List D)} {tg : Expr}
theorem J.or (h : J X Γ W p f a eva) (h' : J X Γ W p f a evb) : J X Γ W p f a (fun env => orR (eva env) (evb env)) := by
  obtain ⟨t, pe, s⟩ := h.ex
  obtain ⟨t', pe', s'⟩ := h'.ex
  exact ⟨fun σ H Q => t σ H Q ∨ t' σ H Q, ⟨fun pins s σ H Q I h => h.elim (pe.run pins s σ H Q I) (pe'.run pins s σ H Q I)⟩, fun σ H env fp re Q q => (hold_or q).imp (s σ H env fp re Q) (s' σ H env fp re Q)⟩
theorem JI.or {it it' : SD → R (List D)} (h : JI X Γ W p tg a it) (h' : JI X Γ W p tg a it') : JI X Γ W p tg a (fun env => orR (it env) (it' env)) := by
  obtain ⟨t, pe, s⟩ := h.ex
  obtain ⟨t', pe', s'⟩ := h'.ex
  exact ⟨fun σ H Q => t σ H Q ∨ t' σ H Q, ⟨fun pins s σ H Q I h => h.elim (pe.run pins s σ H Q I) (pe'.run pins s σ H Q I)⟩, fun σ H env fp re Q q => (hold_or q).imp (s σ H env fp re Q) (s' σ H env fp re Q)⟩
theorem J.congr (h : J X Γ W p f a eva) (e : eva = evb) : J X Γ W p f a evb := e ▸ h
theorem JI.congr {it it' : SD → R (List D)} (h : JI X Γ W p tg a it) (e : it = it') : JI X Γ W p tg a it' := e ▸ h

/-! ### a slot's value, copied or taken out -/
def eTake (i : Nat) : SD → R D := fun env => match env[i]? with
  | some (some d) => if isImm d = true then .ok d env else .ok d (env.set i none)
  | _ => .bad
theorem j_take (i : Nat) {x : Str} {pos : Pos} (hN : X.N[i]? = some x := by rfl) (hv : Vis X.env.scope x := by first | exact Or.inl rfl | exact Or.inr (Or.inl rfl) | exact Or.inr (Or.inr rfl)) (hd : (x == ("__debug__" : Str)) = false := by decide)
    (hcd : (x == ("__classdict__" : Str)) = false := by decide) : J X Γ W false true (.Name x pos) (eTake i) := by
  have h1 : J X Γ W false true (.Name x pos) (eImm (eVar i)) := (j_var i hN hv hd hcd).imm.weak
  have h2 : J X Γ W false true (.Name x pos) (eMove i) := j_move i hN hv hd hcd
  refine (h1.or h2).congr ?_
  funext env
  show orR (eImm (eVar i) env) (eMove i env) = eTake i env
  unfold eTake eImm eVar eMove
  cases env[i]? with
  | none => rfl
  | some o =>
    cases o with
    | none => rfl
    | some d =>
      simp only [R.bind_ok]
      by_cases hi : isImm d = true
      · rw [if_pos hi, if_pos hi]; rfl
      · rw [if_neg hi, if_neg hi]; rfl

/-! ### walks of lists, tuples, texts -/
def anyOf : D → Option (List D)
  | .lst .imm ds => some ds
  | .lst .bor ds => some ds
  | .tup ds => some ds
  | .str x => some (x.cps.toList.map fun c => .str ⟨#[c]⟩)
  | _ => none
def sqOf : D → Option (List D)
  | .lst .imm ds => some ds
  | .lst .bor ds => some ds
  | .tup ds => some ds
  | _ => none
def itSeq (ev : SD → R D) : SD → R (List D) := fun env => (ev env).bind fun d e => R.opt (anyOf d) e
theorem ji_seq (h : J X Γ W p f a eva) : JI X Γ W p tg a (itSeq eva) := by
  refine ((ji_lst h).or ((ji_tup h).or (ji_str h))).congr ?_
  funext env
  unfold itSeq itL itT itS orR
  cases eva env with
  | bad => rfl
  | exc c e => rfl
  | ok d e =>
    cases d with
    | lst m xs => cases m <;> rfl
    | _ => rfl
def itEnumS (ev : SD → R D) : SD → R (List D) := fun env => (ev env).bind fun d e => R.opt ((sqOf d).map enumD) e
theorem ji_enum {elts : List Expr} {kk : Nat} {q pos tpos : Pos} (h : J X Γ W p f a eva) (hm : X.mg "enumerate" = none) (hg : Gl X "enumerate" := by rfl) (hs : starEach [a] X.env = [(false, eval a X.env)] := by rfl) :
    JI X Γ W p (.Tuple elts kk tpos) (.Call (.Name "enumerate" q) [a] [] pos) (itEnumS eva) := by
  refine ((ji_enumL h hm hg hs).or (ji_enumT h hm hg hs)).congr ?_
  funext env
  unfold itEnumS itEnum itL itT orR
  cases eva env with
  | bad => rfl
  | exc c e => rfl
  | ok d e =>
    cases d with
    | lst m xs => cases m <;> rfl
    | _ => rfl
def itZipS (a b : SD → R D) : SD → R (List D) := fun env => (a env).bind fun x e1 => (b e1).bind fun y e2 => orR (R.opt ((listOf x).bind fun xs => (listOf y).map (zipD xs)) e2) (R.opt ((tupOf x).bind fun xs => (tupOf y).map (zipD xs)) e2)
theorem ji_zip {elts : List Expr} {kk : Nat} {q pos tpos : Pos} (ha : J X Γ W p fa a eva) (hb : J X Γ W p' fb b evb) (hm : X.mg "zip" = none) (hg : Gl X "zip" := by rfl) (hpf : (p' || fa) = true := by rfl)
    (hs : starEach [a, b] X.env = (false, eval a X.env) :: starEach [b] X.env := by rfl) (hs2 : starEach [b] X.env = (false, eval b X.env) :: starEach [] X.env := by rfl) (hpl : (backTo pos (starEach [b] X.env)).any (·.1) = false := by rfl) :
    JI X Γ W (p && (p' && true)) (.Tuple elts kk tpos) (.Call (.Name "zip" q) [a, b] [] pos) (itZipS eva evb) := by
  have hA : JA X Γ W (p && (p' && true)) (fa && (fb && true)) [a, b] (aCons eva (aCons evb aNil)) := ja_cons ha (ja_cons hb ja_nil hs2 rfl) hs (by simpa using hpf)
  refine ((ji_zipL hA hm hg hs hpl).or (ji_zipT hA hm hg hs hpl)).congr ?_
  funext env
  unfold itZipS itZip aCons aNil
  cases eva env with
  | bad => rfl
  | exc c e => rfl
  | ok x e =>
    simp only [R.bind_ok]
    cases evb e with
    | bad => rfl
    | exc c e => rfl
    | ok y e2 =>
      simp only [R.bind_ok]
      congr 1
      · cases listOf x with
        | none => rfl
        | some xs => cases listOf y <;> rfl
      · cases tupOf x with
        | none => rfl
        | some xs => cases tupOf y <;> rfl

/-! ### defs by name -/
/-- the def's text stands under its name -/
structure Df (K : PySem.W.Frag) (mg : Str → Option Value) (x : Str) (st : Stmt) : Prop where
  fn : ∃ fd, FunD K x x (defArgs st) (defBody st) (defScope st) [] [] (He.ga K x) fd
  mg : mg x = some (.ref (He.ga K x))
/-- the def of a name keeps a promise -/
structure Ok (P : Program) (w : World) (K : PySem.W.Frag) (mg : Str → Option Value) (base : Heap) (x : Str) (k : Nat) (ps : List Str) (sp : Sp) : Prop where
  ex : ∃ fd, FnOk P w K mg base CX0 k (He.ga K x) fd ps sp ∧ Binds K fd ps [] ∧ PySem.W.keepIn K (.ref (He.ga K x)) = true ∧ mg x = some (.ref (He.ga K x)) ∧ ∃ oc od osl, K.lookup (He.ga K x) = some ⟨oc, od, .func fd, osl⟩
theorem Ok.mono {P : Program} {w : World} {K : PySem.W.Frag} {mg : Str → Option Value} {base : Heap} {x : Str} {j k : Nat} {ps : List Str} {sp : Sp} (h : Ok P w K mg base x j ps sp) (l : j ≤ k) : Ok P w K mg base x k ps sp := by
  obtain ⟨fd, h1, h2⟩ := h.ex
  exact ⟨fd, h1.mono l, h2⟩
abbrev cx (P : Program) (w : World) (K : PySem.W.Frag) (mg : Str → Option Value) (base : Heap) (N : List Str) (x : Str) (st : Stmt) (cdv : Value) (A : Around) (outer : List Env) (s : Shared) (H : Hp) (E : XK) : Cx :=
  (cxOf CX0 P w K mg base N x (defScope st) (He.ga K x) cdv A outer s H E).nox
theorem fn_okD {P : Program} {w : World} {K : PySem.W.Frag} {mg : Str → Option Value} {base : Heap} {x : Str} {st : Stmt} {N ps : List Str} {k : Nat} (pins : List Nat) {body : SD → R Fl} (F : Df K mg x st) (S : FnScope N ps (defScope st)) (hpn : ∀ i ∈ pins, i < ps.length)
    (hb : ∀ (kV doc pm : Value) (an : Option Addr) (cdv ct : Value) (us : List Value), us.length = ps.length → bindArgs (PySem.W.fnOf x x (defArgs st) (defBody st) (defScope st) .none kV doc pm an cdv ct) ⟨us, []⟩ = pure (ps.zip us))
    (hbody : ∀ (cdv : Value) (A : Around) (outer : List Env) (s : Shared) (H : Hp) (E : XK) (H0 : Hp) (F0 : Addr → Prop) (σ0 : L2.St), Room k (cx P w K mg base N x st cdv A outer s H E).A →
      JB (cx P w K mg base N x st cdv A outer s H E) ⟨H0, F0, pins, σ0⟩ W0 (defBody st) body) : Ok P w K mg base x (k + 1) ps (spF K ps.length pins (runFn N.length pins body)) := by
  obtain ⟨fd, Fn⟩ := F.fn
  refine ⟨fd, ?_, Fn.bindsN hb, Fn.kp, F.mg, by obtain ⟨oc, od, dV, kV, doc, pm, an, cdv, ct, osl, _, lk, _⟩ := Fn.ex; exact ⟨oc, od, osl, lk⟩⟩
  exact fn_okG (st := st) S hpn (fun {sp} len hbd => Fn.ok S len fun cdv A outer s H vs Q E hr hs => let ⟨t, h, q⟩ := hbd cdv A outer s H vs Q E hr hs; ⟨t, h.nox, q⟩)
    (fun cdv A outer s H E ⟨H0, F0, pn, σ0⟩ e hr => by cases e; exact hbody cdv A outer s H E H0 F0 σ0 hr)
variable {k np : Nat} {ps : List Str} {fn : List D → R D} {x : Str} {q pos : Pos}
theorem j_fn (G : Ok X.prog X.w X.K X.mg X.base x k ps (spF X.K np [] fn)) (hr : Room k X.A) (ha : JA X Γ W p fa (a :: es) evs) (hg : Gl X x := by rfl)
    (hdb : (x == ("__debug__" : Str)) = false := by decide) (he : starEach (a :: es) X.env = (false, eval a X.env) :: starEach es X.env := by rfl) (hpl : (backTo pos (starEach es X.env)).any (·.1) = false := by rfl) :
    J X Γ W p true (.Call (.Name x q) (a :: es) [] pos) (eCall np fn evs) := by
  obtain ⟨fd, F, hb, hk, hm, _⟩ := G.ex
  exact j_call F hr hm hk hb ha hg hdb he hpl
theorem j_fn0 (G : Ok X.prog X.w X.K X.mg X.base x k ps (spF X.K np [] fn)) (hr : Room k X.A) (hg : Gl X x := by rfl) (hdb : (x == ("__debug__" : Str)) = false := by decide) :
    J X Γ W true true (.Call (.Name x q) [] [] pos) (eCall np fn aNil) := by
  obtain ⟨fd, F, hb, hk, hm, _⟩ := G.ex
  obtain ⟨t, pa, sa⟩ := (ja_nil (X := X) (Γ := Γ) (W := W)).ex
  exact ⟨_, pe_call0 F hr hg hm hk hb .nil pass0 hdb, sat_call (t := tNil) (fa := true) (fun σ H env fp re Q q => q [] H fp [] ⟨re, rfl, Fm.refl, (fun _ m => nomatch m), fun _ => ⟨rfl, rfl, Same.refl H⟩, fun _ _ m => nomatch m⟩)⟩
/-- a def that writes its argument at kp, a slot's value -/
theorem j_fnP {s kp m : Nat} {pat : List Bool} {evp : SD → R (List (Option D))} (G : Ok X.prog X.w X.K X.mg X.base x k ps (spF X.K np [kp] fn)) (hr : Room k X.A) (ha : JP X Γ W s pat (a :: es) evp) (hpat : pat = List.replicate kp false ++ true :: List.replicate m false := by rfl) (hg : Gl X x := by rfl)
    (hdb : (x == ("__debug__" : Str)) = false := by decide) (he : starEach (a :: es) X.env = (false, eval a X.env) :: starEach es X.env := by rfl) (hpl : (backTo pos (starEach es X.env)).any (·.1) = false := by rfl) :
    J X Γ W false true (.Call (.Name x q) (a :: es) [] pos) (eCallP np s fn evp) := by
  obtain ⟨fd, F, hb, hk, hm, _⟩ := G.ex
  exact j_callP F hr hm hk hb ha hpat hg hdb he hpl
end
end Vs

namespace Vs
open PySem PySem.Spec PyProof.Rows L2
/-- the built-ins' names are not the module's -/
structure Bt (mg : Str → Option Value) : Prop where
  len : mg "len" = none
  abs : mg "abs" = none
  max : mg "max" = none
  min : mg "min" = none
  int : mg "int" = none
  list : mg "list" = none
  tuple : mg "tuple" = none
  sum : mg "sum" = none
  isinstance : mg "isinstance" = none
  sorted : mg "sorted" = none
  range : mg "range" = none
  enumerate : mg "enumerate" = none
  zip : mg "zip" = none
  dict : mg "dict" = none
  set : mg "set" = none
  str : mg "str" = none
  all : mg "all" = none
  bool : mg "bool" = none
section
variable {X : Cx} {Γ : Gm} {W : Wx} {K : PySem.W.Frag} {p p' fa fb f : Bool} {a b : Expr} {eva evb : SD → R D} {q pos : Pos}
theorem eArgs1 {g : D → Option D} : eArgs (g1 g) (aCons eva aNil) = eUn g eva := by
  funext env
  show ((aCons eva aNil) env).bind _ = _
  unfold aCons aNil eUn
  cases eva env with
  | bad => rfl
  | exc c e => rfl
  | ok d e => rfl
theorem eArgs2 {g : D → D → Option D} : eArgs (g2 g) (aCons eva (aCons evb aNil)) = eBin g eva evb := by
  funext env
  show ((aCons eva (aCons evb aNil)) env).bind _ = _
  unfold aCons aNil eBin
  cases eva env with
  | bad => rfl
  | exc c e => rfl
  | ok d e =>
    simp only [R.bind_ok]
    cases evb e with
    | bad => rfl
    | exc c e => rfl
    | ok d e => rfl
theorem ja1 (ha : J X Γ W p fa a eva) (hs : starEach [a] X.env = (false, eval a X.env) :: starEach [] X.env) : JA X Γ W p fa [a] (aCons eva aNil) := by
  have h := ja_cons ha (ja_nil (X := X) (Γ := Γ) (W := W)) hs rfl
  simpa using h
theorem ja2 (ha : J X Γ W p fa a eva) (hb : J X Γ W p' fb b evb) (hpf : (p' || fa) = true) (hs : starEach [a, b] X.env = (false, eval a X.env) :: starEach [b] X.env) (hs2 : starEach [b] X.env = (false, eval b X.env) :: starEach [] X.env) : JA X Γ W (p && p') (fa && fb) [a, b] (aCons eva (aCons evb aNil)) := ja_cons ha (ja1 hb hs2) hs hpf
theorem j_b1 {x : Str} {id : String} {r : List V → Hp → VK → Prop} {g : D → Option D} (hc : CallR X (.builtin id) r) (hs : CallSat X.K Γ r (g1 g)) (hm : X.mg x = none) (hv : bootBuiltins x = some (.builtin id)) (ha : J X Γ W p fa a eva)
    (hg : Gl X x := by rfl) (hn : x ≠ "__name__" := by decide) (hdb : (x == ("__debug__" : Str)) = false := by decide) (he : starEach [a] X.env = (false, eval a X.env) :: starEach [] X.env := by rfl) : J X Γ W p true (.Call (.Name x q) [a] [] pos) (eUn g eva) := by
  have h := j_callB (q := q) (pos := pos) hc hs hg hm hv (ja1 ha he) hn hdb he (by rfl)
  rw [eArgs1] at h
  exact h
theorem j_b2 {x : Str} {id : String} {r : List V → Hp → VK → Prop} {g : D → D → Option D} (hc : CallR X (.builtin id) r) (hs : CallSat X.K Γ r (g2 g)) (hm : X.mg x = none) (hv : bootBuiltins x = some (.builtin id)) (ha : J X Γ W p fa a eva) (hb : J X Γ W p' fb b evb) (hpf : (p' || fa) = true := by rfl)
    (hg : Gl X x := by rfl) (hn : x ≠ "__name__" := by decide) (hdb : (x == ("__debug__" : Str)) = false := by decide) (he : starEach [a, b] X.env = (false, eval a X.env) :: starEach [b] X.env := by rfl) (he2 : starEach [b] X.env = (false, eval b X.env) :: starEach [] X.env := by rfl)
    (hpl : (backTo pos (starEach [b] X.env)).any (·.1) = false := by rfl) : J X Γ W (p && p') true (.Call (.Name x q) [a, b] [] pos) (eBin g eva evb) := by
  have h := j_callB (q := q) (pos := pos) hc hs hg hm hv (ja2 ha hb hpf he he2) hn hdb he hpl
  rw [eArgs2] at h
  exact h
theorem j_t1 {x : Str} {T : String} {r : List V → Hp → VK → Prop} {g : D → Option D} (hc : CallR X (.type T) r) (hs : CallSat X.K Γ r (g1 g)) (hm : X.mg x = none) (hv : bootBuiltins x = some (.type T)) (ha : J X Γ W p fa a eva)
    (hg : Gl X x := by rfl) (hn : x ≠ "__name__" := by decide) (hdb : (x == ("__debug__" : Str)) = false := by decide) (he : starEach [a] X.env = (false, eval a X.env) :: starEach [] X.env := by rfl) : J X Γ W p true (.Call (.Name x q) [a] [] pos) (eUn g eva) := by
  have h := j_callTy (q := q) (pos := pos) hc hs hg hm hv (ja1 ha he) hn hdb he (by rfl)
  rw [eArgs1] at h
  exact h

/-! ### sorted -/
def leD (x y : D) : Bool := PySem.W.dataLe false toPy x y
def noTup : PyData → Bool
  | .none => false
  | .tuple _ => false
  | _ => true
def isTupC : PyData → Bool
  | .tuple (_ :: _) => true
  | _ => false
def srtOk (ds : List D) : Bool := (ds.all (dOk 8)) && (ds.all fun x => ds.all fun y => PySem.W.alike (toPy x) (toPy y)) && ((ds.all fun x => isTupC (toPy x)) || (ds.all fun x => noTup (toPy x))) && decide (ds.length ≤ sizeLine) && isImms ds
def rSortD (K : PySem.W.Frag) : List V → Hp → VK → Prop := fun vs H Q => ∃ (a : Addr) (bs : List (V × PyData)), vs = [.ref a] ∧ SqL K H a (bs.map (·.1)) ∧ (∀ b ∈ bs, Dp K H b.1 b.2 ∧ b.2.depth ≤ 8) ∧ PySem.W.AllAlike (bs.map (·.2)) ∧ PySem.W.Sortable (bs.map (·.2)) ∧
  ∀ p, H p = none → Q (.ref p) (upd H p (.lst ((bs.mergeSort (PySem.W.dataLe false (·.2))).map (·.1))))
theorem vals_each : ∀ {bs : List (V × PyData)} {us : List Value}, Vals (bs.map (·.1)) us → PySem.W.EachIs (fun u b => RelV b.1 u) us bs
  | [], _, h => by cases h; exact .nil
  | b :: bs, _, h => by cases h with | cons r rs => exact .cons r (vals_each rs)
theorem each_vals : ∀ {bs : List (V × PyData)} {us : List Value}, PySem.W.EachIs (fun u b => RelV b.1 u) us bs → Vals (bs.map (·.1)) us
  | _, _, .nil => .nil
  | _, _, .cons r rs => .cons r (each_vals rs)
theorem each_mem2 {α β : Type} {R : α → β → Prop} : ∀ {as : List α} {bs : List β}, PySem.W.EachIs R as bs → PySem.W.EachIs (fun a b => R a b ∧ b ∈ bs) as bs
  | _, _, .nil => .nil
  | _, _, .cons r rs => .cons ⟨r, List.mem_cons_self⟩ ((each_mem2 rs).mono fun _ _ h => ⟨h.1, List.mem_cons_of_mem _ h.2⟩)
theorem cr_sortD (hu : X.A.units + 64 < cLine) : CallR X (.builtin "sorted") (rSortD X.K) := by
  intro pins s σ H vs us Q I r h
  obtain ⟨a, bs, rfl, hs, hd, hal, hk, q⟩ := h
  obtain ⟨its, rv, hl, hz⟩ := I.list hs
  rw [Vals.ref1 r]
  have e := vals_each rv
  rw [List.length_map] at hz
  refine PySem.W.sorted_data (enc := fun b : V × PyData => b.2) hl.isList e ((each_mem2 e).mono fun u b hb => Dp.reads I b.2 b.1 u (hd b hb.2).1 hb.1) hal hk hz (fun b hb => ?_) fun out ho eo => ?_
  · have := (hd b hb).2
    omega
  · obtain ⟨ep, he'⟩ := PyProof.Rows.sortedAll_at s.heap its out.toArray
    have hlen : ((bs.mergeSort (PySem.W.dataLe false (·.2))).map (·.1)).length ≤ sizeLine := by
      rw [List.length_map, List.length_mergeSort]
      exact hz
    exact ⟨.ref _, upd H (s.heap.objs.size + 1) (.lst _), I.laid (t' := s.toks) (fun _ _ => PyProof.Rows.sortedAll_old) (Nat.le_succ _) ⟨hlen, out, ep, each_vals eo, he'⟩, rfl, q _ (I.hok.fresh (Nat.le_succ _))⟩
def gSort (d : D) : Option D := match d with
  | .lst _ ds => if srtOk ds = true then some (.lst .own (ds.mergeSort leD)) else none
  | _ => none
theorem toPys_eq : ∀ ds : List D, toPys ds = ds.map toPy
  | [] => rfl
  | d :: ds => by show toPy d :: toPys ds = _; rw [toPys_eq ds]; rfl
theorem reps_zip {H : Hp} : ∀ {ds : List D} {vs : List V}, Reps K Γ H ds vs [] → ∃ bs : List (V × D), bs.map (·.1) = vs ∧ bs.map (·.2) = ds ∧ ∀ b ∈ bs, Rep K Γ H b.2 b.1 []
  | [], [], _ => ⟨[], rfl, rfl, fun _ m => nomatch m⟩
  | d :: ds, v :: vs, h => by
    obtain ⟨bs, h1, h2, h3⟩ := reps_zip h.uncons0.2
    refine ⟨(v, d) :: bs, by simp [h1], by simp [h2], fun b m => ?_⟩
    rcases List.mem_cons.mp m with rfl | m
    · exact h.uncons0.1
    · exact h3 b m
  | [], _ :: _, h => h.elim
  | _ :: _, [], h => h.elim
theorem reps_unzip {H : Hp} : ∀ {bs : List (V × D)}, (∀ b ∈ bs, Rep K Γ H b.2 b.1 []) → Reps K Γ H (bs.map (·.2)) (bs.map (·.1)) []
  | [], _ => rfl
  | b :: bs, h => Reps.cons0 (h b List.mem_cons_self) (reps_unzip fun c m => h c (List.mem_cons_of_mem _ m))
theorem cs_sort : CallSat K Γ (rSortD K) (g1 gSort) := cs_1 fun H x d F d' Q r hg q => by
  cases d with
  | lst m ds =>
    have hg' : (if srtOk ds = true then some (D.lst .own (ds.mergeSort leD)) else none) = some d' := hg
    split at hg'
    · rename_i hok
      cases hg'
      unfold srtOk at hok
      simp only [Bool.and_eq_true, Bool.or_eq_true, List.all_eq_true, decide_eq_true_eq] at hok
      obtain ⟨⟨⟨⟨h1, h2⟩, h3⟩, h4⟩, h5⟩ := hok
      obtain ⟨z, vs, rfl, rs, hsq⟩ := read_seq r (xs := ds) rfl h5
      have hL : SqL K H z vs := by
        rcases hsq with ⟨h, _⟩ | ⟨_, h⟩
        · exact h
        · cases h
      obtain ⟨bs, e1, e2, e3⟩ := reps_zip rs
      have em : (bs.map fun b => (b.1, toPy b.2)).map (·.1) = vs := by rw [List.map_map, ← e1]; rfl
      have ep : (bs.map (fun b => (b.1, toPy b.2))).map (·.2) = ds.map toPy := by rw [List.map_map, ← e2, List.map_map]; rfl
      refine ⟨z, bs.map fun b => (b.1, toPy b.2), rfl, by rw [em]; exact hL, fun b m => ?_, ?_, ?_, fun p np => ?_⟩
      · obtain ⟨c, hc, rfl⟩ := List.mem_map.mp m
        have hcd : dOk 8 c.2 = true := h1 c.2 (by rw [← e2]; exact List.mem_map_of_mem hc)
        exact ⟨(e3 c hc).dp hcd, (dOk_shape hcd).2⟩
      · rw [ep]
        intro x hx y hy
        obtain ⟨c, hc, rfl⟩ := List.mem_map.mp hx
        obtain ⟨c', hc', rfl⟩ := List.mem_map.mp hy
        exact h2 c hc c' hc'
      · rw [ep]
        rcases h3 with h3 | h3
        · refine .inl fun x hx => ?_
          obtain ⟨c, hc, rfl⟩ := List.mem_map.mp hx
          have := h3 c hc
          unfold isTupC at this
          split at this
          · rename_i y ys e; exact ⟨y, ys, e⟩
          · cases this
        · refine .inr fun x hx => ?_
          obtain ⟨c, hc, rfl⟩ := List.mem_map.mp hx
          have := h3 c hc
          unfold noTup at this
          split at this
          · cases this
          · cases this
          · rename_i n1 n2
            exact ⟨n1, n2⟩
      · have hs1 : (bs.map fun b => (b.1, toPy b.2)).mergeSort (PySem.W.dataLe false (·.2)) = (bs.mergeSort fun x y => leD x.2 y.2).map fun b => (b.1, toPy b.2) := (List.map_mergeSort (r := fun x y : V × D => leD x.2 y.2) (s := PySem.W.dataLe false fun b : V × PyData => b.2) (f := fun b : V × D => (b.1, toPy b.2)) (fun _ _ _ _ => rfl)).symm
        have hs2 : (bs.mergeSort fun x y => leD x.2 y.2).map (·.2) = ds.mergeSort leD := by
          rw [← e2]
          exact List.map_mergeSort (fun _ _ _ _ => rfl)
        rw [hs1, List.map_map]
        have hr : Reps K Γ H (ds.mergeSort leD) ((bs.mergeSort fun x y => leD x.2 y.2).map (·.1)) [] := by
          rw [← hs2]
          exact reps_unzip fun b m => e3 b ((List.mergeSort_perm _ _).mem_iff.mp m)
        exact new_lst hr q p np
    · cases hg'
  | _ => cases hg
end
end Vs

namespace Vs
open PySem PySem.Spec PyProof.Rows L2
/-! ### tables -/
def dval (kvs : List (Key × D)) (k : Key) : Option D := (kvs.find? fun kv => decide (kv.1 = k)).map (·.2)
def dput (kvs : List (Key × D)) (k : Key) (d : D) : List (Key × D) :=
  if (kvs.any fun kv => decide (kv.1 = k)) = true then kvs.map (fun kv => if kv.1 = k then (kv.1, d) else kv) else kvs ++ [(k, d)]
def ddrop (kvs : List (Key × D)) (k : Key) : List (Key × D) := kvs.filter fun kv => decide (kv.1 ≠ k)
def keyOf : D → Option Key
  | .int i => some (.inl i)
  | .str x => some (.inr x)
  | _ => none
section
variable {X : Cx} {Γ : Gm} {W : Wx} {K : PySem.W.Frag} {p p' fa fb f : Bool} {a b : Expr} {eva evb : SD → R D} {q pos : Pos} {H : Hp}
theorem RepK.val (k : Key) : ∀ {kvs : List (Key × D)} {ks : List (Key × V)}, RepK K Γ H kvs ks → (∀ d, dval kvs k = some d → ∃ v, valV ks k = some v ∧ Rep K Γ H d v []) ∧ (dval kvs k = none → valV ks k = none)
  | [], [], _ => ⟨fun d h => by simp [dval] at h, fun _ => rfl⟩
  | (k1, d1) :: r, (k2, v2) :: s, h => by
    obtain ⟨rfl, h2, h3⟩ := h
    have ih := RepK.val k h3
    by_cases e : k1 = k
    · have e1 : dval ((k1, d1) :: r) k = some d1 := by simp [dval, List.find?_cons, e]
      have e2 : valV ((k1, v2) :: s) k = some v2 := valV_pos e
      rw [e1, e2]
      exact ⟨fun d q => by cases q; exact ⟨_, rfl, h2⟩, fun q => nomatch q⟩
    · have e1 : dval ((k1, d1) :: r) k = dval r k := by simp [dval, List.find?_cons, e]
      have e2 : valV ((k1, v2) :: s) k = valV s k := valV_neg e
      rw [e1, e2]
      exact ih
  | [], _ :: _, h => h.elim
  | _ :: _, [], h => h.elim
theorem RepK.len : ∀ {kvs : List (Key × D)} {ks : List (Key × V)}, RepK K Γ H kvs ks → kvs.length = ks.length
  | [], [], _ => rfl
  | (_, _) :: r, (_, _) :: s, h => by simp [RepK.len h.2.2]
  | [], _ :: _, h => h.elim
  | _ :: _, [], h => h.elim
theorem RepK.any (k : Key) : ∀ {kvs : List (Key × D)} {ks : List (Key × V)}, RepK K Γ H kvs ks → (kvs.any fun kv => decide (kv.1 = k)) = ks.any fun kv => decide (kv.1 = k)
  | [], [], _ => rfl
  | (k1, _) :: r, (k2, _) :: s, h => by
    obtain ⟨rfl, _, h3⟩ := h
    rw [List.any_cons, List.any_cons, RepK.any k h3]
  | [], _ :: _, h => h.elim
  | _ :: _, [], h => h.elim
theorem RepK.repl (k : Key) {d : D} {v : V} (rd : Rep K Γ H d v []) : ∀ {kvs : List (Key × D)} {ks : List (Key × V)}, RepK K Γ H kvs ks → RepK K Γ H (kvs.map fun kv => if kv.1 = k then (kv.1, d) else kv) (ks.map fun kv => if kv.1 = k then (kv.1, v) else kv)
  | [], [], _ => trivial
  | (k1, _) :: r, (k2, _) :: s, h => by
    obtain ⟨rfl, h2, h3⟩ := h
    rw [List.map_cons, List.map_cons]
    by_cases e : k1 = k
    · rw [if_pos e, if_pos e]; exact ⟨rfl, rd, RepK.repl k rd h3⟩
    · rw [if_neg e, if_neg e]; exact ⟨rfl, h2, RepK.repl k rd h3⟩
  | [], _ :: _, h => h.elim
  | _ :: _, [], h => h.elim
theorem RepK.snoc (k : Key) {d : D} {v : V} (rd : Rep K Γ H d v []) : ∀ {kvs : List (Key × D)} {ks : List (Key × V)}, RepK K Γ H kvs ks → RepK K Γ H (kvs ++ [(k, d)]) (ks ++ [(k, v)])
  | [], [], _ => ⟨rfl, rd, trivial⟩
  | (k1, _) :: r, (k2, _) :: s, h => ⟨h.1, h.2.1, RepK.snoc k rd h.2.2⟩
  | [], _ :: _, h => h.elim
  | _ :: _, [], h => h.elim
theorem RepK.put (k : Key) {d : D} {v : V} (rd : Rep K Γ H d v []) {kvs : List (Key × D)} {ks : List (Key × V)} (h : RepK K Γ H kvs ks) : RepK K Γ H (dput kvs k d) (putK ks k v) := by
  unfold dput putK
  rw [h.any k]
  split
  · exact h.repl k rd
  · exact h.snoc k rd
theorem RepK.dropd (k : Key) : ∀ {kvs : List (Key × D)} {ks : List (Key × V)}, RepK K Γ H kvs ks → RepK K Γ H (ddrop kvs k) (dropK ks k)
  | [], [], _ => trivial
  | (k1, d1) :: r, (k2, v2) :: s, h => by
    obtain ⟨rfl, h2, h3⟩ := h
    unfold ddrop dropK
    rw [List.filter_cons, List.filter_cons]
    by_cases e : k1 = k
    · simp only [e, ne_eq, not_true_eq_false, decide_false]
      exact RepK.dropd k h3
    · simp only [ne_eq, e, not_false_eq_true, decide_true, if_true]
      exact ⟨rfl, h2, RepK.dropd k h3⟩
  | [], _ :: _, h => h.elim
  | _ :: _, [], h => h.elim
theorem key_rep {d : D} {v : V} {F : List Addr} {k : Key} (r : Rep K Γ H d v F) (h : keyOf d = some k) : v = kV k := by
  cases d with
  | int i => cases h; exact r.1
  | str x => cases h; exact r.1
  | _ => cases h
/-- a dict that is read -/
theorem read_dic {m : Md} {kvs : List (Key × D)} {v : V} {F : List Addr} (r : Rep K Γ H (.dic m kvs) v F) : ∃ z ks, v = .ref z ∧ Rd H z (.dK ks) ∧ RepK K Γ H kvs ks := by
  cases m with
  | own => obtain ⟨z, ks, rfl, h, rk, _⟩ := r; exact ⟨z, ks, rfl, .inl h, rk⟩
  | imm => obtain ⟨z, ks, o, rfl, h, rk, _⟩ := r; exact ⟨z, ks, rfl, .inr ⟨o, h⟩, rk⟩
  | bor => obtain ⟨z, ks, rfl, _, h, rk, _⟩ := r; exact ⟨z, ks, rfl, .inl h, rk⟩
/-! ### {} -/
def eDNew : SD → R D := fun env => .ok (.dic .own []) env
theorem j_dnew : J X Γ W true true (.Dict [] [] pos) eDNew := by
  refine ⟨_, pe_dnewK, fun σ H env fp re Q q z nz => ?_⟩
  refine q (.ref z) _ fp [z] ⟨re.same (same_new nz), ⟨z, [], rfl, upd_same, trivial, rfl⟩, by simp, Fm.same (same_new nz), fun y m => ?_, fun _ => ⟨rfl, rfl, same_new nz⟩, fun _ y m i => ?_⟩
  · rw [List.mem_singleton.mp m]; exact .inr nz
  · rw [List.mem_singleton.mp m]; exact re.fresh nz i
/-! ### k in d -/
def gInU (neg : Bool) (x y : D) : Option D := match y with
  | .dic _ kvs => (keyOf x).map fun k => .bl (xor neg (dval kvs k).isSome)
  | _ => gIn neg x y
def rDIn (neg : Bool) : R2 := fun x y H Q => ∃ a o, y = .ref a ∧ DGet H a x o ∧ Q (.bl (xor neg o.isSome)) H
theorem op_dIn (hu : X.A.units + 1 < cLine) : OpR X (compareOp .In) (rDIn false) := fun pins s σ H x y v u Q I rx ry ⟨z, o, ey, g, q⟩ => by
  subst ey
  obtain rfl : u = Value.ref z := ry
  exact d_in hu I g rx fun s3 I3 => ⟨.bl o.isSome, H, I3, rfl, by simpa using q⟩
theorem op_dNotIn (hu : X.A.units + 1 < cLine) : OpR X (compareOp .NotIn) (rDIn true) := fun pins s σ H x y v u Q I rx ry ⟨z, o, ey, g, q⟩ => by
  subst ey
  obtain rfl : u = Value.ref z := ry
  exact d_notIn hu I g rx fun s3 I3 => ⟨.bl (!o.isSome), H, I3, rfl, by simpa using q⟩
abbrev rInU (K : PySem.W.Frag) (neg : Bool) : R2 := fun x y H Q => rInA K neg x y H Q ∨ rDIn neg x y H Q
theorem or_inU (hu : X.A.units + 1 < cLine) : OpR X (compareOp .In) (rInU X.K false) := OpR.or or_in (op_dIn hu)
theorem or_notInU (hu : X.A.units + 1 < cLine) : OpR X (compareOp .NotIn) (rInU X.K true) := OpR.or or_notIn (op_dNotIn hu)
theorem os_inU {neg : Bool} : OpSat K Γ (rInU K neg) (gInU neg) := fun H x y dx dy Fx Fy d Q r1 r2 hg q => by
  have old : gIn neg dx dy = some d → rInU K neg x y H Q := fun h => .inl (os_in H x y dx dy Fx Fy d Q r1 r2 h q)
  cases dy with
  | dic m kvs =>
    cases hk : keyOf dx with
    | none => unfold gInU at hg; simp only [hk] at hg; cases hg
    | some k =>
      unfold gInU at hg
      simp only [hk, Option.map_some] at hg
      cases hg
      obtain ⟨z, ks, rfl, hz, rk⟩ := read_dic r2
      have ex := key_rep r1 hk
      have e : (dval kvs k).isSome = (valV ks k).isSome := by
        have h := rk.val k
        cases hv : dval kvs k with
        | none => rw [h.2 hv]; rfl
        | some d' => obtain ⟨v', e', _⟩ := h.1 d' hv; rw [e']; rfl
      refine .inr ⟨z, valV ks k, rfl, .inl ⟨ks, k, hz, ex, rfl⟩, ?_⟩
      rw [← e]
      exact q _ H [] ⟨rfl, rfl⟩ List.nodup_nil (Same.refl H) fun _ m => nomatch m
  | _ => exact old hg
/-! ### d[k] -/
def gDIx (x y : D) : Option D := match x with
  | .dic _ kvs => (keyOf y).bind fun k => (dval kvs k).bind fun d => if isImm d = true then some d else none
  | _ => none
def gIxU (x y : D) : Option D := match x with
  | .dic _ _ => gDIx x y
  | _ => gIx x y
theorem j_dIx (hu : X.A.units + 1 < cLine) (ha : J X Γ W p fa a eva) (hb : J X Γ W p' fb b evb) (hx : NoSl b) (hpf : (p' || fa) = true) : J X Γ W (p && p') true (.Subscript a b pos) (eBin gDIx eva evb) := by
  obtain ⟨ta, pa, sa⟩ := ha.ex
  obtain ⟨tb, pb, sb⟩ := hb.ex
  refine ⟨_, pe_dget hu pa pb hx, fun σ H env fp re Q h => ?_⟩
  refine sat2 sa sb hpf re h (fun c e z H' fp' r' f' => z H' fp' r' f') fun da db e2 x y H2 fp2 Fa Fb t q => ?_
  obtain ⟨d, hg, qq⟩ := hold_opt q
  cases da with
  | dic m kvs =>
    unfold gDIx at hg
    simp only at hg
    obtain ⟨k, hk, hg⟩ := Option.bind_eq_some_iff.mp hg
    obtain ⟨d', hd, hg⟩ := Option.bind_eq_some_iff.mp hg
    split at hg
    · rename_i him
      cases hg
      obtain ⟨z, ks, rfl, hz, rk⟩ := read_dic t.ra
      obtain ⟨v, hv, rv⟩ := (rk.val k).1 _ hd
      exact ⟨z, v, rfl, .inl ⟨ks, k, hz, key_rep t.rb hk, hv.symm⟩, qq v H2 fp2 [] ⟨t.re, rv, List.nodup_nil, t.fm, (fun _ m => nomatch m), t.pu, fun _ _ m => nomatch m⟩⟩
    · cases hg
  | _ => cases hg
theorem j_ixU (hu : X.A.units + 1 < cLine) (ha : J X Γ W p fa a eva) (hb : J X Γ W p' fb b evb) (hx : PlainIx b := by exact fun _ _ => rfl) (hpf : (p' || fa) = true := by rfl) : J X Γ W (p && p') true (.Subscript a b pos) (eBin gIxU eva evb) := by
  refine ((j_sub (pos := pos) ix_seq os_ix ha hb hx hpf).or (j_dIx (pos := pos) hu ha hb hx hpf)).congr ?_
  funext env
  show orR (((eva env).bind _)) ((eva env).bind _) = (eva env).bind _
  cases eva env with
  | bad => rfl
  | exc c e => rfl
  | ok d e =>
    simp only [R.bind_ok]
    cases evb e with
    | bad => rfl
    | exc c e => rfl
    | ok d2 e2 =>
      simp only [R.bind_ok]
      cases d with
      | dic m kvs =>
        have : gIx (.dic m kvs) d2 = none := by cases d2 <;> rfl
        rw [this]; rfl
      | _ =>
        unfold gIxU gDIx
        simp only
        generalize gIx _ d2 = o
        cases o <;> rfl
end
end Vs

namespace Vs
open PySem PySem.Spec PyProof.Rows L2
section
variable {X : Cx} {Γ : Gm} {W : Wx} {K : PySem.W.Frag} {p p' fa fb fc f : Bool} {a b c : Expr} {eva evb evc : SD → R D} {q pos : Pos} {H : Hp}
/-! ### d.get(k, x) -/
def gGet2 (d k x : D) : Option D := match d with
  | .dic _ kvs => (keyOf k).bind fun k => match dval kvs k with
    | some y => if isImm y = true then some y else none
    | none => if isImm x = true then some x else none
  | _ => none
def isDic : D → Bool
  | .dic _ _ => true
  | _ => false
def eGet2 (a b c : SD → R D) : SD → R D := fun env => (a env).bind fun d e1 => if isDic d = true then (b e1).bind fun k e2 => (c e2).bind fun x e3 => R.opt (gGet2 d k x) e3 else .bad
theorem j_get2 {apos cpos : Pos} (hu : X.A.units + 1 < cLine) (ha : J X Γ W p fa a eva) (hb : J X Γ W true fb b evb) (hc : J X Γ W true fc c evc) (h1 : attributeBase a "get" X.env (eval a X.env) = eval a X.env := by rfl)
    (h2 : ((backTo cpos (starEach [b, c] X.env)).all (fun x => !x.1) && (backToKw cpos (keywordEach [] X.env)).all (fun x => x.1.isSome)
    && decide (([b, c] : List Expr).length + ([] : List Keyword).length + (if ([] : List Keyword).isEmpty then 0 else 1) < 30)) = true := by rfl) (h3 : (apos.endLine == cpos.line) = true := by rfl) (h4 : backTo cpos (starEach [b, c] X.env) = [(false, eval b X.env), (false, eval c X.env)] := by rfl) :
    J X Γ W p true (.Call (.Attribute a "get" apos) [b, c] [] cpos) (eGet2 eva evb evc) := by
  obtain ⟨ta, pa, sa⟩ := ha.ex
  obtain ⟨tb, pb, sb⟩ := hb.ex
  obtain ⟨tc, pc, sc⟩ := hc.ex
  refine ⟨_, pe_dget2 hu pa pb pc ⟨h1, h2, h3, h4⟩, fun σ H env fp re Q h => ?_⟩
  refine sa σ H env fp re _ (hold_mono (hold_bind h) (fun d e1 k1 v H1 fp1 Fa oa => ?_) fun c e z => z)
  cases d with
  | dic m kvs =>
    obtain ⟨z, ks, rfl, hz, rk⟩ := read_dic oa.rep
    refine ⟨z, rfl, .inl ⟨ks, hz⟩, sb σ H1 e1 fp1 oa.re _ (hold_mono (hold_bind (show hold ((evb e1).bind _) _ _ from k1)) (fun dk e2 k2 y H2 fp2 Fb ob => ?_) fun c e z H' fp' r' f' => z H' fp' r' (oa.fm.trans f'))⟩
    refine sc σ H2 e2 fp2 ob.re _ (hold_mono (hold_bind k2) (fun dx e3 k3 x H3 fp3 Fc oc => ?_) fun c e z H' fp' r' f' => z H' fp' r' (oa.fm.trans (ob.fm.trans f')))
    obtain ⟨q1, q2, q3⟩ := ob.pu rfl
    obtain ⟨r1, r2, r3⟩ := oc.pu rfl
    have sm : Same H1 H3 := q3.trans r3
    obtain ⟨d, hg, k4⟩ := hold_opt k3
    unfold gGet2 at hg
    simp only at hg
    obtain ⟨k, hk, hg⟩ := Option.bind_eq_some_iff.mp hg
    have rk3 : RepK X.K Γ H3 kvs ks := rk.ag (Ag.same sm)
    have hz3 : Rd H3 z (.dK ks) := hz.imp (fun h => sm _ _ h) fun ⟨o, h⟩ => ⟨o, sm _ _ h⟩
    have ek : y = kV k := key_rep ob.rep hk
    have fin : ∀ (v : V), Rep X.K Γ H3 d v [] → Q v H3 := fun v rv => k4 v H3 fp3 [] ⟨oc.re, rv, List.nodup_nil, oa.fm.trans (ob.fm.trans oc.fm), (fun _ m => nomatch m), (fun hp => by
      obtain ⟨s1, s2, s3⟩ := oa.pu hp
      exact ⟨(r1.trans q1).trans s1, (r2.trans q2).trans s2, s3.trans sm⟩), fun _ _ m => nomatch m⟩
    refine ⟨valV ks k, .inl ⟨ks, k, hz3, ek, rfl⟩, ?_⟩
    cases hv : dval kvs k with
    | some y' =>
      rw [hv] at hg
      simp only at hg
      split at hg
      · cases hg
        obtain ⟨v, e, rv⟩ := (rk3.val k).1 _ hv
        rw [e]
        exact fin v rv
      · cases hg
    | none =>
      rw [hv] at hg
      simp only at hg
      split at hg
      · rename_i hi
        cases hg
        rw [(rk3.val k).2 hv]
        have rc := oc.rep
        rw [rc.immF hi] at rc
        exact fin x rc
      · cases hg
  | _ => exact k1.elim
/-! ### writing a slot's dict -/
theorem own_dic {H : Hp} {σ : L2.St} {env : SD} {fp : Fp} {s : Nat} {kvs : List (Key × D)} (re : RE K Γ H σ env fp) (he : env[s]? = some (some (.dic .own kvs))) : ∃ z ks, σ[s]? = some (some (.ref z)) ∧ H z = some (.dK ks) ∧ RepK K Γ H kvs ks ∧ fp s = [z] := by
  obtain ⟨v, hv, z, ks, rfl, hz, rk, eF⟩ := re.slot s _ he
  exact ⟨z, ks, hv, hz, rk, eF⟩
theorem dic_wr {H : Hp} {σ : L2.St} {env : SD} {fp : Fp} {s : Nat} {kvs kvs' : List (Key × D)} {z : Addr} {ks' : List (Key × V)} (re : RE K Γ H σ env fp) (he : env[s]? = some (some (.dic .own kvs))) (hv : σ[s]? = some (some (.ref z))) (hf : fp s = [z]) (rk : RepK K Γ H kvs' ks') :
    RE K Γ (upd H z (.dK ks')) σ (env.set s (some (.dic .own kvs'))) fp ∧ Fm H fp (upd H z (.dK ks')) fp :=
  re.wr he hv hf ⟨z, ks', rfl, upd_same, rk.ag (ag_wr (s := s) re (by rw [hf]; exact List.mem_singleton.mpr rfl)), rfl⟩
/-- d[k] = v -/
def dputS (s : Nat) (d dk : D) (e : SD) : R Fl := match e[s]?, keyOf dk with
  | some (some (.dic .own kvs)), some k => if kvs.length < sizeLine then .ok .nx (e.set s (some (.dic .own (dput kvs k d)))) else .bad
  | _, _ => .bad
def sDPut (s : Nat) (evk evv : SD → R D) : SD → R Fl := fun env => (evv env).bind fun d e1 => if isImm d = true then (eVar s e1).bind fun _ e1 => (evk e1).bind fun dk e2 => dputS s d dk e2 else .bad
theorem js_dput {s : Nat} {x : Str} {i : Expr} {evi : SD → R D} {pi fi : Bool} {pos tpos q : Pos} (hu : X.A.units + 1 < cLine) (hv : J X Γ W p f a eva) (hi : J X Γ W pi fi i evi) (hN : X.N[s]? = some x := by rfl) (hvis : Vis X.env.scope x := by first | exact Or.inl rfl | exact Or.inr (Or.inl rfl) | exact Or.inr (Or.inr rfl)) (hd : (x == ("__debug__" : Str)) = false := by decide)
    (hcd : (x == ("__classdict__" : Str)) = false := by decide) (hs : swapsWith a (some (.Subscript (.Name x q) i tpos)) pos.line X.env = pure false := by rfl) :
    JS X Γ W (.Assign [.Subscript (.Name x q) i tpos] a pos) (Vs.sDPut s evi eva) := by
  obtain ⟨ta, pa, sa⟩ := hv.ex
  obtain ⟨ti, pi', si⟩ := hi.ex
  refine ⟨_, ps_dput hu (pe_var (i := s) (pos := q) hN hvis hd hcd) pi' pa hs, fun σ H env fp re Z h => ?_⟩
  refine sa σ H env fp re _ (hold_mono (hold_bind h) (fun d e1 k1 v H1 fp1 Fa oa => ?_) fun c e z H' fp' r' f' => z σ H' fp' r' f')
  by_cases him : isImm d = true
  · rw [if_pos him] at k1
    obtain ⟨d0, h0, k1⟩ := eVar_hold k1
    obtain ⟨ov, hov, _⟩ := oa.re.slot s d0 h0
    refine ⟨ov, hov, si σ H1 e1 fp1 oa.re _ (hold_mono (hold_bind k1) (fun di e2 k2 u H2 fp2 Fi oi => ?_) fun c e z H' fp' r' f' => z σ H' fp' r' (oa.fm.trans f'))⟩
    unfold dputS at k2
    split at k2
    · rename_i kvs k he hk
      split at k2
      · rename_i hl
        obtain ⟨z, ks, hz1, hz2, rk, hf⟩ := own_dic oi.re he
        rw [hz1] at hov
        cases hov
        have ra := oa.rep
        rw [ra.immF him] at ra
        have rd : Rep X.K Γ H2 d v [] := ra.held oa.re oi.fm fun _ m => nomatch m
        obtain ⟨r', f'⟩ := dic_wr oi.re he hz1 hf (rk.put k rd)
        refine ⟨z, _, rfl, .inl ⟨ks, k, hz2, key_rep oi.rep hk, by rw [← rk.len]; exact hl, rfl⟩, k2 σ _ fp2 r' (oa.fm.trans (oi.fm.trans f'))⟩
      · exact k2.elim
    · exact k2.elim
  · rw [if_neg him] at k1
    exact k1.elim
/-- d[k] op= v -/
def sDAug (s : Nat) (g : D → D → Option D) (evk evv : SD → R D) : SD → R Fl := fun env => (eVar s env).bind fun _ env => (evk env).bind fun dk e => match e[s]?, keyOf dk with
  | some (some (.dic .own kvs)), some k => (match dval kvs k with
    | some x => if kvs.length < sizeLine then (evv e).bind fun y _ => (R.opt (g x y) e).bind fun z e => if isImm z = true then .ok .nx (e.set s (some (.dic .own (dput kvs k z)))) else .bad else .bad
    | none => .bad)
  | _, _ => .bad
theorem js_daug {s : Nat} {x : Str} {i : Expr} {evi : SD → R D} {pi fi : Bool} {op : Operator} {r : R2} {g : D → D → Option D} {pos tpos q : Pos} (hu : X.A.units + 1 < cLine) (ho : InOp X op r) (hO : OpSat X.K Γ r g) (hv : J X Γ W true f a eva) (hi : J X Γ W pi fi i evi) (hN : X.N[s]? = some x := by rfl) (hvis : Vis X.env.scope x := by first | exact Or.inl rfl | exact Or.inr (Or.inl rfl) | exact Or.inr (Or.inr rfl)) (hd : (x == ("__debug__" : Str)) = false := by decide)
    (hcd : (x == ("__classdict__" : Str)) = false := by decide) (ha : ∀ ov iv new, augStore i ov iv new = (do holding [new, ov, iv] (setItem ov iv new); release [new, ov, iv] []; pure .next) := by intros; rfl) :
    JS X Γ W (.AugAssign (.Subscript (.Name x q) i tpos) op a pos) (Vs.sDAug s g evi eva) := by
  obtain ⟨ta, pa, sa⟩ := hv.ex
  obtain ⟨ti, pi', si⟩ := hi.ex
  refine ⟨_, ps_daug hu (pe_var (i := s) (pos := q) hN hvis hd hcd) pi' pa ho ha, fun σ H env fp re Z h => ?_⟩
  obtain ⟨d0, h0, k1⟩ := eVar_hold h
  obtain ⟨ov, hov, _⟩ := re.slot s d0 h0
  refine ⟨ov, hov, si σ H env fp re _ (hold_mono (hold_bind k1) (fun di e2 k2 u H2 fp2 Fi oi => ?_) fun c e z H' fp' r' f' => z σ H' fp' r' f')⟩
  split at k2
  · rename_i kvs k he hk
    obtain ⟨z, ks, hz1, hz2, rk, hf⟩ := own_dic oi.re he
    rw [hz1] at hov
    cases hov
    cases hx : dval kvs k with
    | none => rw [hx] at k2; exact k2.elim
    | some dx =>
      rw [hx] at k2
      simp only at k2
      split at k2
      · rename_i hl
        obtain ⟨vx, hvx, rx⟩ := (rk.val k).1 dx hx
        refine ⟨z, vx, rfl, .inl ⟨ks, k, .inl hz2, key_rep oi.rep hk, hvx.symm⟩, ?_⟩
        refine sa σ H2 e2 fp2 oi.re _ (hold_mono (hold_bind k2) (fun dy e3 k3 y H3 fp3 Fy oy => ?_) fun c e z H' fp' r' f' => z σ H' fp' r' (oi.fm.trans f'))
        obtain ⟨q1, q2, q3⟩ := oy.pu rfl
        obtain ⟨dz, hg, k4⟩ := hold_opt (hold_bind k3)
        refine hO H3 vx y dx dy [] Fy dz _ (rx.same q3) oy.rep hg fun vz H4 Fz rz nz sm nw => ?_
        split at k4
        · rename_i hi
          have rz0 := rz
          rw [rz0.immF hi] at rz0
          have re4 : RE X.K Γ H4 σ e2 fp2 := by
            have := oy.re.same sm
            rw [q1, q2] at this
            exact this
          have hz4 : H4 z = some (.dK ks) := sm _ _ (q3 _ _ hz2)
          have rk4 : RepK X.K Γ H4 kvs ks := rk.ag (Ag.same (q3.trans sm))
          obtain ⟨r', f'⟩ := dic_wr re4 he hz1 hf (rk4.put k rz0)
          exact ⟨_, .inl ⟨ks, k, hz4, key_rep oi.rep hk, by rw [← rk.len]; exact hl, rfl⟩, k4 σ _ fp2 r' (oi.fm.trans ((Fm.same (q3.trans sm)).trans f'))⟩
        · exact k4.elim
      · exact k2.elim
  · exact k2.elim
end
end Vs

namespace Vs
open PySem PySem.Spec PyProof.Rows L2
section
variable {X : Cx} {Γ : Gm} {W : Wx} {K : PySem.W.Frag} {p p' fa fb fc f : Bool} {a b c : Expr} {eva evb evc : SD → R D} {q pos : Pos} {H : Hp}
/-- what a slot holds is written at one of its addresses -/
theorem RE.wrG {H : Hp} {σ : L2.St} {env : SD} {fp : Fp} {s : Nat} {d d' : D} {v : V} {z : Addr} {o' : HO} (re : RE K Γ H σ env fp) (he : env[s]? = some (some d)) (hv : σ[s]? = some (some v)) (hzs : z ∈ fp s) (hr : Rep K Γ (upd H z o') d' v (fp s)) :
    RE K Γ (upd H z o') σ (env.set s (some d')) fp ∧ Fm H fp (upd H z o') fp := by
  have il : s < env.length := (List.getElem?_eq_some_iff.mp he).1
  have mu := re.mut hzs
  have agO : ∀ F, z ∉ F → Ag Γ F H (upd H z o') := fun F n y o hy q => by
    by_cases e : y = z
    · subst e
      rw [hy] at mu
      rcases q with q | q | q
      · exact (n q).elim
      · exact (q mu).elim
      · exact (re.ng s y hzs q).elim
    · rw [upd_ne e]; exact hy
  refine ⟨⟨fun j dd e => ?_, fun j n => ?_, re.dis, re.nd, re.ng, re.pin, fun y o g h => ?_, by rw [List.length_set]; exact re.len⟩, ⟨fun y o h n => ?_, fun j y m => .inl ⟨j, m⟩⟩⟩
  · by_cases hj : j = s
    · subst hj
      rw [List.getElem?_set_self il] at e
      cases e
      exact ⟨v, hv, hr⟩
    · rw [List.getElem?_set_ne (Ne.symm hj)] at e
      obtain ⟨w, h1, h2⟩ := re.slot j dd e
      exact ⟨w, h1, h2.ag (agO _ fun m => hj (re.dis j s z m hzs))⟩
  · by_cases hj : j = s
    · subst hj
      exact (n d' (List.getElem?_set_self il)).elim
    · exact re.void j fun dd e => n dd (by rw [List.getElem?_set_ne (Ne.symm hj)]; exact e)
  · by_cases e : y = z
    · subst e; exact (re.ng s y hzs g).elim
    · rw [upd_ne e]; exact re.base y o g h
  · by_cases e : y = z
    · subst e; exact (n s hzs).elim
    · rw [upd_ne e]; exact h
/-- a write at z is not seen by what holds other addresses -/
theorem ag_off {H : Hp} {z : Addr} {o' : HO} {F : List Addr} (mu : Mut (H z)) (hg : ¬ Γ.G z) (n : z ∉ F) : Ag Γ F H (upd H z o') := fun y o hy q => by
  by_cases e : y = z
  · subst e
    rw [hy] at mu
    rcases q with q | q | q
    · exact (n q).elim
    · exact (q mu).elim
    · exact (hg q).elim
  · rw [upd_ne e]; exact hy
/-- one item for another, neither holding anything -/
theorem Reps.setI : ∀ {ds : List D} {vs : List V} {F : List Addr} {j : Nat} {old d : D} {v : V}, Reps K Γ H ds vs F → ds[j]? = some old → isImm old = true → Rep K Γ H d v [] → Reps K Γ H (ds.set j d) (vs.set j v) F
  | d0 :: ds, v0 :: vs, F, 0, old, d, v, h, e, hi, r => by
    cases e
    obtain ⟨F1, F2, e1, r1, rs⟩ := h
    have f0 := r1.immF hi
    subst f0
    exact ⟨[], F2, e1, r, rs⟩
  | d0 :: ds, v0 :: vs, F, j + 1, old, d, v, h, e, hi, r => by
    obtain ⟨F1, F2, e1, r1, rs⟩ := h
    exact ⟨F1, F2, e1, r1, Reps.setI (j := j) rs (by simpa using e) hi r⟩
  | [], [], _, _, _, _, _, _, e, _, _ => by simp at e
  | [], _ :: _, _, _, _, _, _, h, _, _, _ => h.elim
  | _ :: _, [], _, _, _, _, _, h, _, _, _ => h.elim
/-- one item rewritten in place: the item's address z is written -/
theorem Reps.inner {o' : HO} {z : Addr} (mu : Mut (H z)) (hg : ¬ Γ.G z) : ∀ {ds : List D} {vs : List V} {F : List Addr} {j : Nat} {old d : D} {v : V}, Reps K Γ H ds vs F → F.Nodup → ds[j]? = some old → vs[j]? = some v →
    (∀ F', Rep K Γ H old v F' → F'.Nodup → z ∈ F' ∧ Rep K Γ (upd H z o') d v F') → Reps K Γ (upd H z o') (ds.set j d) vs F ∧ z ∈ F
  | d0 :: ds, v0 :: vs, F, 0, old, d, v, h, nd, e, ev, k => by
    cases e; cases ev
    obtain ⟨F1, F2, rfl, r1, rs⟩ := h
    have n := List.nodup_append.mp nd
    obtain ⟨hz, r'⟩ := k F1 r1 n.1
    refine ⟨⟨F1, F2, rfl, r', rs.ag (ag_off mu hg fun m => n.2.2 z hz z m rfl)⟩, List.mem_append_left _ hz⟩
  | d0 :: ds, v0 :: vs, F, j + 1, old, d, v, h, nd, e, ev, k => by
    obtain ⟨F1, F2, rfl, r1, rs⟩ := h
    have n := List.nodup_append.mp nd
    obtain ⟨h1, h2⟩ := Reps.inner (j := j) mu hg rs n.2.1 (by simpa using e) (by simpa using ev) k
    exact ⟨⟨F1, F2, rfl, r1.ag (ag_off mu hg fun m => n.2.2 z m z h2 rfl), h1⟩, List.mem_append_right _ h2⟩
  | [], [], _, _, _, _, _, _, _, e, _, _ => by simp at e
  | [], _ :: _, _, _, _, _, _, h, _, _, _, _ => h.elim
  | _ :: _, [], _, _, _, _, _, h, _, _, _, _ => h.elim

mutual
theorem Rep.fpEq : ∀ {d : D} {v : V} {F F' : List Addr}, Rep K Γ H d v F → Rep K Γ H d v F' → F = F'
  | .non, _, _, _, h, h' => h.2.trans h'.2.symm
  | .bl _, _, _, _, h, h' => h.2.trans h'.2.symm
  | .int _, _, _, _, h, h' => h.2.trans h'.2.symm
  | .str _, _, _, _, h, h' => h.2.trans h'.2.symm
  | .tup ds, _, _, _, h, h' => by
    obtain ⟨_, _, _, _, _, f⟩ := h
    obtain ⟨_, _, _, _, _, f'⟩ := h'
    rw [f, f']
  | .tx ds, _, _, _, h, h' => by
    obtain ⟨_, _, _, _, _, f⟩ := h
    obtain ⟨_, _, _, _, _, f'⟩ := h'
    rw [f, f']
  | .lst .own ds, _, _, _, h, h' => by
    obtain ⟨a, vs, F1, rfl, s, r, f⟩ := h
    obtain ⟨a', vs', F2, e, s', r', f'⟩ := h'
    cases e
    rw [s] at s'
    cases s'
    rw [f, f', Reps.fpEq r r']
  | .lst .imm ds, _, _, _, h, h' => by
    obtain ⟨_, _, _, _, _, f⟩ := h
    obtain ⟨_, _, _, _, _, f'⟩ := h'
    rw [f, f']
  | .lst .bor ds, _, _, _, h, h' => by
    obtain ⟨_, _, _, _, _, _, f⟩ := h
    obtain ⟨_, _, _, _, _, _, f'⟩ := h'
    rw [f, f']
  | .dic .own kvs, _, _, _, h, h' => by
    obtain ⟨a, ks, rfl, _, _, f⟩ := h
    obtain ⟨a', ks', e, _, _, f'⟩ := h'
    cases e
    rw [f, f']
  | .dic .imm kvs, _, _, _, h, h' => by
    obtain ⟨_, _, _, _, _, _, f⟩ := h
    obtain ⟨_, _, _, _, _, _, f'⟩ := h'
    rw [f, f']
  | .dic .bor kvs, _, _, _, h, h' => by
    obtain ⟨_, _, _, _, _, _, f⟩ := h
    obtain ⟨_, _, _, _, _, _, f'⟩ := h'
    rw [f, f']
  | .obj _ _ _, _, _, _, h, _ => h.elim
  | .exn _, _, _, _, h, _ => h.elim
theorem Reps.fpEq : ∀ {ds : List D} {vs : List V} {F F' : List Addr}, Reps K Γ H ds vs F → Reps K Γ H ds vs F' → F = F'
  | [], [], _, _, h, h' => Eq.trans h (Eq.symm h')
  | d :: ds, v :: vs, _, _, h, h' => by
    obtain ⟨F1, F2, e, r, rs⟩ := h
    obtain ⟨F3, F4, e', r', rs'⟩ := h'
    rw [e, e', Rep.fpEq r r', Reps.fpEq rs rs']
  | [], _ :: _, _, _, h, _ => h.elim
  | _ :: _, [], _, _, h, _ => h.elim
end
/-! ### targets that write -/
def SatGW (K : PySem.W.Frag) (Γ : Gm) (t : TG) (g : D → SD → Option SD) : Prop := ∀ σ H env fp, RE K Γ H σ env fp → ∀ d v, Rep K Γ H d v [] → ∀ env', g d env = some env' → ∀ Q : L2.St → Hp → Prop,
  (∀ σ' H' fp', RE K Γ H' σ' env' fp' → Fm H fp H' fp' → Q σ' H') → t v σ H Q
structure JGw (X : Cx) (Γ : Gm) (tg : Expr) (g : D → SD → Option SD) : Prop where
  ex : ∃ t, PG X tg t ∧ SatGW X.K Γ t g
def SatGWs (K : PySem.W.Frag) (Γ : Gm) (t : TGs) (g : List D → SD → Option SD) : Prop := ∀ σ H env fp, RE K Γ H σ env fp → ∀ d v, Reps K Γ H d v [] → ∀ env', g d env = some env' → ∀ Q : L2.St → Hp → Prop,
  (∀ σ' H' fp', RE K Γ H' σ' env' fp' → Fm H fp H' fp' → Q σ' H') → t v σ H Q
structure JGws (X : Cx) (Γ : Gm) (tg : List Expr) (g : List D → SD → Option SD) : Prop where
  ex : ∃ t, PGs X tg t ∧ SatGWs X.K Γ t g
theorem JG.w {ws : List Nat} {tg : Expr} {g : D → SD → Option SD} (h : JG X Γ ws tg g) : JGw X Γ tg g := by
  obtain ⟨t, pg, s⟩ := h.ex
  exact ⟨t, pg, fun σ H env fp re d v r env' hg Q q => s σ H env fp re d v r env' hg Q fun σ' fp' re' k z _ => q σ' H fp' re' (Fm.tg k z)⟩
theorem jgws_nil : JGws X Γ [] gtNil := by
  refine ⟨_, pgs_nil, fun σ H env fp re d v r env' h Q q => ?_⟩
  cases d with
  | nil =>
    cases v with
    | nil => cases h; exact ⟨rfl, q _ _ _ re Fm.refl⟩
    | cons _ _ => exact r.elim
  | cons _ _ => cases h
theorem jgws_cons {e : Expr} {es : List Expr} {g : D → SD → Option SD} {gs : List D → SD → Option SD} (h1 : JGw X Γ e g) (h2 : JGws X Γ es gs)
    (hs : (assignEach (e :: es) X.env).map (·.2) = assign e X.env :: (assignEach es X.env).map (·.2) := by rfl) : JGws X Γ (e :: es) (gtCons g gs) := by
  obtain ⟨t, pg, s⟩ := h1.ex
  obtain ⟨t', pg', s'⟩ := h2.ex
  refine ⟨_, pgs_cons pg pg' hs, fun σ H env fp re d v r env' h Q q => ?_⟩
  cases d with
  | nil => cases h
  | cons d ds =>
    cases v with
    | nil => exact r.elim
    | cons v vs =>
      obtain ⟨r1, r2⟩ := r.uncons0
      obtain ⟨e1, g1, g2⟩ := Option.bind_eq_some_iff.mp h
      refine ⟨v, vs, rfl, s σ H env fp re d v r1 e1 g1 _ fun σ1 H1 fp1 re1 f1 => ?_⟩
      exact s' σ1 H1 e1 fp1 re1 ds vs (r2.held re f1 fun _ m => nomatch m) env' g2 _ fun σ2 H2 fp2 re2 f2 => q σ2 H2 fp2 re2 (f1.trans f2)
theorem jgw_tup {es : List Expr} {k n : Nat} {gs : List D → SD → Option SD} (hc : X.calm = true) (h : JGws X Γ es gs)
    (hn : (assignEach es X.env).length = n := by rfl) (hst : (assignEach es X.env).findIdx? (·.1) = none := by rfl) : JGw X Γ (.Tuple es k pos) (gtTup n gs) := by
  obtain ⟨t, pg, s⟩ := h.ex
  refine ⟨_, pg_tup hc pg hn hst, fun σ H env fp re d v r env' h Q q => ?_⟩
  cases d with
  | tup ds =>
    obtain ⟨a, vs, rfl, sq, rs, _⟩ := r
    have h' : (if ds.length = n then gs ds env else none) = some env' := h
    split at h'
    · rename_i hl
      exact ⟨a, vs, rfl, sq, by rw [← rs.len]; exact hl, s σ H env fp re ds vs rs env' h' Q q⟩
    · cases h'
  | _ => cases h
/-- target = value, the value can't be written -/
theorem js_asgW {tg : Expr} {g : D → SD → Option SD} (he : J X Γ W p f a eva) (hg : JGw X Γ tg g) (hs : swapsWithSole [tg] a pos.line X.env = pure false := by rfl) (hw : swappedStores [tg] a X.env = pure none := by rfl)
    (h1 : (assignEach [tg] X.env).map (·.2) = [assign tg X.env] := by rfl) : JS X Γ W (.Assign [tg] a pos) (sAsg g eva) := by
  obtain ⟨t, pe, s⟩ := he.ex
  obtain ⟨tg', pg, s'⟩ := hg.ex
  refine ⟨_, ps_asg pe pg hs hw h1, fun σ H env fp re Z h => s σ H env fp re _ (hold_mono (hold_bind h) (fun d e k v H' fp' Fr o => ?_) fun c e z H' fp' r' f' => z σ H' fp' r' f')⟩
  by_cases hi : isImm d = true
  · rw [if_pos hi] at k
    obtain ⟨e', hg', k⟩ := hold_opt (hold_bind k)
    have r := o.rep
    rw [r.immF hi] at r
    exact s' σ H' e fp' o.re d v r e' hg' _ fun σ2 H2 fp2 re2 f2 => k σ2 H2 fp2 re2 (o.fm.trans f2)
  · rw [if_neg hi] at k
    exact k.elim

/-! ### x[i] = .. of a slot's list or dict -/
def setD (x d di : D) : Option D := match x with
  | .lst .own xs => (match di with
    | .int i => (ixN xs.length i).bind fun j => (xs[j]?).bind fun old => if isImm old = true then some (.lst .own (xs.set j d)) else none
    | _ => none)
  | .dic .own kvs => (keyOf di).bind fun k => if kvs.length < sizeLine then some (.dic .own (dput kvs k d)) else none
  | _ => none
def gtSet (s : Nat) (evi : SD → R D) : D → SD → Option SD := fun d e => match evi e with
  | .ok di _ => (match e[s]? with
    | some (some x) => (setD x d di).map fun x' => e.set s (some x')
    | _ => none)
  | _ => none
def rSetU : TSet := fun o i v H Q => rSetL o i v H Q ∨ rSetD o i v H Q
theorem set_any (hu : X.A.units + 1 < cLine) : PSet X rSetU := fun pins s σ H o i v ov iv u Q I ro ri rv h => h.elim (set_list pins s σ H o i v ov iv u Q I ro ri rv) (set_dict hu pins s σ H o i v ov iv u Q I ro ri rv)
/-- the value at an address of its own is written -/
theorem set_at {x d di x' : D} {o u v : V} {F : List Addr} {Q : Hp → Prop} (rx : Rep K Γ H x o F) (nd : F.Nodup) (hgz : ∀ z ∈ F, ¬ Γ.G z) (ri : Rep K Γ H di u []) (rv : Rep K Γ H d v []) (hs : setD x d di = some x')
    (q : ∀ z o', z ∈ F → Mut (H z) → Rep K Γ (upd H z o') x' o F → Q (upd H z o')) : rSetU o u v H Q := by
  cases x with
  | lst m xs =>
    cases m with
    | own =>
      cases di with
      | int i =>
        have hs' : ((ixN xs.length i).bind fun j => (xs[j]?).bind fun old => if isImm old = true then some (D.lst .own (xs.set j d)) else none) = some x' := hs
        obtain ⟨j, hj, hs'⟩ := Option.bind_eq_some_iff.mp hs'
        obtain ⟨old, hold, hs'⟩ := Option.bind_eq_some_iff.mp hs'
        split at hs'
        · rename_i him
          cases hs'
          obtain ⟨z, vs, F', rfl, hz, rs, rfl⟩ := rx
          have mu : Mut (H z) := by rw [hz]; trivial
          have hzn : z ∉ F' := (List.nodup_cons.mp nd).1
          refine .inl ⟨z, vs, i, j, rfl, ri.1, hz, by rw [← rs.len]; exact hj, ?_⟩
          have hg : ¬ Γ.G z := hgz z List.mem_cons_self
          exact q z _ List.mem_cons_self mu ⟨z, vs.set j v, F', rfl, upd_same, (rs.setI hold him rv).ag (ag_off mu hg hzn), rfl⟩
        · cases hs'
      | _ => cases hs
    | _ => cases hs
  | dic m kvs =>
    cases m with
    | own =>
      have hs' : ((keyOf di).bind fun k => if kvs.length < sizeLine then some (D.dic .own (dput kvs k d)) else none) = some x' := hs
      obtain ⟨k, hk, hs'⟩ := Option.bind_eq_some_iff.mp hs'
      split at hs'
      · rename_i hl
        cases hs'
        obtain ⟨z, ks, rfl, hz, rk, rfl⟩ := rx
        have mu : Mut (H z) := by rw [hz]; trivial
        have hg : ¬ Γ.G z := hgz z List.mem_cons_self
        refine .inr ⟨z, _, rfl, .inl ⟨ks, k, hz, key_rep ri hk, by rw [← rk.len]; exact hl, rfl⟩, ?_⟩
        exact q z _ List.mem_cons_self mu ⟨z, putK ks k v, rfl, upd_same, (rk.put k rv).ag (ag_off mu hg (by simp)), rfl⟩
      · cases hs'
    | _ => cases hs
  | _ => cases hs
theorem key_imm {x d di x' : D} (h : setD x d di = some x') : isImm di = true := by
  cases x with
  | lst m xs =>
    cases m with
    | own => cases di with
      | int i => rfl
      | _ => cases h
    | _ => cases h
  | dic m kvs =>
    cases m with
    | own => cases di with
      | int i => rfl
      | str i => rfl
      | _ => cases h
    | _ => cases h
  | _ => cases h
theorem jgw_set {s : Nat} {x : Str} {i : Expr} {evi : SD → R D} {fi : Bool} {tpos q : Pos} (hu : X.A.units + 1 < cLine) (hi : J X Γ W0 true fi i evi) (hN : X.N[s]? = some x := by rfl) (hvis : Vis X.env.scope x := by first | exact Or.inl rfl | exact Or.inr (Or.inl rfl) | exact Or.inr (Or.inr rfl)) (hd : (x == ("__debug__" : Str)) = false := by decide)
    (hcd : (x == ("__classdict__" : Str)) = false := by decide) (ha : ∀ v, assign (.Subscript (.Name x q) i tpos) X.env v = (do
      let ov ← holding [v] (eval (.Name x q) X.env)
      let iv ← holding [v, ov] (eval i X.env)
      standAt tpos
      holding [v, ov, iv] (setItem ov iv v)
      release [v, ov, iv] []) := by intro _; rfl) : JGw X Γ (.Subscript (.Name x q) i tpos) (gtSet s evi) := by
  obtain ⟨ti, pi', si⟩ := hi.ex
  refine ⟨_, pg_sub (pe_var (i := s) (pos := q) hN hvis hd hcd) pi' (set_any hu) ha, fun σ H env fp re d v r env' h Q q => ?_⟩
  unfold gtSet at h
  split at h
  · rename_i di e1 hev
    split at h
    · rename_i x0 he
      obtain ⟨x', hs, rfl⟩ := Option.map_eq_some_iff.mp h
      obtain ⟨o, ho, rx⟩ := re.slot s _ he
      refine ⟨o, ho, si σ H env fp re _ ?_⟩
      rw [hev]
      intro u H1 fp1 F1 o1
      obtain ⟨q1, q2, q3⟩ := o1.pu rfl
      have re1 : RE X.K Γ H1 σ env fp := by have := o1.re; rw [q1, q2] at this; exact this
      have ri := o1.rep
      rw [ri.immF (key_imm hs)] at ri
      refine set_at (rx.same q3) (re.nd s) (re.ng s) ri (r.same q3) hs fun z o' hz mu hr => ?_
      obtain ⟨r', f'⟩ := re1.wrG he ho hz hr
      exact q σ _ fp r' ((Fm.same q3).trans f')
    · cases h
  · cases h
/-! ### x[c][i] = .., c written -/
def setD2 (x d di : D) (c : Nat) : Option D := match x with
  | .lst .own xs => (xs[c]?).bind fun y => (setD y d di).map fun y' => .lst .own (xs.set c y')
  | _ => none
def gtSet2 (s c : Nat) (evi : SD → R D) : D → SD → Option SD := fun d e => match evi e with
  | .ok di _ => (match e[s]? with
    | some (some x) => (setD2 x d di c).map fun x' => e.set s (some x')
    | _ => none)
  | _ => none
theorem jgw_set2 {s c : Nat} {cc : Int} {x : Str} {i : Expr} {evi : SD → R D} {fi : Bool} {tpos q cpos cp : Pos} {kk : Nat} (hu : X.A.units + 1 < cLine) (hi : J X Γ W0 true fi i evi) (hcc : cc = (c : Int) := by rfl) (hN : X.N[s]? = some x := by rfl) (hvis : Vis X.env.scope x := by first | exact Or.inl rfl | exact Or.inr (Or.inl rfl) | exact Or.inr (Or.inr rfl)) (hd : (x == ("__debug__" : Str)) = false := by decide)
    (hcd : (x == ("__classdict__" : Str)) = false := by decide) (hpl : PlainIx (.Constant (.int cc) kk cp) := by exact fun _ _ => rfl) (ha : ∀ v, assign (.Subscript (.Subscript (.Name x q) (.Constant (.int cc) kk cp) cpos) i tpos) X.env v = (do
      let ov ← holding [v] (eval (.Subscript (.Name x q) (.Constant (.int cc) kk cp) cpos) X.env)
      let iv ← holding [v, ov] (eval i X.env)
      standAt tpos
      holding [v, ov, iv] (setItem ov iv v)
      release [v, ov, iv] []) := by intro _; rfl) : JGw X Γ (.Subscript (.Subscript (.Name x q) (.Constant (.int cc) kk cp) cpos) i tpos) (gtSet2 s c evi) := by
  obtain ⟨ti, pi', si⟩ := hi.ex
  refine ⟨_, pg_sub (pe_ix ix_list (pe_var (i := s) (pos := q) hN hvis hd hcd) pe_int hpl) pi' (set_any hu) ha, fun σ H env fp re d v r env' h Q q => ?_⟩
  unfold gtSet2 at h
  split at h
  · rename_i di e1 hev
    split at h
    · rename_i x0 he
      obtain ⟨x', hs, rfl⟩ := Option.map_eq_some_iff.mp h
      obtain ⟨o, ho, rx⟩ := re.slot s _ he
      cases x0 with
      | lst m xs =>
        cases m with
        | own =>
          have hs' : ((xs[c]?).bind fun y => (setD y d di).map fun y' => D.lst .own (xs.set c y')) = some x' := hs
          obtain ⟨y, hy, hs'⟩ := Option.bind_eq_some_iff.mp hs'
          obtain ⟨y', hsy, rfl⟩ := Option.map_eq_some_iff.mp hs'
          obtain ⟨z, vs, F', rfl, hz, rs, eF⟩ := rx
          have nd := re.nd s
          rw [eF] at nd
          obtain ⟨vy, Fy, gy, ry, my, ny⟩ := rs.get hy
          have hat : atI vs cc = some vy := by
            rw [hcc]
            unfold atI ixN
            have hl : c < vs.length := (List.getElem?_eq_some_iff.mp gy).1
            rw [if_pos (by omega), if_pos (by omega)]
            simpa using gy
          refine ⟨.ref z, ho, ⟨z, vs, cc, vy, rfl, rfl, .inl (.inl hz), hat, ?_⟩⟩
          refine si σ H env fp re _ ?_
          rw [hev]
          intro u H1 fp1 F1 o1
          obtain ⟨q1, q2, q3⟩ := o1.pu rfl
          have re1 : RE X.K Γ H1 σ env fp := by have := o1.re; rw [q1, q2] at this; exact this
          have ri := o1.rep
          rw [ri.immF (key_imm hsy)] at ri
          have ngs : ∀ w ∈ F', ¬ Γ.G w := fun w hw => re.ng s w (by rw [eF]; exact List.mem_cons_of_mem _ hw)
          refine set_at (ry.same q3) (ny (List.nodup_cons.mp nd).2) (fun w hw => ngs w (my w hw)) ri (r.same q3) hsy fun w o' hw mu hr => ?_
          have hwF : w ∈ F' := my w hw
          have hzw : z ≠ w := fun e => (List.nodup_cons.mp nd).1 (e ▸ hwF)
          have hz1 : (upd H1 w o') z = some (.lst vs) := by rw [upd_ne hzw]; exact q3 _ _ hz
          obtain ⟨rs', _⟩ := Reps.inner (o' := o') mu (ngs w hwF) (rs.same q3) (List.nodup_cons.mp nd).2 hy gy (d := y') fun F2 h2 n2 => by
            have := Rep.fpEq h2 (ry.same q3)
            subst this
            exact ⟨hw, hr⟩
          obtain ⟨r', f'⟩ := re1.wrG (d' := .lst .own (xs.set c y')) he ho (by rw [eF]; exact List.mem_cons_of_mem _ hwF) ⟨z, vs, F', rfl, hz1, rs', eF⟩
          exact q σ _ fp r' ((Fm.same q3).trans f')
        | _ => cases hs
      | _ => cases hs
    · cases h
  · cases h
end
end Vs

namespace Vs
open PySem PySem.Spec PyProof.Rows L2
section
variable {X : Cx} {Γ : Gm} {W : Wx} {K : PySem.W.Frag} {p p' fa fb fc f : Bool} {a b c : Expr} {eva evb evc : SD → R D} {q pos : Pos} {H : Hp} {es : List Expr} {evs : SD → R (List D)}
/-! ### freezing, where there is something to freeze -/
def sFz (i : Nat) : SD → R Fl := fun env => match env[i]? with
  | some (some (.lst .own xs)) => if isImms xs = true then .ok .nx (env.set i (some (.lst .imm xs))) else .ok .nx env
  | _ => .ok .nx env
theorem JS.or {st : Stmt} {sa sb : SD → R Fl} (h : JS X Γ W st sa) (h' : JS X Γ W st sb) : JS X Γ W st (fun env => orR (sa env) (sb env)) := by
  obtain ⟨t, pe, s⟩ := h.ex
  obtain ⟨t', pe', s'⟩ := h'.ex
  exact ⟨fun Z σ H => t Z σ H ∨ t' Z σ H, ⟨fun pins s σ H D I h => h.elim (pe.run pins s σ H D I) (pe'.run pins s σ H D I)⟩, fun σ H env fp re Z q => (hold_or q).imp (s σ H env fp re Z) (s' σ H env fp re Z)⟩
/-- told by one of two, whichever the data say -/
theorem JS.pick {st : Stmt} {sa sb : SD → R Fl} (k : SD → Bool) (h : JS X Γ W st sa) (h' : JS X Γ W st sb) : JS X Γ W st (fun env => if k env = true then sa env else sb env) := by
  obtain ⟨t, pe, s⟩ := h.ex
  obtain ⟨t', pe', s'⟩ := h'.ex
  refine ⟨fun Z σ H => t Z σ H ∨ t' Z σ H, ⟨fun pins s σ H D I h => h.elim (pe.run pins s σ H D I) (pe'.run pins s σ H D I)⟩, fun σ H env fp re Z q => ?_⟩
  by_cases hk : k env = true
  · simp only [hk, if_true] at q
    exact .inl (s σ H env fp re Z q)
  · simp only [hk] at q
    exact .inr (s' σ H env fp re Z q)
def ownL : Option (Option D) → Bool
  | some (some (.lst .own xs)) => isImms xs
  | _ => false
theorem fz_eq (i : Nat) (ss : SD → R Fl) : (fun env : SD => if ownL env[i]? = true then sSeq (sFreeze i) ss env else ss env) = sSeq (sFz i) ss := by
  funext env
  unfold sSeq sFreeze sFz ownL
  cases env[i]? with
  | none => rfl
  | some o =>
    cases o with
    | none => rfl
    | some d =>
      cases d with
      | lst m xs =>
        cases m with
        | own =>
          simp only
          by_cases hi : isImms xs = true
          · simp only [hi, if_true]
          · simp only [hi]; rfl
        | _ => rfl
      | _ => rfl
theorem js_fz (i : Nat) {st : Stmt} {ss : SD → R Fl} (h : JS X Γ W st ss) : JS X Γ W st (sSeq (sFz i) ss) := by
  rw [← fz_eq]
  exact JS.pick (fun env => ownL env[i]?) (js_pre i h) h
/-! ### a list whose first item is a list of its own -/
def gLstH (ds : List D) : Option D := match ds with
  | d :: r => if isImms r = true ∧ r.length < sizeLine then some (.lst .own (d :: r)) else none
  | [] => none
theorem j_lstH (ha : J X Γ W p true a eva) (hr : JA X Γ W p' fb es evs) (hs : starEach (a :: es) X.env = (false, eval a X.env) :: starEach es X.env := by rfl) : J X Γ W (p && p') true (.List (a :: es) pos) (eArgs gLstH (aCons eva evs)) := by
  obtain ⟨ta, pa, sa⟩ := ha.ex
  obtain ⟨tb, pb, sb⟩ := hr.ex
  refine ⟨_, pe_lst (pa_cons pa pb hs), fun σ H env fp re Q h => ?_⟩
  refine sa σ H env fp re _ (hold_mono (hold_bind (hold_bind h)) (fun da e1 h1 x H1 fp1 Fa oa => ?_) fun c e z H' fp' r' f' => z H' fp' r' f')
  refine sb σ H1 e1 fp1 oa.re _ (hold_mono (hold_bind h1) (fun db e2 h2 y H2 fp2 Fb ob => ?_) fun c e z H' fp' r' f' => z H' fp' r' (oa.fm.trans f'))
  obtain ⟨d, hg, k⟩ := hold_opt h2
  have hg' : (if isImms db = true ∧ db.length < sizeLine then some (D.lst .own (da :: db)) else none) = some d := hg
  split at hg'
  · rename_i hh
    cases hg'
    have ra : Rep X.K Γ H2 da x Fa := oa.rep.held oa.re ob.fm (oa.fr rfl)
    have rb := ob.rep
    rw [rb.immF hh.1] at rb
    have hfr : ∀ z ∈ Fa, ∀ i, z ∉ fp2 i := fun z m i mi => by
      rcases ob.fm.new i z mi with ⟨j, q⟩ | q
      · exact oa.fr rfl z m j q
      · have hm := oa.rep.mut z m
        rw [q] at hm
        exact hm
    refine ⟨by rw [List.length_cons, ← rb.len]; exact hh.2, fun z nz => ?_⟩
    have hzF : z ∉ Fa := fun m => by
      have := ra.mut z m
      rw [nz] at this
      exact this
    refine k (.ref z) _ fp2 (z :: Fa) ⟨ob.re.same (same_new nz), ⟨z, x :: y, Fa, rfl, upd_same, ⟨Fa, [], by simp, ra.same (same_new nz), rb.same (same_new nz)⟩, rfl⟩, List.nodup_cons.mpr ⟨hzF, oa.nd⟩, (oa.fm.trans ob.fm).trans (Fm.same (same_new nz)), fun w m => ?_, fun hp => ?_, fun _ w m i => ?_⟩
    · rcases List.mem_cons.mp m with rfl | m
      · exact (oa.fm.trans ob.fm).back (.inr nz)
      · exact oa.nw w m
    · rw [Bool.and_eq_true] at hp
      obtain ⟨q1, q2, q3⟩ := oa.pu hp.1
      obtain ⟨r1, r2, r3⟩ := ob.pu hp.2
      exact ⟨r1.trans q1, r2.trans q2, (q3.trans r3).trans (same_new nz)⟩
    · rcases List.mem_cons.mp m with rfl | m
      · exact ob.re.fresh nz i
      · exact hfr w m i
  · cases hg'
end
end Vs

namespace Vs
open PySem PySem.Spec PyProof.Rows L2
theorem law_end {P : Program} {w : World} {K : PySem.W.Frag} {h : Heap} {mg : Str → Option Value} {fa : Addr} {fn : List D → R D} {k : Nat} {params : Arguments} {body : List Stmt} {scope : Scope} (KX : K.In h) (G : h.Ns mainGlobals mg) (hmg : mg ("law" : Str) = some (.ref fa))
    (all : ∀ base : Heap, Ok P w K mg base "law" k ["script"] (spF K 1 [] fn)) (hd : ∃ fd, FunD K "law" "law" params body scope [] [] (He.ga K "law") fd)
    (hb : ∀ (kV doc pm : Value) (an : Option Addr) (cdv ct : Value) (us : List Value), us.length = (["script"] : List Str).length → bindArgs (PySem.W.fnOf "law" "law" params body scope .none kV doc pm an cdv ct) ⟨us, []⟩ = pure ((["script"] : List Str).zip us))
    (ht : ∀ ns : List Int, ns.length ≤ 63 → ∃ e, fn [.lst .imm (ns.map .int)] = .ok (.bl true) e) :
    ∃ (K' : PySem.W.Frag) (fd : FuncData) (sp : Sp), K'.In h ∧ (∀ (s : Shared) (u : Value), BindsTo s fd ⟨[u], []⟩ [("script", u)]) ∧
        (∀ (H : Hp) (a : Addr) (ns : List Int), ns.length ≤ 63 → Only H → SqL K' H a (ns.map V.int) → sp [.ref a] H (fun v _ => v = .bl true) fun _ _ _ => False) ∧
        ∀ base : Heap, K'.In base → base.Ns mainGlobals mg → FnOk P w K' mg base CX0 k fa fd ["script"] sp := by
  obtain ⟨fd, F⟩ := hd
  have bA := FunD.bindsA (ps := ["script"]) F hb
  refine ⟨K, fd, spF K 1 [] fn, KX, fun s v => bA s [v] rfl, fun H a ns hl hO hS => ?_, fun base _ _ => ?_⟩
  · obtain ⟨e, he⟩ := ht ns hl
    have hI : ImmL K H a (ns.map V.int) := by
      rcases hS with (hS | ⟨o, hS⟩) | hS
      · rcases hO a with h0 | ⟨o, xs, h0⟩
        · rw [h0] at hS; cases hS
        · rw [h0] at hS; cases hS
      · exact .inl ⟨o, hS⟩
      · exact .inr hS
    refine ⟨[.lst .imm (ns.map .int)], fun _ => [], rfl, rfl, fun i d hi => ?_, (fun i z => (z rfl).elim), (fun _ _ _ m => nomatch m), fun _ => List.nodup_nil, ?_⟩
    · cases i with
      | zero =>
        cases hi
        exact ⟨.ref a, rfl, a, _, rfl, hI, Reps.ofInts, rfl⟩
      | succ i => simp at hi
    · rw [he]
      intro v H' fp' Fr _ rep _ _ _ _
      exact rep.1
  · obtain ⟨fd', Fn, _, _, hm, oc, od, osl, lk⟩ := (all base).ex
    obtain ⟨oc', od', dV, kV, doc, pm, an, cdv, ct, osl', e1, lk', _⟩ := F.ex
    rw [lk] at lk'
    cases lk'
    have e := hmg.symm.trans hm
    cases e
    exact Fn
end Vs

/-! list(zip(xs, ys)): the pairs are kept, so each is a tuple of its own -/
namespace Vs
open PySem PySem.Spec PyProof.Rows L2
structure ZipG (xs ys : Array Value) (lo : Addr) (h : Heap) (as : List Addr) : Prop where
  rise : as.Pairwise (· < ·)
  above : ∀ a ∈ as, lo < a
  pairs : ∀ (j : Nat) (a : Addr), as[j]? = some a → ∃ x y, xs[j]? = some x ∧ ys[j]? = some y ∧ IsPair h a x y
theorem ZipG.there {xs ys : Array Value} {lo : Addr} {h : Heap} {as : List Addr} (g : ZipG xs ys lo h as) {a : Addr} (ha : a ∈ as) : a < h.objs.size := by
  obtain ⟨j, hj⟩ := List.mem_iff_getElem?.mp ha
  obtain ⟨_, _, _, _, e⟩ := g.pairs j a hj
  exact Heap.lt_size e
structure ZSt (h : Heap) (z TI TO i1 i2 l1 l2 S : Addr) (i : Nat) : Prop where
  st : (IsZip h z TI TO .none ∧ ∃ a b, IsPair h TO a b) ∨ ∃ (T : Addr) (f : Bool) (oT : Obj), IsZipHeld h z TI TO T f ∧ h.get? T = some oT ∧ T ≠ z ∧ T ≠ i1 ∧ T ≠ i2 ∧ T ≠ S
  ti : IsPair h TI (.ref i1) (.ref i2)
  it1 : h.IsListIter i1 l1 i
  it2 : h.IsListIter i2 l2 i
structure Off (z TI TO i1 i2 S : Addr) : Prop where
  z : S ≠ z
  TI : S ≠ TI
  TO : S ≠ TO
  i1 : S ≠ i1
  i2 : S ≠ i2
theorem ZSt.keep {h h' : Heap} {z TI TO i1 i2 l1 l2 S : Addr} {i : Nat} (hs : ZSt h z TI TO i1 i2 l1 l2 S i) (o : Off z TI TO i1 i2 S) (k : ∀ b x, b ≠ S → h.get? b = some x → h'.get? b = some x) : ZSt h' z TI TO i1 i2 l1 l2 S i := by
  refine ⟨?_, k _ _ (Ne.symm o.TI) hs.ti, hs.it1.at fun x e => k _ x (Ne.symm o.i1) e, hs.it2.at fun x e => k _ x (Ne.symm o.i2) e⟩
  rcases hs.st with ⟨h1, a, b, h2⟩ | ⟨T, f, oT, h1, h2, h3, h4, h5, h6⟩
  · exact .inl ⟨k _ _ (Ne.symm o.z) h1, a, b, k _ _ (Ne.symm o.TO) h2⟩
  · exact .inr ⟨T, f, oT, k _ _ (Ne.symm o.z) h1, k _ _ h6 h2, h3, h4, h5, h6⟩
section
variable {prog : Program} {w : World} {A : Around} {E : Value → Shared → Prop} {s : Shared} {z TI TO i1 i2 l1 l2 S : Addr} {xs ys : Array Value}
theorem zl_item {i : Nat} {x y : Value} {Q : Option Value → Shared → Prop} (D : ZipApart z TI TO i1 i2 l1 l2) (o : Off z TI TO i1 i2 S) (hs : ZSt s.heap z TI TO i1 i2 l1 l2 S i) (hS : S < s.heap.objs.size) (hl1 : s.heap.IsList l1 xs) (hl2 : s.heap.IsList l2 ys) (hx : xs[i]? = some x) (hy : ys[i]? = some y)
    (hQ : ∀ h', ZSt h' z TI TO i1 i2 l1 l2 S (i + 1) → IsPair h' s.heap.objs.size x y → h'.objs.size = s.heap.objs.size + 1 → (∀ c o, c ≠ z → c ≠ TO → c ≠ i1 → c ≠ i2 → s.heap.get? c = some o → h'.get? c = some o) → Q (some (.ref s.heap.objs.size)) { s with heap := h' }) :
    wpAny (model prog w) A (pyNext (.ref z)) Q E s := by
  have ne : ∀ {c o}, s.heap.get? c = some o → s.heap.objs.size ≠ c := fun e => Nat.ne_of_gt (Heap.lt_size e)
  have e1 : s.heap.objs.size ≠ i1 := by obtain ⟨_, e, _⟩ := hs.it1; exact ne e
  have e2 : s.heap.objs.size ≠ i2 := by obtain ⟨_, e, _⟩ := hs.it2; exact ne e
  rcases hs.st with ⟨h1, a, b, h2⟩ | ⟨T, f, oT, h1, h2, h3, h4, h5, h6⟩
  · refine wpAny_pyNext_zip_item D h1 hs.ti h2 hs.it1 hs.it2 hl1 hl2 hx hy fun h' a1 a2 a3 a4 a5 a6 hk => ?_
    exact hQ h' ⟨.inr ⟨_, false, _, a1, a5, ne h1, e1, e2, Nat.ne_of_gt hS⟩, hk _ _ D.TIz D.TITO D.TIi1 D.TIi2 hs.ti, a3, a4⟩ a5 a6 hk
  · refine wpAny_pyNext_zip_item_held D h1 h2 hs.ti hs.it1 hs.it2 hl1 hl2 hx hy fun h' a1 a3 a4 a5 a6 hk => ?_
    exact hQ h' ⟨.inr ⟨T, true, oT, a1, hk _ _ h3 h4 h5 h2, h3, h4, h5, h6⟩, hk _ _ D.TIz D.TIi1 D.TIi2 hs.ti, a3, a4⟩ a5 a6 fun c o c1 _ c3 c4 e => hk c o c1 c3 c4 e
theorem zl_done {i : Nat} {Q : Option Value → Shared → Prop} (hh : A.handled = none) (D : ZipApart z TI TO i1 i2 l1 l2) (hs : ZSt s.heap z TI TO i1 i2 l1 l2 S i) (hl1 : s.heap.IsList l1 xs) (hl2 : s.heap.IsList l2 ys) (hend : xs[i]? = none ∨ ys[i]? = none)
    (hQ : ∀ h', (∀ c o, c ≠ z → c ≠ TO → c ≠ i1 → c ≠ i2 → s.heap.get? c = some o → h'.get? c = some o) → Q none { s with heap := h' }) : wpAny (model prog w) A (pyNext (.ref z)) Q E s := by
  rcases hs.st with ⟨h1, a, b, h2⟩ | ⟨T, f, oT, h1, h2, h3, h4, h5, h6⟩
  · exact wpAny_pyNext_zip_end hh D h1 hs.ti h2 hs.it1 hs.it2 hl1 hl2 hend hQ
  · exact wpAny_pyNext_zip_end_held hh D h1 h2 hs.ti hs.it1 hs.it2 hl1 hl2 hend fun h' hk => hQ h' fun c o c1 _ c3 c4 e => hk c o c1 c3 c4 e
end
section
variable {prog : Program} {w : World} {A : Around} {s : Shared} {R : Result → Shared → Prop} {z TI TO i1 i2 l1 l2 S lo : Addr} {xs ys : Array Value}
theorem zl_loop (hh : A.handled = none) (D : ZipApart z TI TO i1 i2 l1 l2) (o : Off z TI TO i1 i2 S) (hS1 : l1 ≠ S) (hS2 : l2 ≠ S) (hSlo : S ≤ lo) (hz : z ≤ lo) (hTO : TO ≤ lo) (hi1 : i1 ≤ lo) (hi2 : i2 ≤ lo) (hn : min xs.size ys.size ≤ sizeLine) (res : Value) {h₁ : Heap}
    (hR : ∀ h' tk acc c as, (∀ b o, b ≠ S → b ≠ z → b ≠ TO → b ≠ i1 → b ≠ i2 → h₁.get? b = some o → h'.get? b = some o) → h'.get? S = some { cls := .type "list", dict := none, data := .seq acc c, slots := #[] } → as.length = min xs.size ys.size → ZipG xs ys lo h' as →
      acc.toList = as.map Value.ref → R (.ok (.ret res)) { s with heap := h', toks := tk }) :
    ∀ (k i : Nat) (h : Heap) (tk c : Nat) (acc : Array Value) (as : List Addr), min xs.size ys.size - i = k → i ≤ min xs.size ys.size → ZSt h z TI TO i1 i2 l1 l2 S i → h.IsList l1 xs → h.IsList l2 ys → (∀ b o, b ≠ S → b ≠ z → b ≠ TO → b ≠ i1 → b ≠ i2 → h₁.get? b = some o → h.get? b = some o) →
      h.get? S = some { cls := .type "list", dict := none, data := .seq acc c, slots := #[] } → acc.toList = as.map Value.ref → as.length = i → ZipG xs ys lo h as → lo < h.objs.size →
      codeAny (model prog w) A (.builtin "list.extend.loop" ⟨[.ref S, .ref z, res], []⟩) R { s with heap := h, toks := tk } := by
  intro k
  have stay : ∀ {h h' : Heap} {as : List Addr}, ZipG xs ys lo h as → (∀ c o, c ≠ S → c ≠ z → c ≠ TO → c ≠ i1 → c ≠ i2 → h.get? c = some o → h'.get? c = some o) → ZipG xs ys lo h' as := fun {h h' as} hG he => by
    refine ⟨hG.rise, hG.above, fun j a hj => ?_⟩
    obtain ⟨x, y, hx, hy, e3⟩ := hG.pairs j a hj
    have ha := hG.above a (List.mem_of_getElem? hj)
    exact ⟨x, y, hx, hy, he a _ (Nat.ne_of_gt (Nat.lt_of_le_of_lt hSlo ha)) (Nat.ne_of_gt (Nat.lt_of_le_of_lt hz ha)) (Nat.ne_of_gt (Nat.lt_of_le_of_lt hTO ha)) (Nat.ne_of_gt (Nat.lt_of_le_of_lt hi1 ha)) (Nat.ne_of_gt (Nat.lt_of_le_of_lt hi2 ha)) e3⟩
  induction k with
  | zero =>
    intro i h tk c acc as hk hi hst hl1 hl2 hkeep hS hacc hal hG hlo
    have hin : i = min xs.size ys.size := by omega
    refine codeAny_builtin PySem.F.entry_extend_loop ?_
    rw [Around.under_plainId PySem.F.plain_extend_loop _]
    show wpAny _ A.in1 (pyNext (.ref z) >>= _) _ _ _
    have hend : xs[i]? = none ∨ ys[i]? = none := by
      by_cases hx : xs.size ≤ ys.size
      · exact .inl (Array.getElem?_eq_none (by omega))
      · exact .inr (Array.getElem?_eq_none (by omega))
    refine wpAny_bind (zl_done (s := { s with heap := h, toks := tk }) (A := A.in1) hh D hst hl1 hl2 hend fun h' he => ?_)
    exact wpAny_pure (hR h' tk acc c as (fun b o b1 b2 b3 b4 b5 e => he b o b2 b3 b4 b5 (hkeep b o b1 b2 b3 b4 b5 e)) (he S _ o.z o.TO o.i1 o.i2 hS) (by omega) (stay hG fun c o _ c2 c3 c4 c5 e => he c o c2 c3 c4 c5 e) hacc)
  | succ k ih =>
    intro i h tk c acc as hk hi hst hl1 hl2 hkeep hS hacc hal hG hlo
    have hlt : i < min xs.size ys.size := by omega
    have hix : i < xs.size := by omega
    have hiy : i < ys.size := by omega
    have hsz : acc.size = i := by rw [← Array.length_toList, hacc, List.length_map, hal]
    refine codeAny_builtin PySem.F.entry_extend_loop ?_
    rw [Around.under_plainId PySem.F.plain_extend_loop _]
    show wpAny _ A.in1 (pyNext (.ref z) >>= _) _ _ _
    refine wpAny_bind (zl_item (s := { s with heap := h, toks := tk }) D o hst (Heap.lt_size hS) hl1 hl2 (Array.getElem?_eq_getElem hix) (Array.getElem?_eq_getElem hiy) fun h' hst' ht hzz hkp => ?_)
    dsimp only at ht hzz hkp ⊢
    have hS' := hkp S _ o.z o.TO o.i1 o.i2 hS
    have up : ∀ b o, b ≠ S → h'.get? b = some o → (h'.update S (Obj.mapSeq (·.push (Value.ref h.objs.size)))).get? b = some o := fun b o hb e => (Heap.get?_update_other _ _ (Ne.symm hb)).trans e
    have hSl : S < h.objs.size := Heap.lt_size hS
    show wpAny _ A.in1 (updateSeq S (·.push (Value.ref h.objs.size)) >>= _) _ _ _
    refine wpAny_bind ?_
    have hG' : ZipG xs ys lo (h'.update S (Obj.mapSeq (·.push (Value.ref h.objs.size)))) as := stay hG fun c o c1 c2 c3 c4 c5 e => up c o c1 (hkp c o c2 c3 c4 c5 e)
    refine wpAny_updateSeq hS' rfl (wpAny_pure ⟨plainId_quiet PySem.F.plain_extend_loop _, ih (i + 1) _ tk _ (acc.push (Value.ref h.objs.size)) (as ++ [h.objs.size]) (by omega) hlt (hst'.keep o up)
      (hl1.at fun x e => up l1 x hS1 (hkp l1 x D.l1z D.l1TO D.l1i1 D.l1i2 e)) (hl2.at fun x e => up l2 x hS2 (hkp l2 x D.l2z D.l2TO D.l2i1 D.l2i2 e))
      (fun b o b1 b2 b3 b4 b5 e => up b o b1 (hkp b o b2 b3 b4 b5 (hkeep b o b1 b2 b3 b4 b5 e))) (Heap.get?_update_self _ hS' rfl) (by rw [Array.toList_push, hacc, List.map_append]; rfl) (by rw [List.length_append, hal]; rfl) ⟨?_, ?_, ?_⟩ ?_⟩) (by rw [hsz]; omega) (by show (acc.push (Value.ref h.objs.size)).size ≤ sizeLine + 1; rw [Array.size_push, hsz]; omega)
    · refine List.pairwise_append.mpr ⟨hG.rise, List.pairwise_singleton _ _, fun a ha b hb => ?_⟩
      rw [List.mem_singleton.mp hb]
      exact hG.there ha
    · intro a ha
      rcases List.mem_append.mp ha with ha | ha
      · exact hG.above a ha
      · rw [List.mem_singleton.mp ha]; exact hlo
    · intro j b hj
      rcases Nat.lt_trichotomy j as.length with h1 | h1 | h1
      · rw [List.getElem?_append_left h1] at hj
        exact hG'.pairs j b hj
      · subst h1
        have hb : h.objs.size = b := by simpa using hj
        subst hb
        refine ⟨xs[i], ys[i], ?_, ?_, up _ _ (Nat.ne_of_gt hSl) ht⟩
        · rw [hal]; exact Array.getElem?_eq_getElem hix
        · rw [hal]; exact Array.getElem?_eq_getElem hiy
      · have hnone : (as ++ [h.objs.size])[j]? = none := List.getElem?_eq_none (by rw [List.length_append, List.length_singleton]; omega)
        rw [hnone] at hj; cases hj
    · have e : (h'.update S (Obj.mapSeq (·.push (Value.ref h.objs.size)))).get? h.objs.size = _ := up _ _ (Nat.ne_of_gt hSl) ht
      exact Nat.lt_trans hlo (Heap.lt_size e)
end
theorem zip_nolen : typeLookup (.type "zip") "__len__" = pure none := am_miss_of_fast (by decide +kernel)
theorem zip_nohint : typeLookup (.type "zip") "__length_hint__" = pure none := am_miss_of_fast (by decide +kernel)
section
variable {prog : Program} {w : World} {A : Around} {E : Value → Shared → Prop} {s : Shared} {z TI TO i1 i2 l1 l2 : Addr} {xs ys : Array Value}
/-- list(z), z a zip that has not begun -/
theorem zl_call {Q : Value → Shared → Prop} (hh : A.handled = none) (D : ZipApart z TI TO i1 i2 l1 l2) (hz : IsZip s.heap z TI TO .none) (hTI : IsPair s.heap TI (.ref i1) (.ref i2)) {a b : Value} (hTO : IsPair s.heap TO a b) (h1 : s.heap.IsListIter i1 l1 0) (h2 : s.heap.IsListIter i2 l2 0) (hl1 : s.heap.IsList l1 xs) (hl2 : s.heap.IsList l2 ys) (hn : min xs.size ys.size ≤ sizeLine)
    (hQ : ∀ h' tk acc c as, (∀ b o, b ≠ z → b ≠ TO → b ≠ i1 → b ≠ i2 → s.heap.get? b = some o → h'.get? b = some o) → h'.get? s.heap.objs.size = some { cls := .type "list", dict := none, data := .seq acc c, slots := #[] } → as.length = min xs.size ys.size → ZipG xs ys s.heap.objs.size h' as →
      acc.toList = as.map Value.ref → Q (.ref s.heap.objs.size) { s with heap := h', toks := tk }) : wpAny (model prog w) A (call (.type "list") [.ref z]) Q E s := by
  refine callType_codes (Q₁ := fun obj s₁ => obj = .ref s.heap.objs.size ∧ s₁ = { s with heap := s.heap.push { cls := .type "list", data := .seq #[] } }) PySem.F.called_list (PySem.F.typeCall_list_1 _) PySem.F.entry_list_init
    (code_list_new _ ⟨rfl, rfl⟩) fun obj s₁ h₁ => ?_
  obtain ⟨rfl, rfl⟩ := h₁
  have hS : (s.heap.push { cls := .type "list", data := .seq #[] }).get? s.heap.objs.size = some { cls := .type "list", data := .seq #[] } := Heap.get?_push_size _ rfl
  have lz : z < s.heap.objs.size := Heap.lt_size hz
  have lTI : TI < s.heap.objs.size := Heap.lt_size hTI
  have lTO : TO < s.heap.objs.size := Heap.lt_size hTO
  have li1 : i1 < s.heap.objs.size := by obtain ⟨_, e, _⟩ := h1; exact Heap.lt_size e
  have li2 : i2 < s.heap.objs.size := by obtain ⟨_, e, _⟩ := h2; exact Heap.lt_size e
  have ll1 : l1 < s.heap.objs.size := by obtain ⟨_, e, _⟩ := hl1; exact Heap.lt_size e
  have ll2 : l2 < s.heap.objs.size := by obtain ⟨_, e, _⟩ := hl2; exact Heap.lt_size e
  have of : Off z TI TO i1 i2 s.heap.objs.size := ⟨Nat.ne_of_gt lz, Nat.ne_of_gt lTI, Nat.ne_of_gt lTO, Nat.ne_of_gt li1, Nat.ne_of_gt li2⟩
  refine ⟨⟨_, hS, rfl⟩, PySem.F.args_list_init_2 _ _, ?_⟩
  show wpAny _ A.in1.in1 (do let old ← Builtin.List.listItems (.ref s.heap.objs.size); Builtin.List.listUpdate (.ref s.heap.objs.size) (fun _ => #[]); letGo old.toList.reverse; Builtin.List.listExtendWith (.ref s.heap.objs.size) (.ref z) .none) _ _ _
  refine wpAny_bind ?_
  unfold Builtin.List.listItems
  refine wpAny_bind (wpAny_seqItems hS rfl (wpAny_pure ?_))
  show wpAny _ A.in1.in1 (updateSeq s.heap.objs.size (fun _ => #[]) >>= fun _ => letGo (#[] : Array Value).toList.reverse >>= fun _ => Builtin.List.listExtendWith (.ref s.heap.objs.size) (.ref z) .none) _ _ _
  refine wpAny_bind (wpAny_updateSeq hS rfl ?_)
  have hS2 := Heap.get?_update_self (Obj.mapSeq (fun _ => (#[] : Array Value))) hS rfl
  refine wpAny_bind (wpAny_letGo ?_)
  unfold Builtin.List.listExtendWith
  have up : ∀ (h : Heap) (f : Obj → Obj), (∀ b o, s.heap.get? b = some o → h.get? b = some o) → ∀ b o, s.heap.get? b = some o → (h.update s.heap.objs.size f).get? b = some o := fun h f q b o e =>
    (Heap.get?_update_other _ _ (Ne.symm (Nat.ne_of_lt (Heap.lt_size e)))).trans (q b o e)
  have k1 : ∀ b o, s.heap.get? b = some o → (s.heap.push { cls := .type "list", data := .seq #[] }).get? b = some o := fun b o e => Heap.get?_push_of_some _ e
  have k2 := up _ (Obj.mapSeq (fun _ => (#[] : Array Value))) k1
  have zty : ∀ {h : Heap}, (∀ b o, s.heap.get? b = some o → h.get? b = some o) → Shared.TypeIs { s with heap := h } (.ref z) "zip" := fun {h} q => ⟨_, q _ _ hz, rfl⟩
  refine wpAny_bind (wpAny_typeOf (zty k2) ?_)
  have g1 : Builtin.List.listSameRef (.ref s.heap.objs.size) (.ref z) = false := by simp [Builtin.List.listSameRef, of.z]
  have g2 : (Value.type "zip" == Value.type "list") = false := by decide
  have g3 : (Value.type "zip" == Value.type "tuple") = false := by decide
  simp only [g1, g2, g3, Bool.or_false, Bool.false_eq_true, if_false]
  refine wpAny_bind (wpAny_pyIter_zip (s := { s with heap := _ }) (k2 _ _ hz) ?_)
  refine wpAny_bind (wpAny_holding ?_)
  unfold Builtin.List.listLengthHint
  refine wpAny_bind (wpAny_specialOf (zty k2) zip_nolen ?_)
  show wpAny _ A.in1.in1 (specialOf (Value.ref z) (Str.ofString "__length_hint__") >>= _) _ _ _
  refine wpAny_bind (wpAny_specialOf (zty k2) zip_nohint ?_)
  refine wpAny_pure ?_
  show wpAny _ A.in1.in1 (rule "list.extend.makes-room" >>= fun _ => Builtin.List.listTouch (.ref s.heap.objs.size) >>= fun _ =>
    again (.builtin "list.extend.loop" ⟨[.ref s.heap.objs.size, .ref z, .none], []⟩)) _ _ _
  refine wpAny_bind (wpAny_rule ?_)
  refine wpAny_bind ?_
  show wpAny _ A.in1.in1 (updateSeq s.heap.objs.size (·.push .none) >>= fun _ => updateSeq s.heap.objs.size (·.pop)) _ _ _
  refine wpAny_bind (wpAny_updateSeq hS2 rfl ?_)
  have hS3 := Heap.get?_update_self (Obj.mapSeq (·.push Value.none)) hS2 rfl
  refine wpAny_updateSeq (hz := by seq_fits) hS3 rfl ?_
  have hS4 := Heap.get?_update_self (Obj.mapSeq (·.pop)) hS3 rfl
  have k4 := up _ (Obj.mapSeq (·.pop)) (up _ (Obj.mapSeq (·.push Value.none)) k2)
  refine wpAny_pure ⟨plainId_quiet PySem.F.plain_extend_loop _, ?_⟩
  refine zl_loop (prog := prog) (w := w) (s := s) (A := A.in1) (lo := s.heap.objs.size) (h₁ := s.heap) hh D of (Nat.ne_of_lt ll1) (Nat.ne_of_lt ll2) (Nat.le_refl _) (Nat.le_of_lt lz) (Nat.le_of_lt lTO) (Nat.le_of_lt li1) (Nat.le_of_lt li2) hn .none
    (fun h' tk acc c as hk hS' hl hG hacc => ⟨rfl, hQ h' tk acc c as (fun b o b2 b3 b4 b5 e => hk b o (Nat.ne_of_lt (Heap.lt_size e)) b2 b3 b4 b5 e) hS' hl hG hacc⟩)
    (min xs.size ys.size) 0 _ s.toks _ #[] [] (Nat.sub_zero _) (Nat.zero_le _) ⟨.inl ⟨k4 _ _ hz, a, b, k4 _ _ hTO⟩, k4 _ _ hTI, h1.at fun o e => k4 _ o e, h2.at fun o e => k4 _ o e⟩ (hl1.at fun o e => k4 _ o e) (hl2.at fun o e => k4 _ o e) (fun b o _ _ _ _ _ e => k4 b o e) hS4 rfl rfl
    ⟨List.Pairwise.nil, (fun _ ha => nomatch ha), (fun j a hj => by simp at hj)⟩ (Heap.lt_size hS4)
end
end Vs

namespace Vs
open PySem PySem.Spec PyProof.Rows L2
/-! ### a new list of new pairs -/
def putP : Hp → List Addr → List (V × V) → Hp
  | H, a :: as, p :: ps => putP (upd H a (.tup [p.1, p.2])) as ps
  | H, _, _ => H
theorem putP_off {b : Addr} : ∀ (as : List Addr) (ps : List (V × V)) (H : Hp), b ∉ as → putP H as ps b = H b
  | [], _, _, _ => rfl
  | _ :: _, [], _, _ => rfl
  | a :: as, p :: ps, H, h => by
    show putP (upd H a (.tup [p.1, p.2])) as ps b = H b
    rw [putP_off as ps _ (fun z => h (List.mem_cons_of_mem _ z)), upd_ne (fun z => h (by rw [z]; exact List.mem_cons_self))]
theorem putP_at : ∀ (as : List Addr) (ps : List (V × V)) (H : Hp), as.length = ps.length → as.Nodup → Paired (fun (t : Addr) (p : V × V) => putP H as ps t = some (.tup [p.1, p.2])) as ps
  | [], [], _, _, _ => .nil
  | [], _ :: _, _, h, _ => by cases h
  | _ :: _, [], _, h, _ => by cases h
  | a :: as, p :: ps, H, h, hn => by
    have hn' := List.nodup_cons.mp hn
    refine .cons ?_ (putP_at as ps (upd H a (.tup [p.1, p.2])) (Nat.succ.inj h) hn'.2)
    show putP (upd H a (.tup [p.1, p.2])) as ps a = some (.tup [p.1, p.2])
    rw [putP_off as ps _ hn'.1, upd_same]
/-- what is promised of a new list of pairs -/
def rPairs (ps : List (V × V)) (H : Hp) (Q : VK) : Prop := ∀ (H' : Hp) (p : Addr) (ts : List Addr), Same H H' → H p = none → (∀ t ∈ ts, H t = none) → p ∉ ts → H' p = some (.lst (ts.map V.ref)) → Paired (fun (t : Addr) (q : V × V) => H' t = some (.tup [q.1, q.2])) ts ps → Q (.ref p) H'
section
variable {X : Cx} {Γ : Gm} {W : Wx} {K : PySem.W.Frag} {p p' fa fb f : Bool} {a b : Expr} {eva evb : SD → R D} {q q2 pos pos2 : Pos}
theorem pairs_laid {pins : List (Addr × Obj)} {σ : L2.St} {H : Hp} {s : Shared} {h' : Heap} {tk : Nat} {ps : List (V × V)} {acc : Array Value} {c : Nat} {as : List Addr} {S : Addr} (I : Inv X pins σ H s) (hS0 : s.heap.objs.size ≤ S) (hz : ps.length ≤ sizeLine)
    (hk : ∀ b o, s.heap.get? b = some o → h'.get? b = some o) (hS : h'.get? S = some { cls := .type "list", dict := none, data := .seq acc c, slots := #[] }) (hl : as.length = ps.length) (rise : as.Pairwise (· < ·)) (above : ∀ a ∈ as, S < a)
    (hP : ∀ (j : Nat) (a : Addr), as[j]? = some a → ∃ p u v, ps[j]? = some p ∧ RelV p.1 u ∧ RelV p.2 v ∧ IsPair h' a u v) (hacc : acc.toList = as.map Value.ref) {Q : VK} (q : rPairs ps H Q) : EP X pins σ Q (.ref S) { s with heap := h', toks := tk } := by
  have hSn : S ∉ as := fun z => Nat.lt_irrefl _ (above _ z)
  have nd : as.Nodup := List.Pairwise.imp (fun {a b} (h : a < b) => Nat.ne_of_lt h) rise
  have new : ∀ t ∈ as, H t = none := fun t ht => I.hok.fresh (Nat.le_trans hS0 (Nat.le_of_lt (above t ht)))
  have newS : H S = none := I.hok.fresh hS0
  have atP := putP_at as ps (upd H S (.lst (as.map V.ref))) hl nd
  have off : ∀ b, b ∉ as → b ≠ S → putP (upd H S (.lst (as.map V.ref))) as ps b = H b := fun b h1 h2 => by rw [putP_off as ps _ h1, upd_ne h2]
  have low : ∀ b o, s.heap.get? b = some o → b ∉ as ∧ b ≠ S := fun b o e => ⟨fun z => absurd (Heap.lt_size e) (Nat.not_lt.mpr (Nat.le_trans hS0 (Nat.le_of_lt (above b z)))), Nat.ne_of_lt (Nat.lt_of_lt_of_le (Heap.lt_size e) hS0)⟩
  have kp : ∀ b u, H b = some u → (putP (upd H S (.lst (as.map V.ref))) as ps) b = some u := fun b u e => by
    rw [off b (fun z => by rw [new b z] at e; cases e) (fun z => by rw [z, newS] at e; cases e)]
    exact e
  have eS : putP (upd H S (.lst (as.map V.ref))) as ps S = some (.lst (as.map V.ref)) := by rw [putP_off as ps _ hSn, upd_same]
  refine ⟨.ref S, putP (upd H S (.lst (as.map V.ref))) as ps, ?_, rfl, q _ S as kp newS new hSn eS atP⟩
  refine I.call' (ch := []) rfl ⟨fun b o q _ _ _ => hk b o q, fun b o q _ _ _ => ⟨o.slots, hk b o q⟩, fun b o q n _ => ?_, fun b o q _ => ⟨o, hk b o q⟩, fun b xs q => kp b _ q, fun b o u q => kp b _ q, fun b ps q => ⟨#[], by rw [kp b _ q]; simp⟩⟩ (fun b u q => ?_) I.bare fun b z => by simp at z
  · obtain ⟨z1, z2⟩ := low b o q
    rw [off b z1 z2]
    exact n
  · by_cases hb : b ∈ as
    · obtain ⟨j, pk, e1, e2, e3⟩ := LiI.paired_ix atP hb
      rw [e3] at q
      cases q
      obtain ⟨p1, u1, v1, f1, f2, f3, f4⟩ := hP j b e1
      rw [e2] at f1
      cases f1
      exact ⟨by show 2 ≤ sizeLine; decide, [u1, v1], .cons f2 (.cons f3 .nil), ⟨_, f4, rfl, _, rfl⟩⟩
    · by_cases hb2 : b = S
      · rw [hb2] at q ⊢
        rw [eS] at q
        cases q
        refine ⟨by rw [List.length_map]; omega, acc.toList, c, by rw [hacc]; exact LiI.vals_refs as, ?_⟩
        rw [Array.toArray_toList]
        exact hS
      · rw [off b hb hb2] at q
        exact (I.hok b u q).stay (fun d v _ y => hk d v y) (fun d y => kp d _ y) fun d xs y => kp d _ y
theorem ne_up {b n m : Nat} (h : b < n) (g : n ≤ m) : b ≠ m := fun e => by omega
theorem boot_list : bootBuiltins "list" = some (.type "list") := by decide +kernel
/-- list(zip(a, b)) -/
def tLZip (K : PySem.W.Frag) (t : TA) : TE := fun σ H Q => t σ H fun vs H1 => ∃ x y xs ys, vs = [.ref x, .ref y] ∧ SqL K H1 x xs ∧ SqL K H1 y ys ∧ rPairs (xs.zip ys) H1 Q
theorem vals_at : ∀ {vs : List V} {us : List Value} {j : Nat} {u : Value}, Vals vs us → us[j]? = some u → ∃ v, vs[j]? = some v ∧ RelV v u
  | _, _, _, _, .nil, h => by simp at h
  | _, _, 0, _, .cons r _, h => by cases h; exact ⟨_, rfl, r⟩
  | _, _, j + 1, _, .cons _ rs, h => by
    obtain ⟨v, e, r⟩ := vals_at (j := j) rs (by simpa using h)
    exact ⟨v, by simpa using e, r⟩
theorem pe_lzip {t : TA} (hc : X.calm = true) (ha : PA X [a, b] t) (hml : X.mg "list" = none) (hmz : X.mg "zip" = none) (hgl : Gl X "list") (hgz : Gl X "zip") (hs0 : starEach [a, b] X.env = (false, eval a X.env) :: starEach [b] X.env) (hpl : (backTo pos2 (starEach [b] X.env)).any (·.1) = false)
    (hs : starEach [.Call (.Name "zip" q2) [a, b] [] pos2] X.env = (false, eval (.Call (.Name "zip" q2) [a, b] [] pos2) X.env) :: starEach [] X.env) : PE X (.Call (.Name "list" q) [.Call (.Name "zip" q2) [a, b] [] pos2] [] pos) (tLZip X.K t) := by
  refine ⟨fun pins s σ H Q I hq => ?_⟩
  refine wpAny_Call_Name_kw (ld_blt I hgl hml boot_list ?_)
  refine PyProof.Rows.callWith_type1 ?_ hs rfl
  rw [hs]
  show wpAny _ _ (spliced ((false, eval (.Call (.Name "zip" q2) [a, b] [] pos2) X.env) :: backTo pos (starEach [] X.env))) _ _ s
  refine Calls.spliced_cons ?_
  refine Call_ (ld_blt I hgz hmz PyProof.Rows.boot_zip (PyProof.Rows.callWith_type1 (thn (ha.run pos2 pins s σ H _ I hq) fun us s1 ⟨vs, H1, I1, r1, q1⟩ => ?_) hs0 hpl))
  obtain ⟨x, y, xs, ys, ex, hqx, hqy, qq⟩ := q1
  subst ex
  cases r1 with
  | cons r rr =>
    cases rr with
    | cons r' rr =>
      cases rr
      cases r
      cases r'
      obtain ⟨its, rv, p1, hz1⟩ := I1.list hqx
      obtain ⟨its2, rv2, p2, hz2⟩ := I1.list hqy
      have la : x < s1.heap.objs.size := p1.lt
      have lb : y < s1.heap.objs.size := p2.lt
      refine call_zip_2 p1.isList p2.isList fun h' hz hTI hTO h1 h2 hsz hk => ?_
      refine Calls.spliced_nil ?_
      have kl1 : h'.IsList x its.toArray := p1.isList.at fun o e => hk _ o e
      have kl2 : h'.IsList y its2.toArray := p2.isList.at fun o e => hk _ o e
      have e1 : xs.length = its.length := rv.length
      have e2 : ys.length = its2.length := rv2.length
      refine zl_call (s := { s1 with heap := h' }) (I1.ok.hd hc) (PySem.W.ktu_apart s1.heap.objs.size x y la lb) hz hTI hTO h1 h2 kl1 kl2 (by simp only [List.size_toArray]; omega) fun h2' tk acc c as hk2 hS2 hl2 hG2 hacc2 => ?_
      have lt : ∀ {b o}, s1.heap.get? b = some o → b < s1.heap.objs.size := fun e => Heap.lt_size e
      refine pairs_laid (s := s1) (tk := tk) I1 (by show s1.heap.objs.size ≤ h'.objs.size; rw [hsz]; omega) (by rw [List.length_zip]; omega) (fun b o e => hk2 b o (ne_up (lt e) (Nat.le_add_right _ _)) (ne_up (lt e) (Nat.le_add_right _ _)) (ne_up (lt e) (Nat.le_refl _)) (ne_up (lt e) (Nat.le_add_right _ _)) (hk b o e)) hS2
        (by rw [hl2, List.length_zip]; simp only [List.size_toArray]; omega) hG2.rise hG2.above (fun j a hj => ?_) hacc2 qq
      obtain ⟨u, v, hu, hv, hp⟩ := hG2.pairs j a hj
      obtain ⟨x1, g1, r1⟩ := vals_at rv (by simpa using hu)
      obtain ⟨y1, g2, r2⟩ := vals_at rv2 (by simpa using hv)
      exact ⟨(x1, y1), u, v, List.getElem?_zip_eq_some.mpr ⟨g1, g2⟩, r1, r2, hp⟩
/-- a new list of pairs of data -/
theorem pairs_rep {H : Hp} {ds : List (D × D)} {ps : List (V × V)} {Q : VK} (hr : Paired (fun (d : D × D) (p : V × V) => Rep K Γ H d.1 p.1 [] ∧ Rep K Γ H d.2 p.2 []) ds ps)
    (q : ∀ v H' Fr, Rep K Γ H' (.lst .own (ds.map fun d => .tup [d.1, d.2])) v Fr → Fr.Nodup → Same H H' → (∀ z ∈ Fr, H z = none) → Q v H') : rPairs ps H Q := fun H' z ts sm nz nt zt hz hp => by
  have rs : Reps K Γ H' (ds.map fun d => .tup [d.1, d.2]) (ts.map V.ref) [] := by
    clear zt hz nt q nz z
    induction hr generalizing ts with
    | nil => cases hp; rfl
    | cons h _ ih =>
      cases hp with
      | cons g gs =>
        exact Reps.cons0 ⟨_, _, rfl, .inl (.inl g), Reps.cons0 (h.1.same sm) (Reps.cons0 (h.2.same sm) rfl), rfl⟩ (ih _ gs)
  exact q (.ref z) H' [z] ⟨z, _, [], rfl, hz, rs, rfl⟩ (by simp) sm fun y m => by rw [List.mem_singleton.mp m]; exact nz
theorem reps_paired {H : Hp} : ∀ {xs ys : List D} {us vs : List V}, Reps K Γ H xs us [] → Reps K Γ H ys vs [] → Paired (fun (d : D × D) (p : V × V) => Rep K Γ H d.1 p.1 [] ∧ Rep K Γ H d.2 p.2 []) (xs.zip ys) (us.zip vs)
  | [], _, [], _, _, _ => by simp; exact .nil
  | _ :: _, [], _ :: _, [], _, _ => by simp; exact .nil
  | x :: xs, y :: ys, u :: us, v :: vs, h, g => .cons ⟨h.uncons0.1, g.uncons0.1⟩ (reps_paired h.uncons0.2 g.uncons0.2)
  | [], _, _ :: _, _, h, _ => h.elim
  | _ :: _, _, [], _, h, _ => h.elim
  | _ :: _, [], _ :: _, _ :: _, _, h => h.elim
  | _ :: _, _ :: _, _ :: _, [], _, h => h.elim
def lstAny : D → Option (List D)
  | .lst _ xs => if isImms xs = true then some xs else none
  | _ => none
def gLZip (x y : D) : Option D := (lstAny x).bind fun xs => (lstAny y).map fun ys => .lst .own (zipD xs ys)
theorem lstAny_read {H : Hp} {d : D} {v : V} {F : List Addr} {xs : List D} (r : Rep K Γ H d v F) (h : lstAny d = some xs) : ∃ z vs, v = .ref z ∧ SqL K H z vs ∧ Reps K Γ H xs vs [] := by
  cases d with
  | lst m ys =>
    have h' : (if isImms ys = true then some ys else none) = some xs := h
    split at h'
    · rename_i hi
      cases h'
      obtain ⟨z, vs, F', rfl, hs, rs, _⟩ := read_any r
      rw [rs.immF hi] at rs
      exact ⟨z, vs, rfl, hs, rs⟩
    · cases h'
  | _ => cases h
theorem j_lzip (hml : X.mg "list" = none) (hmz : X.mg "zip" = none) (ha : J X Γ W p fa a eva) (hb : J X Γ W p' fb b evb) (hc : X.calm = true := by rfl) (hpf : (p' || fa) = true := by rfl) (hgl : Gl X "list" := by rfl) (hgz : Gl X "zip" := by rfl) (hs0 : starEach [a, b] X.env = (false, eval a X.env) :: starEach [b] X.env := by rfl)
    (hs1 : starEach [b] X.env = (false, eval b X.env) :: starEach [] X.env := by rfl) (hpl : (backTo pos2 (starEach [b] X.env)).any (·.1) = false := by rfl)
    (hs : starEach [.Call (.Name "zip" q2) [a, b] [] pos2] X.env = (false, eval (.Call (.Name "zip" q2) [a, b] [] pos2) X.env) :: starEach [] X.env := by rfl) :
    J X Γ W (p && p') true (.Call (.Name "list" q) [.Call (.Name "zip" q2) [a, b] [] pos2] [] pos) (eBin gLZip eva evb) := by
  obtain ⟨t, pa, sa⟩ := (ja2 ha hb hpf hs0 hs1).ex
  have h : Sat X.K Γ W (p && p') true (tLZip X.K t) (eArgs (g2 gLZip) (aCons eva (aCons evb aNil))) := sat_args (r := fun vs H1 Q => ∃ x y xs ys, vs = [.ref x, .ref y] ∧ SqL X.K H1 x xs ∧ SqL X.K H1 y ys ∧ rPairs (xs.zip ys) H1 Q) (cs_2 fun H x y d e F F' d' Q r1 r2 hg q => by
    obtain ⟨xs, hx, hg⟩ := Option.bind_eq_some_iff.mp hg
    obtain ⟨ys, hy, rfl⟩ := Option.map_eq_some_iff.mp hg
    obtain ⟨z, us, rfl, sz, rx⟩ := lstAny_read r1 hx
    obtain ⟨w, vs, rfl, sw, ry⟩ := lstAny_read r2 hy
    exact ⟨z, w, us, vs, rfl, sz, sw, pairs_rep (reps_paired rx ry) q⟩) sa
  rw [eArgs2] at h
  exact ⟨_, pe_lzip hc pa hml hmz hgl hgz hs0 hpl hs, h⟩
end
end Vs

namespace Vs
open PySem PySem.Spec PyProof.Rows L2
mutual
theorem reads_lt {h : Heap} : ∀ (d : PyData) {v : Value} {as : List Addr}, Reads h v d as → ∀ x ∈ as, x < h.objs.size
  | .none, _, _, r, x, m => by cases r; cases m
  | .bool _, _, _, r, x, m => by cases r; cases m
  | .int _, _, _, r, x, m => by cases r; cases m
  | .str _, _, _, r, x, m => by cases r; cases m
  | .list ds, _, _, r, x, m => by
    cases r with
    | list h1 _ _ h4 =>
      rcases List.mem_cons.mp m with rfl | m
      · exact Heap.lt_size h1
      · exact readsAll_lt ds h4 x m
  | .tuple ds, _, _, r, x, m => by
    cases r with
    | tuple h1 _ _ h4 => exact readsAll_lt ds h4 x m
  | .dict kvs, _, _, r, x, m => by
    cases r with
    | dict h1 _ _ h4 h5 =>
      rw [List.cons_append] at m
      rcases List.mem_cons.mp m with rfl | m
      · exact Heap.lt_size h1
      · rcases List.mem_append.mp m with m | m
        · exact readsKeys_lt kvs h4 x m
        · exact readsVals_lt kvs h5 x m
theorem readsAll_lt {h : Heap} : ∀ (ds : List PyData) {vs : List Value} {as : List Addr}, ReadsAll h vs ds as → ∀ x ∈ as, x < h.objs.size
  | [], _, _, r, x, m => by cases r; cases m
  | d :: ds, _, _, r, x, m => by
    cases r with
    | cons r1 r2 =>
      rcases List.mem_append.mp m with m | m
      · exact reads_lt d r1 x m
      · exact readsAll_lt ds r2 x m
theorem readsKeys_lt {h : Heap} : ∀ (kvs : List (PyData × PyData)) {vs : List Value} {as : List Addr}, ReadsAll h vs (kvs.map (·.1)) as → ∀ x ∈ as, x < h.objs.size
  | [], _, _, r, x, m => by cases r; cases m
  | (d, e) :: ds, _, _, r, x, m => by
    cases r with
    | cons r1 r2 =>
      rcases List.mem_append.mp m with m | m
      · exact reads_lt d r1 x m
      · exact readsKeys_lt ds r2 x m
theorem readsVals_lt {h : Heap} : ∀ (kvs : List (PyData × PyData)) {vs : List Value} {as : List Addr}, ReadsAll h vs (kvs.map (·.2)) as → ∀ x ∈ as, x < h.objs.size
  | [], _, _, r, x, m => by cases r; cases m
  | (d, e) :: ds, _, _, r, x, m => by
    cases r with
    | cons r1 r2 =>
      rcases List.mem_append.mp m with m | m
      · exact reads_lt e r1 x m
      · exact readsVals_lt ds r2 x m
end
/-- what sorted asks of the gathered values -/
def srtB (K : PySem.W.Frag) (bs : List (V × PyData)) (H : Hp) (Q : VK) : Prop := bs.length ≤ sizeLine ∧ (∀ b ∈ bs, Dp K H b.1 b.2 ∧ b.2.depth ≤ 8) ∧ PySem.W.AllAlike (bs.map (·.2)) ∧ PySem.W.Sortable (bs.map (·.2)) ∧
  ∀ p, H p = none → Q (.ref p) (upd H p (.lst ((bs.mergeSort (PySem.W.dataLe false (·.2))).map (·.1))))
section
variable {X : Cx} {Γ : Gm} {W : Wx} {K : PySem.W.Frag} {p p' fa fb f : Bool} {a b : Expr} {eva evb : SD → R D} {q q2 pos pos2 : Pos}
theorem sorted_col {pins : List (Addr × Obj)} {s : Shared} {σ : L2.St} {v : Value} {Q : VK} (hu : X.A.units + 64 < cLine)
    (hcol : ∀ R' : List Value → Shared → Prop, (∀ us s1 H1 bs, Inv X pins σ H1 s1 → Vals (bs.map (·.1)) us → srtB X.K bs H1 Q → R' us s1) → ∀ E', wpAny (model X.prog X.w) X.A.in1 (collect v) R' E' s) : wpAny (model X.prog X.w) X.A (call (.builtin "sorted") [v]) (EP X pins σ Q) X.xe s := by
  refine Calls.call_function_entry PyProof.Rows.kind_sorted PyProof.Rows.plain_sorted PyProof.Rows.entry_sorted (PyProof.Rows.args_sorted1 _) ?_
  unfold Builtin.«sorted»
  refine wpAny_bind (m := checkCount "sorted" 1 1 _) (wpAny_pure ?_)
  refine wpAny_bind (hcol _ (fun us s1 H1 bs I1 rv ⟨hz, hd, hal, hk, q⟩ => ?_) _)
  have hl : us.length = bs.length := by rw [← rv.length, List.length_map]
  refine wpAny_bind (wpAny_newList ?_ (by rw [hl]; exact hz))
  obtain ⟨hp, g, dr, tk, os⟩ := s1
  have hoL : (hp.push (seqObj "list" us.toArray 0)).get? hp.objs.size = some (seqObj "list" us.toArray 0) := Heap.get?_push_size _ rfl
  show wpAny _ _ _ _ _ ⟨hp.push (seqObj "list" us.toArray 0), g, dr, tk, os⟩
  have e := vals_each rv
  refine wpAny_bind (wpAny_holding (PySem.W.list_sort_data (s := ⟨hp.push (seqObj "list" us.toArray 0), g, dr, tk, os⟩) (enc := fun b : V × PyData => b.2) hoL e ((each_mem2 e).mono fun u b hb => ?_) hal hk hz (fun b hb => ?_) fun out ho eo => ?_))
  · obtain ⟨as, r⟩ := Dp.reads I1 b.2 b.1 u (hd b hb.2).1 hb.1
    exact ⟨as, Reads.keeps (fun _ _ q => Heap.get?_push_of_some _ q) r, fun m => Nat.lt_irrefl _ (reads_lt _ r _ m)⟩
  · have := (hd b hb).2
    show X.A.units + 1 + 1 + _ < cLine
    omega
  · obtain ⟨e', he'⟩ := PyProof.Rows.sortedHeap_at (vs := us) (out := out.toArray) hoL
    have hlen : ((bs.mergeSort (PySem.W.dataLe false (·.2))).map (·.1)).length ≤ sizeLine := by
      rw [List.length_map, List.length_mergeSort]
      exact hz
    refine wpAny_pure ⟨_, rfl, .ref hp.objs.size, upd H1 hp.objs.size (.lst _), I1.laid (t' := tk) (fun b u q => ?_) (Nat.le_refl _) ⟨hlen, out, e', each_vals eo, he'⟩, rfl, q _ (I1.hok.fresh (Nat.le_refl _))⟩
    have hb : b < hp.objs.size := Heap.lt_size q
    rw [PyProof.Rows.sortedHeap_old (Nat.ne_of_lt hb) (by rw [size_push']; exact Nat.lt_succ_of_lt hb)]
    exact Heap.get?_push_of_some _ q
theorem collect_tuple {prog : Program} {w : World} {A : Around} {E : Value → Shared → Prop} {s : Shared} {l : Addr} {vs : List Value} {Q : List Value → Shared → Prop} (hl : s.heap.IsTuple l vs.toArray)
    (h : Q vs { s with heap := (s.heap.push (seqObj "list" #[] 0)).update s.heap.objs.size (Obj.mapSeq (· ++ vs.toArray)) }) (hsz : vs.length ≤ sizeLine) :
    wpAny (model prog w) A (collect (.ref l)) Q E s := by
  obtain ⟨o, ho, hc, n, hd⟩ := id hl
  unfold collect
  refine wpAny_bind (wpAny_runValue (codeAny_builtin entry_proto_collect' ?_))
  show wpAny _ _ (do again (.builtin "list.__iadd__" ⟨[← newList [], .ref l], []⟩)) _ _ s
  refine wpAny_bind (wpAny_newList (wpAny_pure ⟨Code.quiet_builtin _ (by decide +kernel), codeAny_builtin entry_list_iadd' ?_⟩))
  show wpAny _ _ (Builtin.List.listExtendWith (.ref s.heap.objs.size) (.ref l) (.ref s.heap.objs.size)) _ _ { s with heap := s.heap.push (seqObj "list" #[] 0) }
  unfold Builtin.List.listExtendWith
  have ho' : (s.heap.push (seqObj "list" #[] 0)).get? l = some o := Heap.get?_push_of_some _ ho
  refine wpAny_bind (wpAny_typeOf (T := "tuple") ⟨o, ho', hc⟩ ?_)
  have ht : (Value.type "tuple" == Value.type "tuple") = true := by rfl
  rw [if_pos (by rw [ht]; simp)]
  refine wpAny_bind (listItems_at ho' hd ?_)
  refine wpAny_bind (listItems_at (xs := #[]) (n := 0) (Heap.get?_push_size _ rfl) rfl ?_)
  rw [if_neg (by simp)]
  refine wpAny_bind (listUpdate_at (xs := #[]) (n := 0) (Heap.get?_push_size _ rfl) rfl ?_ (Nat.zero_le _) (by show (#[] ++ vs.toArray).size ≤ sizeLine + 1; simp only [Array.size_append, List.size_toArray, List.length_nil]; omega))
  refine wpAny_pure ?_
  show wpAny (model prog w) A (do
      let o ← load s.heap.objs.size
      match o.data with
      | .seq xs _ => pure xs.toList
      | _ => unsupported "internal:collect") Q E { s with heap := (s.heap.push (seqObj "list" #[] 0)).update s.heap.objs.size (Obj.mapSeq (· ++ vs.toArray)) }
  refine wpAny_bind (wpAny_load (get?_update_seq (Heap.get?_push_size _ rfl) _) ?_)
  show wpAny _ _ (pure ((#[] : Array Value) ++ vs.toArray).toList) Q E _
  rw [show ((#[] : Array Value) ++ vs.toArray).toList = vs by simp]
  exact wpAny_pure h
/-- sorted of a tuple, of a dict's keys -/
def rSortT (K : PySem.W.Frag) : List V → Hp → VK → Prop := fun vs H Q => ∃ (a : Addr) (bs : List (V × PyData)), vs = [.ref a] ∧ SqT K H a (bs.map (·.1)) ∧ srtB K bs H Q
theorem cr_sortT (hu : X.A.units + 64 < cLine) : CallR X (.builtin "sorted") (rSortT X.K) := by
  intro pins s σ H vs us Q I r h
  obtain ⟨a, bs, rfl, hs, hb⟩ := h
  obtain ⟨its, rv, ⟨o, ho, hc, n, hd⟩, hz⟩ := I.tuple hs
  rw [Vals.ref1 r]
  refine sorted_col hu fun R' hR E' => collect_tuple (s := s) (vs := its) ⟨o, ho, hc, n, hd⟩ (hR its _ H bs (I.kept (t' := s.toks) fun b u e => ?_) rv hb) (by rw [← rv.length]; exact hz)
  rw [Heap.get?_update_other _ _ (Nat.ne_of_gt (Heap.lt_size e))]
  exact Heap.get?_push_of_some _ e
def rSortK (K : PySem.W.Frag) : List V → Hp → VK → Prop := fun vs H Q => ∃ (a : Addr) (kvs : List (Key × V)) (bs : List (V × PyData)), vs = [.ref a] ∧ Rd H a (.dK kvs) ∧ bs.map (·.1) = kvs.map (fun kv => kV kv.1) ∧ srtB K bs H Q
theorem cr_sortK (hc : X.calm = true) (hu : X.A.units + 64 < cLine) : CallR X (.builtin "sorted") (rSortK X.K) := by
  intro pins s σ H vs us Q I r h
  obtain ⟨a, kvs, bs, rfl, hd, hks, hb⟩ := h
  rw [Vals.ref1 r]
  obtain ⟨z, lo, vs, rel, dd⟩ := dk_rd I.hok hd
  obtain ⟨ep, hat⟩ := dd.dictAt
  have hl : kvs.length = vs.length := rel.length
  refine sorted_col hu fun R' hR E' => PySem.W.kdu_collect (A := X.A.in1) (PySem.W.kdl_dict (knd := mixKind X.prog X.w) (kvs := vs) (ep := ep) lo) (I.ok.hd hc) hat (by omega) fun h' tk acc hk hacc => hR acc.toList _ H bs (I.kept hk) ?_ hb
  rw [hks]
  have e : kvs.map (fun kv => kV kv.1) = vs.map (fun p => kV p.1) := by
    have := congrArg (List.map kV) rel.keys
    rw [List.map_map, List.map_map] at this
    exact this
  rw [e]
  exact keys_at (by rw [Array.length_toList, hacc.1]) fun j v e => hacc.2 j v (by rw [← Array.getElem?_toList]; exact e)
def keyD : Key → D
  | .inl i => .int i
  | .inr x => .str x
def srtList (ds : List D) : Option D := if srtOk ds = true then some (.lst .own (ds.mergeSort leD)) else none
def gSortU (d : D) : Option D := match d with
  | .lst _ ds => srtList ds
  | .tup ds => srtList ds
  | .dic _ kvs => srtList (kvs.map fun kv => keyD kv.1)
  | _ => none
theorem srt_use {H : Hp} {ds : List D} {vs : List V} {d' : D} {Q : VK} (hg : srtList ds = some d') (rs : Reps K Γ H ds vs []) (q : ∀ v H' Fr, Rep K Γ H' d' v Fr → Fr.Nodup → Same H H' → (∀ z ∈ Fr, H z = none) → Q v H') :
    ∃ bs : List (V × PyData), bs.map (·.1) = vs ∧ srtB K bs H Q := by
  unfold srtList at hg
  split at hg
  · rename_i hok
    cases hg
    unfold srtOk at hok
    simp only [Bool.and_eq_true, Bool.or_eq_true, List.all_eq_true, decide_eq_true_eq] at hok
    obtain ⟨⟨⟨⟨h1, h2⟩, h3⟩, h4⟩, h5⟩ := hok
    obtain ⟨bs, e1, e2, e3⟩ := reps_zip rs
    have em : (bs.map fun b => (b.1, toPy b.2)).map (·.1) = vs := by rw [List.map_map, ← e1]; rfl
    have ep : (bs.map (fun b => (b.1, toPy b.2))).map (·.2) = ds.map toPy := by rw [List.map_map, ← e2, List.map_map]; rfl
    refine ⟨bs.map fun b => (b.1, toPy b.2), em, ?_, fun b m => ?_, ?_, ?_, fun p np => ?_⟩
    · have : (bs.map fun b => (b.1, toPy b.2)).length = ds.length := by rw [List.length_map, ← e2, List.length_map]
      omega
    · obtain ⟨c, hc, rfl⟩ := List.mem_map.mp m
      have hcd : dOk 8 c.2 = true := h1 c.2 (by rw [← e2]; exact List.mem_map_of_mem hc)
      exact ⟨(e3 c hc).dp hcd, (dOk_shape hcd).2⟩
    · rw [ep]
      intro x hx y hy
      obtain ⟨c, hc, rfl⟩ := List.mem_map.mp hx
      obtain ⟨c', hc', rfl⟩ := List.mem_map.mp hy
      exact h2 c hc c' hc'
    · rw [ep]
      rcases h3 with h3 | h3
      · refine .inl fun x hx => ?_
        obtain ⟨c, hc, rfl⟩ := List.mem_map.mp hx
        have := h3 c hc
        unfold isTupC at this
        split at this
        · rename_i y ys e; exact ⟨y, ys, e⟩
        · cases this
      · refine .inr fun x hx => ?_
        obtain ⟨c, hc, rfl⟩ := List.mem_map.mp hx
        have := h3 c hc
        unfold noTup at this
        split at this
        · cases this
        · cases this
        · rename_i n1 n2
          exact ⟨n1, n2⟩
    · have hs1 : (bs.map fun b => (b.1, toPy b.2)).mergeSort (PySem.W.dataLe false (·.2)) = (bs.mergeSort fun x y => leD x.2 y.2).map fun b => (b.1, toPy b.2) := (List.map_mergeSort (r := fun x y : V × D => leD x.2 y.2) (s := PySem.W.dataLe false fun b : V × PyData => b.2) (f := fun b : V × D => (b.1, toPy b.2)) (fun _ _ _ _ => rfl)).symm
      have hs2 : (bs.mergeSort fun x y => leD x.2 y.2).map (·.2) = ds.mergeSort leD := by
        rw [← e2]
        exact List.map_mergeSort (fun _ _ _ _ => rfl)
      rw [hs1, List.map_map]
      have hr : Reps K Γ H (ds.mergeSort leD) ((bs.mergeSort fun x y => leD x.2 y.2).map (·.1)) [] := by
        rw [← hs2]
        exact reps_unzip fun b m => e3 b ((List.mergeSort_perm _ _).mem_iff.mp m)
      exact new_lst hr q p np
  · cases hg
theorem srtList_imm {ds : List D} {d' : D} (h : srtList ds = some d') : isImms ds = true := by
  unfold srtList at h
  split at h
  · rename_i hok
    unfold srtOk at hok
    simp only [Bool.and_eq_true] at hok
    exact hok.2
  · cases h
theorem keys_rep {H : Hp} : ∀ {kvs : List (Key × D)} {ks : List (Key × V)}, RepK K Γ H kvs ks → Reps K Γ H (kvs.map fun kv => keyD kv.1) (ks.map fun kv => kV kv.1) []
  | [], [], _ => rfl
  | (k, d) :: r, (k', v) :: s, h => by
    obtain ⟨rfl, _, h3⟩ := h
    refine Reps.cons0 ?_ (keys_rep h3)
    cases k with
    | inl i => exact ⟨rfl, rfl⟩
    | inr x => exact ⟨rfl, rfl⟩
  | [], _ :: _, h => h.elim
  | _ :: _, [], h => h.elim
abbrev rSortU (K : PySem.W.Frag) : List V → Hp → VK → Prop := fun vs H Q => (∃ (a : Addr) (bs : List (V × PyData)), vs = [.ref a] ∧ SqL K H a (bs.map (·.1)) ∧ srtB K bs H Q) ∨ (rSortT K vs H Q ∨ rSortK K vs H Q)
theorem cr_sortU (hc : X.calm = true) (hu : X.A.units + 64 < cLine) : CallR X (.builtin "sorted") (rSortU X.K) := CallR.or (fun pins s σ H vs us Q I r ⟨a, bs, e, hs, hb⟩ => cr_sortD hu pins s σ H vs us Q I r ⟨a, bs, e, hs, hb.2⟩) (CallR.or (cr_sortT hu) (cr_sortK hc hu))
theorem cs_sortU : CallSat K Γ (rSortU K) (g1 gSortU) := cs_1 fun H x d F d' Q r hg q => by
  cases d with
  | lst m ds =>
    have hg' : srtList ds = some d' := hg
    obtain ⟨z, vs, rfl, rs, hsq⟩ := read_seq r (xs := ds) rfl (srtList_imm hg')
    obtain ⟨bs, e, hb⟩ := srt_use hg' rs q
    rcases hsq with ⟨h, _⟩ | ⟨_, h⟩
    · exact .inl ⟨z, bs, rfl, by rw [e]; exact h, hb⟩
    · cases h
  | tup ds =>
    have hg' : srtList ds = some d' := hg
    obtain ⟨z, vs, rfl, rs, hsq⟩ := read_seq r (xs := ds) rfl (srtList_imm hg')
    obtain ⟨bs, e, hb⟩ := srt_use hg' rs q
    rcases hsq with ⟨_, m, h⟩ | ⟨h, _⟩
    · cases h
    · exact .inr (.inl ⟨z, bs, rfl, by rw [e]; exact h, hb⟩)
  | dic m kvs =>
    have hg' : srtList (kvs.map fun kv => keyD kv.1) = some d' := hg
    obtain ⟨z, ks, rfl, hz, rk⟩ := read_dic r
    obtain ⟨bs, e, hb⟩ := srt_use hg' (keys_rep rk) q
    exact .inr (.inr ⟨z, ks, bs, rfl, hz, e, hb⟩)
  | _ => cases hg
/-! ### sorted(d.items()) -/
def tSortIt (K : PySem.W.Frag) (te : TE) : TE := fun σ H Q => te σ H fun x H1 => ∃ (d : Addr) (kvs : List (Key × V)), x = .ref d ∧ Rd H1 d (.dK kvs) ∧
  ∀ (H' : Hp) (ts : List Addr), Same H1 H' → (∀ t ∈ ts, H1 t = none) → Paired (fun (t : Addr) (q : Key × V) => H' t = some (.tup [kV q.1, q.2])) ts kvs → ∃ bs : List (V × PyData), bs.map (·.1) = ts.map V.ref ∧ srtB K bs H' Q
/-- new pairs are tracked -/
theorem tups_laid {pins : List (Addr × Obj)} {σ : L2.St} {H : Hp} {s : Shared} {h' : Heap} {tk : Nat} {ps : List (V × V)} {as : List Addr} {S : Addr} (I : Inv X pins σ H s) (hS0 : s.heap.objs.size ≤ S)
    (hk : ∀ b o, s.heap.get? b = some o → h'.get? b = some o) (hl : as.length = ps.length) (rise : as.Pairwise (· < ·)) (above : ∀ a ∈ as, S < a)
    (hP : ∀ (j : Nat) (a : Addr), as[j]? = some a → ∃ p u v, ps[j]? = some p ∧ RelV p.1 u ∧ RelV p.2 v ∧ IsPair h' a u v) :
    ∃ H', Same H H' ∧ (∀ t ∈ as, H t = none) ∧ Paired (fun (t : Addr) (p : V × V) => H' t = some (.tup [p.1, p.2])) as ps ∧ Inv X pins σ H' { s with heap := h', toks := tk } := by
  have nd : as.Nodup := List.Pairwise.imp (fun {a b} (h : a < b) => Nat.ne_of_lt h) rise
  have new : ∀ t ∈ as, H t = none := fun t ht => I.hok.fresh (Nat.le_trans hS0 (Nat.le_of_lt (above t ht)))
  have atP := putP_at as ps H hl nd
  have off : ∀ b, b ∉ as → putP H as ps b = H b := fun b h1 => putP_off as ps _ h1
  have low : ∀ b o, s.heap.get? b = some o → b ∉ as := fun b o e z => absurd (Heap.lt_size e) (Nat.not_lt.mpr (Nat.le_trans hS0 (Nat.le_of_lt (above b z))))
  have kp : ∀ b u, H b = some u → (putP H as ps) b = some u := fun b u e => by
    rw [off b (fun z => by rw [new b z] at e; cases e)]
    exact e
  refine ⟨putP H as ps, kp, new, atP, ?_⟩
  refine I.call' (ch := []) rfl ⟨fun b o q _ _ _ => hk b o q, fun b o q _ _ _ => ⟨o.slots, hk b o q⟩, fun b o q n _ => ?_, fun b o q _ => ⟨o, hk b o q⟩, fun b xs q => kp b _ q, fun b o u q => kp b _ q, fun b ps q => ⟨#[], by rw [kp b _ q]; simp⟩⟩ (fun b u q => ?_) I.bare fun b z => by simp at z
  · rw [off b (low b o q)]
    exact n
  · by_cases hb : b ∈ as
    · obtain ⟨j, pk, e1, e2, e3⟩ := LiI.paired_ix atP hb
      rw [e3] at q
      cases q
      obtain ⟨p1, u1, v1, f1, f2, f3, f4⟩ := hP j b e1
      rw [e2] at f1
      cases f1
      exact ⟨by show 2 ≤ sizeLine; decide, [u1, v1], .cons f2 (.cons f3 .nil), ⟨_, f4, rfl, _, rfl⟩⟩
    · rw [off b hb] at q
      exact (I.hok b u q).stay (fun d v _ y => hk d v y) (fun d y => kp d _ y) fun d xs y => kp d _ y
theorem boot_sorted : bootBuiltins "sorted" = some (.builtin "sorted") := by decide +kernel
theorem paired_map {α β γ : Type} {F : α → γ → Prop} {g : β → γ} : ∀ {xs : List α} {ys : List β}, Paired F xs (ys.map g) → Paired (fun x y => F x (g y)) xs ys
  | _, [], h => by cases h; exact .nil
  | _, y :: ys, h => by cases h with | cons h t => exact .cons h (paired_map t)
theorem pe_sortIt {te : TE} {apos cpos : Pos} (hc : X.calm = true) (hu : X.A.units + 64 < cLine) (he : PE X a te) (hg : Gl X "sorted") (hm : X.mg "sorted" = none) (hbase : attributeBase a "items" X.env (eval a X.env) = eval a X.env) (hline : (apos.endLine == cpos.line) = true)
    (hs : starEach [.Call (.Attribute a "items" apos) [] [] cpos] X.env = (false, eval (.Call (.Attribute a "items" apos) [] [] cpos) X.env) :: starEach [] X.env) : PE X (.Call (.Name "sorted" q) [.Call (.Attribute a "items" apos) [] [] cpos] [] pos) (tSortIt X.K te) := by
  refine ⟨fun pins s σ H Q I hq => ?_⟩
  refine wpAny_Call_Name_kw (ld_blt I hg hm boot_sorted ?_)
  refine PyProof.Rows.callWith_builtin1 ?_ hs rfl
  rw [hs]
  show wpAny _ _ (spliced ((false, eval (.Call (.Attribute a "items" apos) [] [] cpos) X.env) :: backTo pos (starEach [] X.env))) _ _ s
  refine Calls.spliced_cons ?_
  refine wpAny_Call_method (T := "dict") (id := "dict.items") hbase rfl hline F.plainAttrs_dict F.slot_dict_items F.type_dict_items (thn (he.run pins s σ H _ I hq) fun u s1 ⟨x, H1, I1, rx, d, kvs, ex, hd, qq⟩ => ?_)
  subst ex
  obtain rfl : u = Value.ref d := rx
  obtain ⟨hz, hs0, vs, kv, hdo⟩ := dk_rd I1.hok hd
  obtain ⟨ep, hat⟩ := hdo.dictAt
  have lk : kvs.length = vs.length := Paired.length kv
  refine ⟨hdo.typeIs, hdo.mapOf.noDict, ?_⟩
  show wpAny _ _ (callWith cpos (.builtin "dict.items") [.ref d] [] []) _ X.xe s1
  refine method_meetsIn F.slot_dict_items F.entry_dict_items rfl (PySem.evalArgs_none ⟨rfl, hdo.typeIs, F.args_dict_items_1 _, _, meets_dict_items (mixKind X.prog X.w) d hs0, ⟨vs, hdo⟩, ?_⟩)
  refine Calls.spliced_nil ?_
  refine sorted_col hu fun R' hR E' => ?_
  refine PySem.W.kdx_collect (A := X.A.in1) (knd := mixKind X.prog X.w) (kvs := vs) (ep := ep) (I1.ok.hd hc) ⟨_, Heap.get?_push_size _ rfl, rfl, rfl⟩ (hat.push _) (by omega) fun h' tk as hk hl hG => ?_
  have hk1 : ∀ b o, s1.heap.get? b = some o → h'.get? b = some o := fun b o e => hk b o (Heap.get?_push_of_some _ e)
  obtain ⟨H', sm, nw, pr, I2⟩ := tups_laid (tk := tk) (ps := kvs.map fun kv => (kV kv.1, kv.2)) (as := as) (S := (s1.heap.push { cls := .type "dict_items", data := .fields #[.ref d] }).objs.size) I1 (by rw [size_push']; exact Nat.le_succ _) hk1 (by rw [hl, List.length_map, lk]) hG.rise hG.above (fun j b hj => by
    obtain ⟨key, k, y, f1, f2, f3⟩ := hG.pairs j b hj
    have hj' : j < kvs.length := by rw [lk]; exact (List.getElem?_eq_some_iff.mp f1).1
    obtain ⟨qv, g1, g2, g3⟩ := LiI.paired_get kv (List.getElem?_eq_getElem hj')
    rw [f1] at g1
    cases g1
    refine ⟨(kV kvs[j].1, kvs[j].2), key, y, by rw [List.getElem?_map, List.getElem?_eq_getElem hj']; rfl, ?_, g3, f3⟩
    show RelV (kV kvs[j].1) key
    rw [g2]
    exact relV_key (show keyIs k key = true from f2))
  obtain ⟨bs, e, hb⟩ := qq H' as sm nw (paired_map (F := fun (t : Addr) (p : V × V) => H' t = some (.tup [p.1, p.2])) (g := fun kv : Key × V => (kV kv.1, kv.2)) pr)
  exact hR _ _ H' bs I2 (by rw [e]; exact LiI.vals_refs as) hb
def gSortIt (d : D) : Option D := match d with
  | .dic _ kvs => srtList (kvs.map fun kv => .tup [keyD kv.1, kv.2])
  | _ => none
theorem items_rep {H H' : Hp} (sm : Same H H') : ∀ {kvs : List (Key × D)} {ks : List (Key × V)} {ts : List Addr}, RepK K Γ H kvs ks → Paired (fun (t : Addr) (q : Key × V) => H' t = some (.tup [kV q.1, q.2])) ts ks → Reps K Γ H' (kvs.map fun kv => .tup [keyD kv.1, kv.2]) (ts.map V.ref) []
  | [], [], _, _, h => by cases h; rfl
  | (k, d) :: r, (k', v) :: s, _, h, g => by
    obtain ⟨rfl, h2, h3⟩ := h
    cases g with
    | cons g gs =>
      have hk : Rep K Γ H' (keyD k) (kV k) [] := by cases k <;> exact ⟨rfl, rfl⟩
      exact Reps.cons0 ⟨_, _, rfl, .inl (.inl g), Reps.cons0 hk (Reps.cons0 (h2.same sm) rfl), rfl⟩ (items_rep sm h3 gs)
  | [], _ :: _, _, h, _ => h.elim
  | _ :: _, [], _, h, _ => h.elim
theorem j_sortIt {apos cpos : Pos} (hu : X.A.units + 64 < cLine) (hm : X.mg "sorted" = none) (ha : J X Γ W p fa a eva) (hc : X.calm = true := by rfl) (hg : Gl X "sorted" := by rfl) (hbase : attributeBase a "items" X.env (eval a X.env) = eval a X.env := by rfl) (hline : (apos.endLine == cpos.line) = true := by rfl)
    (hs : starEach [.Call (.Attribute a "items" apos) [] [] cpos] X.env = (false, eval (.Call (.Attribute a "items" apos) [] [] cpos) X.env) :: starEach [] X.env := by rfl) : J X Γ W p true (.Call (.Name "sorted" q) [.Call (.Attribute a "items" apos) [] [] cpos] [] pos) (eUn gSortIt eva) := by
  obtain ⟨ta, pa, sa⟩ := ha.ex
  refine ⟨_, pe_sortIt hc hu pa hg hm hbase hline hs, fun σ H env fp re Q h => ?_⟩
  refine sa σ H env fp re _ (hold_mono (hold_bind h) (fun da e1 h1 x H1 fp1 Fa oa => ?_) fun c e z => z)
  obtain ⟨d, hg, qq⟩ := hold_opt h1
  cases da with
  | dic m kvs =>
    have hg' : srtList (kvs.map fun kv => .tup [keyD kv.1, kv.2]) = some d := hg
    obtain ⟨z, ks, rfl, hz, rk⟩ := read_dic oa.rep
    refine ⟨z, ks, rfl, hz, fun H' ts sm nw pr => srt_use hg' (items_rep sm rk pr) fun v H3 Fr r3 n3 sm3 nw3 => ?_⟩
    have back : ∀ y ∈ Fr, H1 y = none := fun y my => by
      have h0 := nw3 y my
      cases e : H1 y with
      | none => rfl
      | some o => rw [sm y o e] at h0; cases h0
    refine qq v H3 fp1 Fr ⟨oa.re.same (sm.trans sm3), r3, n3, oa.fm.trans (Fm.same (sm.trans sm3)), fun y my => oa.fm.back (.inr (back y my)), fun hp => ?_, fun _ y my i => oa.re.fresh (back y my) i⟩
    obtain ⟨q1, q2, q3⟩ := oa.pu hp
    exact ⟨q1, q2, q3.trans (sm.trans sm3)⟩
  | _ => cases hg
end
end Vs

namespace Vs
open PySem PySem.Spec PyProof.Rows L2
section
variable {X : Cx} {Γ : Gm} {W : Wx} {K : PySem.W.Frag} {p p' fa fb fc f : Bool} {a b c : Expr} {eva evb evc : SD → R D} {q pos : Pos} {H : Hp}
/-! ### the greatest and the least of whole numbers -/
def mxI : List Int → Int
  | [] => 0
  | [x] => x
  | x :: y :: r => if x ≤ mxI (y :: r) then mxI (y :: r) else x
def mnI : List Int → Int
  | [] => 0
  | [x] => x
  | x :: y :: r => if mnI (y :: r) ≤ x then mnI (y :: r) else x
theorem mxI_ok : ∀ ns : List Int, ns ≠ [] → mxI ns ∈ ns ∧ ∀ y ∈ ns, y ≤ mxI ns
  | [], h => (h rfl).elim
  | [x], _ => ⟨List.mem_singleton.mpr rfl, fun y m => by rw [List.mem_singleton.mp m]; exact Int.le_refl _⟩
  | x :: y :: r, _ => by
    obtain ⟨h1, h2⟩ := mxI_ok (y :: r) (by simp)
    show (if x ≤ mxI (y :: r) then mxI (y :: r) else x) ∈ _ ∧ ∀ z ∈ _, z ≤ (if x ≤ mxI (y :: r) then mxI (y :: r) else x)
    by_cases h : x ≤ mxI (y :: r)
    · rw [if_pos h]
      refine ⟨List.mem_cons_of_mem _ h1, fun z m => ?_⟩
      rcases List.mem_cons.mp m with rfl | m
      · exact h
      · exact h2 z m
    · rw [if_neg h]
      refine ⟨List.mem_cons_self, fun z m => ?_⟩
      rcases List.mem_cons.mp m with rfl | m
      · exact Int.le_refl _
      · have := h2 z m; omega
theorem mnI_ok : ∀ ns : List Int, ns ≠ [] → mnI ns ∈ ns ∧ ∀ y ∈ ns, mnI ns ≤ y
  | [], h => (h rfl).elim
  | [x], _ => ⟨List.mem_singleton.mpr rfl, fun y m => by rw [List.mem_singleton.mp m]; exact Int.le_refl _⟩
  | x :: y :: r, _ => by
    obtain ⟨h1, h2⟩ := mnI_ok (y :: r) (by simp)
    show (if mnI (y :: r) ≤ x then mnI (y :: r) else x) ∈ _ ∧ ∀ z ∈ _, (if mnI (y :: r) ≤ x then mnI (y :: r) else x) ≤ z
    by_cases h : mnI (y :: r) ≤ x
    · rw [if_pos h]
      refine ⟨List.mem_cons_of_mem _ h1, fun z m => ?_⟩
      rcases List.mem_cons.mp m with rfl | m
      · exact h
      · exact h2 z m
    · rw [if_neg h]
      refine ⟨List.mem_cons_self, fun z m => ?_⟩
      rcases List.mem_cons.mp m with rfl | m
      · exact Int.le_refl _
      · have := h2 z m; omega
def gMax (d : D) : Option D := match d with
  | .lst _ xs => (intsOf xs).bind fun ns => if 0 < ns.length then some (.int (mxI ns)) else none
  | _ => none
def gMin (d : D) : Option D := match d with
  | .lst _ xs => (intsOf xs).bind fun ns => if 0 < ns.length then some (.int (mnI ns)) else none
  | _ => none
theorem cs_max : CallSat K Γ (rMax K) (g1 gMax) := cs_1 fun H x d F d' Q r hg q => by
  cases d with
  | lst m xs =>
    obtain ⟨ns, h1, h2⟩ := Option.bind_eq_some_iff.mp (show ((intsOf xs).bind fun ns => if 0 < ns.length then some (D.int (mxI ns)) else none) = some d' from hg)
    have e := intsOf_map h1
    subst e
    split at h2
    · rename_i hl
      cases h2
      obtain ⟨z, vs, F', rfl, s, rs, _⟩ := read_any r
      obtain ⟨e1, _⟩ := rs.ints
      subst e1
      have hne : ns ≠ [] := fun e => by subst e; exact absurd hl (by decide)
      obtain ⟨m1, m2⟩ := mxI_ok ns hne
      refine ⟨z, ns, rfl, s, hl, fun m hm hle => ?_⟩
      have : m = mxI ns := by
        have h3 := m2 m hm
        have h4 := hle _ m1
        omega
      subst this
      exact scal_q q ⟨rfl, rfl⟩
    · cases h2
  | _ => cases hg
theorem cs_min : CallSat K Γ (rMin K) (g1 gMin) := cs_1 fun H x d F d' Q r hg q => by
  cases d with
  | lst m xs =>
    obtain ⟨ns, h1, h2⟩ := Option.bind_eq_some_iff.mp (show ((intsOf xs).bind fun ns => if 0 < ns.length then some (D.int (mnI ns)) else none) = some d' from hg)
    have e := intsOf_map h1
    subst e
    split at h2
    · rename_i hl
      cases h2
      obtain ⟨z, vs, F', rfl, s, rs, _⟩ := read_any r
      obtain ⟨e1, _⟩ := rs.ints
      subst e1
      have hne : ns ≠ [] := fun e => by subst e; exact absurd hl (by decide)
      obtain ⟨m1, m2⟩ := mnI_ok ns hne
      refine ⟨z, ns, rfl, s, hl, fun m hm hle => ?_⟩
      have : m = mnI ns := by
        have h3 := m2 m hm
        have h4 := hle _ m1
        omega
      subst this
      exact scal_q q ⟨rfl, rfl⟩
    · cases h2
  | _ => cases hg
/-! ### xs.count(k) of whole numbers -/
def gCount (x y : D) : Option D := match x, y with
  | .lst _ xs, .int k => (intsOf xs).map fun ns => .int (ns.count k : Nat)
  | _, _ => none
def isT : String → D → Bool
  | "list", .lst _ _ => true
  | "str", .str _ => true
  | _, _ => false
theorem isT_ty {H : Hp} {T : String} {d : D} {v : V} {F : List Addr} (h : isT T d = true) (r : Rep K Γ H d v F) : tyV K T v H := by
  unfold isT at h
  split at h
  · obtain ⟨z, vs, F', rfl, s, rs, _⟩ := read_any r
    exact .inl ⟨rfl, _, s⟩
  · rw [r.1]; exact rfl
  · cases h
/-- a method that reads alone -/
def eRm (T : String) (g : D → List D → Option D) (a : SD → R D) (evs : SD → R (List D)) : SD → R D := fun env => (a env).bind fun d e1 => if isT T d = true then (evs e1).bind fun ds e2 => R.opt (g d ds) e2 else .bad
def RmSat (K : PySem.W.Frag) (Γ : Gm) (r : V → List V → Hp → VK → Prop) (g : D → List D → Option D) : Prop := ∀ (H : Hp) (x : V) (xs : List V) (d : D) (ds : List D) (F Fs : List Addr) (d' : D) (Q : VK), Rep K Γ H d x F → Reps K Γ H ds xs Fs → g d ds = some d' →
  (∀ v H' Fr, Rep K Γ H' d' v Fr → Fr.Nodup → Same H H' → (∀ z ∈ Fr, H z = none) → Q v H') → r x xs H Q
theorem j_rm {T id : String} {name : Str} {r : V → List V → Hp → VK → Prop} {g : D → List D → Option D} {es : List Expr} {evs : SD → R (List D)} {apos cpos : Pos} (pl : PlainAttrs T) (slot : Slot T name id) (hty : typeOf (.builtin id) = pure (.type "method_descriptor")) (hm : MtR X id r) (hM : RmSat X.K Γ r g) (ha : J X Γ W p fa a eva) (hb : JA X Γ W p' fb (b :: es) evs) (hpf : (p' || fa) = true := by rfl)
    (hbase : attributeBase a name X.env (eval a X.env) = eval a X.env := by rfl)
    (hfew : ((backTo cpos (starEach (b :: es) X.env)).all (fun x => !x.1) && (backToKw cpos (keywordEach [] X.env)).all (fun x => x.1.isSome)
      && decide ((b :: es).length + ([] : List Keyword).length + (if ([] : List Keyword).isEmpty then 0 else 1) < 30)) = true := by rfl)
    (hline : (apos.endLine == cpos.line) = true := by rfl) (hs : starEach (b :: es) X.env = (false, eval b X.env) :: starEach es X.env := by rfl) (hplain : (backTo cpos (starEach es X.env)).any (·.1) = false := by rfl) :
    J X Γ W (p && p') true (.Call (.Attribute a name apos) (b :: es) [] cpos) (eRm T g eva evs) := by
  obtain ⟨ta, pa, sa⟩ := ha.ex
  obtain ⟨tb, pb, sb⟩ := hb.ex
  refine ⟨_, pe_bm pl slot hty hm pa pb hbase hfew hline hs hplain, fun σ H env fp re Q h => ?_⟩
  refine sa σ H env fp re _ (hold_mono (hold_bind h) (fun d e1 k1 v H1 fp1 Fa oa => ?_) fun c e z => z)
  by_cases ht : isT T d = true
  · rw [if_pos ht] at k1
    refine ⟨isT_ty ht oa.rep, sb σ H1 e1 fp1 oa.re _ (hold_mono (hold_bind k1) (fun ds e2 k2 us H2 fp2 Fb ob => ?_) fun c e z H' fp' r' f' => z H' fp' r' (oa.fm.trans f'))⟩
    obtain ⟨d', hg, q⟩ := hold_opt k2
    have ra : Rep X.K Γ H2 d v Fa := by
      cases hp : p' with
      | true => exact oa.rep.same (ob.pu hp).2.2
      | false =>
        rw [hp] at hpf
        exact oa.rep.held oa.re ob.fm (oa.fr (by simpa using hpf))
    have fmA := oa.fm.trans ob.fm
    refine hM H2 v us d ds Fa Fb d' Q ra ob.rep hg fun v H4 Fr r4 n4 sm nw => q v H4 fp2 Fr ⟨ob.re.same sm, r4, n4, fmA.trans (Fm.same sm), fun z m => fmA.back (.inr (nw z m)), fun z => ?_, fun _ z m i => ob.re.fresh (nw z m) i⟩
    obtain ⟨q1, q2, q3⟩ := pu_and oa.pu ob.pu z
    exact ⟨q1, q2, q3.trans sm⟩
  · rw [if_neg ht] at k1
    exact k1.elim
def rg1 (g : D → D → Option D) : D → List D → Option D := fun d ds => match ds with
  | [x] => g d x
  | _ => none
theorem rm_1 {r : V → List V → Hp → VK → Prop} {g : D → D → Option D} (h : ∀ (H : Hp) (x y : V) (d e : D) (F F' : List Addr) (d' : D) (Q : VK), Rep K Γ H d x F → Rep K Γ H e y F' → g d e = some d' → (∀ v H' Fr, Rep K Γ H' d' v Fr → Fr.Nodup → Same H H' → (∀ z ∈ Fr, H z = none) → Q v H') → r x [y] H Q) : RmSat K Γ r (rg1 g) := fun H x xs d ds F Fs d' Q ra rs hg q => by
  match ds, rs, hg with
  | [y], rs, hg =>
    obtain ⟨u, rfl, r⟩ := rs.only
    exact h H x u d y F Fs d' Q ra r hg q
theorem rm_count : RmSat K Γ (rCntI K) (rg1 gCount) := rm_1 fun H x y d e F F' d' Q r1 r2 hg q => by
  unfold gCount at hg
  split at hg
  · rename_i m xs k
    obtain ⟨ns, h1, rfl⟩ := Option.map_eq_some_iff.mp hg
    have e := intsOf_map h1
    subst e
    obtain ⟨z, vs, F', rfl, s, rs, _⟩ := read_any r1
    obtain ⟨e1, _⟩ := rs.ints
    subst e1
    exact ⟨z, ns, k, rfl, by rw [r2.1], s, scal_q q ⟨rfl, rfl⟩⟩
  · cases hg
/-! ### xs.insert(i, y) -/
def chIns (xs ds : List D) : Option (D × List D) := match ds with
  | [.int i, y] => if isImm y = true ∧ 0 ≤ i ∧ i < 2 ^ 63 ∧ xs.length < sizeLine then some (.non, xs.take i.toNat ++ [y] ++ xs.drop i.toNat) else none
  | _ => none
theorem ms_ins : MtSat K Γ (fun x vs H Q => ∃ (l : Addr) (xs : List V) (i : Int) (y : V), x = .ref l ∧ vs = [.int i, y] ∧ H l = some (.lst xs) ∧ xs.length < sizeLine ∧ 0 ≤ i ∧ i < 2 ^ 63 ∧ Q .non (upd H l (.lst (xs.take i.toNat ++ [y] ++ xs.drop i.toNat)))) chIns := fun H z vs xs ds us F d ys Q hz rs ru nz hc q => by
  match ds, ru, hc with
  | [.int i, y], ru, hc =>
    obtain ⟨u, u2, F1, F2, rfl, r1, r3⟩ := Reps.two ru
    have hc' : (if isImm y = true ∧ 0 ≤ i ∧ i < 2 ^ 63 ∧ xs.length < sizeLine then some (D.non, xs.take i.toNat ++ [y] ++ xs.drop i.toNat) else none) = some (d, ys) := hc
    split at hc'
    · rename_i hh
      cases hc'
      have e := r3.immF hh.1
      subst e
      refine ⟨z, vs, i, u2, rfl, by rw [r1.1], hz, by rw [← rs.len]; exact hh.2.2.2, hh.2.1, hh.2.2.1, q .non _ (((rs.take0 _).append0 (Reps.one r3)).append0 (rs.drop0 _)) ⟨rfl, rfl⟩⟩
    · cases hc'
/-! ### xs[::-1] -/
def gRev (x : D) : Option D := match x with
  | .lst _ xs => if isImms xs = true then some (.lst .own xs.reverse) else none
  | _ => none
theorem j_rev {k : Nat} {p1 p2 p3 pos : Pos} (ha : J X Γ W p fa a eva) : J X Γ W p true (.Subscript a (.Slice none none (some (.UnaryOp .USub (.Constant (.int 1) k p1) p2)) p3) pos) (eUn gRev eva) := by
  obtain ⟨ta, pa, sa⟩ := ha.ex
  refine ⟨_, pe_revL pa, fun σ H env fp re Q h => ?_⟩
  refine sa σ H env fp re _ (hold_mono (hold_bind h) (fun d e1 k1 v H1 fp1 Fa oa => ?_) fun c e z => z)
  obtain ⟨d', hg, q⟩ := hold_opt k1
  cases d with
  | lst m xs =>
    have hg' : (if isImms xs = true then some (D.lst .own xs.reverse) else none) = some d' := hg
    split at hg'
    · rename_i hi'
      cases hg'
      obtain ⟨z, vs, F', rfl, s, rs, _⟩ := read_any oa.rep
      have e := rs.immF hi'
      subst e
      refine ⟨z, vs, rfl, s, new_lst (Reps.rev0 rs) fun v H4 Fr r4 n4 sm nw => q v H4 fp1 Fr ⟨oa.re.same sm, r4, n4, oa.fm.trans (Fm.same sm), fun z m => oa.fm.back (.inr (nw z m)), fun z => ?_, fun _ z m i => oa.re.fresh (nw z m) i⟩⟩
      obtain ⟨q1, q2, q3⟩ := oa.pu z
      exact ⟨q1, q2, q3.trans sm⟩
    · cases hg'
  | _ => cases hg
/-! ### is True, is False -/
def gIsB (x y : D) : Option D := match x, y with
  | .bl a, .bl b => some (.bl (decide (a = b)))
  | _, _ => none
def gNotB (x y : D) : Option D := match x, y with
  | .bl a, .bl b => some (.bl (!decide (a = b)))
  | _, _ => none
theorem os_isB : OpSat K Γ rIsB gIsB := fun H x y dx dy Fx Fy d Q r1 r2 h q => by
  unfold gIsB at h
  split at h
  · cases h
    exact ⟨_, _, r1.1, r2.1, scal_q q ⟨rfl, rfl⟩⟩
  · cases h
theorem os_notB : OpSat K Γ rNotB gNotB := fun H x y dx dy Fx Fy d Q r1 r2 h q => by
  unfold gNotB at h
  split at h
  · cases h
    exact ⟨_, _, r1.1, r2.1, scal_q q ⟨rfl, rfl⟩⟩
  · cases h
end
end Vs

namespace Vs
open PySem PySem.Spec PyProof.Rows L2
/-- no promise at all -/
theorem ok_bad {P : Program} {w : World} {K : PySem.W.Frag} {mg : Str → Option Value} {base : Heap} {x : Str} {st : Stmt} {ps : List Str} {k np : Nat} {pins : List Nat} (F : Df K mg x st)
    (hb : ∀ (kV doc pm : Value) (an : Option Addr) (cdv ct : Value) (us : List Value), us.length = ps.length → bindArgs (PySem.W.fnOf x x (defArgs st) (defBody st) (defScope st) .none kV doc pm an cdv ct) ⟨us, []⟩ = pure (ps.zip us)) : Ok P w K mg base x k ps (spF K np pins fun _ => .bad) := by
  obtain ⟨fd, Fn⟩ := F.fn
  refine ⟨fd, ⟨fun vs H Q E ⟨ds, fp, _, _, _, _, _, _, h⟩ => h.elim, fun A outer s H args us vs Q E _ _ _ _ ⟨ds, fp, _, _, _, _, _, _, h⟩ => h.elim⟩, Fn.bindsN hb, Fn.kp, F.mg, by obtain ⟨oc, od, dV, kV, doc, pm, an, cdv, ct, osl, _, lk, _⟩ := Fn.ex; exact ⟨oc, od, osl, lk⟩⟩
section
variable {X : Cx} {Γ : Gm} {W : Wx} {K : PySem.W.Frag} {p p' fa fb fc f : Bool} {a b c : Expr} {eva evb evc : SD → R D} {q pos : Pos} {H : Hp}
def strsOf : List D → Option (List Str)
  | [] => some []
  | .str i :: ds => (strsOf ds).map (i :: ·)
  | _ => none
theorem strsOf_map : ∀ {ds : List D} {ns : List Str}, strsOf ds = some ns → ds = ns.map D.str
  | [], ns, h => by cases h; rfl
  | .str i :: ds, ns, h => by
    obtain ⟨ms, h1, rfl⟩ := Option.map_eq_some_iff.mp h
    rw [strsOf_map h1]; rfl
  | .non :: _, _, h => nomatch h
  | .bl _ :: _, _, h => nomatch h
  | .int _ :: _, _, h => nomatch h
  | .tup _ :: _, _, h => nomatch h
  | .tx _ :: _, _, h => nomatch h
  | .lst _ _ :: _, _, h => nomatch h
  | .dic _ _ :: _, _, h => nomatch h
  | .obj _ _ _ :: _, _, h => nomatch h
  | .exn _ :: _, _, h => nomatch h
theorem strsOf_strs : ∀ ns : List Str, strsOf (ns.map D.str) = some ns
  | [] => rfl
  | n :: ns => by show (strsOf (ns.map D.str)).map (n :: ·) = _; rw [strsOf_strs ns]; rfl
def gJoin (x y : D) : Option D := match x with
  | .str a => (seqOf y).bind fun xs => (strsOf xs).bind fun ys => if (ys.map (·.length)).sum + ys.length * a.length ≤ 16777216 then some (.str (Txt.join a ys)) else none
  | _ => none
theorem m_strs0 {ws : List Str} : isImms (ws.map D.str) = true := by
  induction ws with
  | nil => rfl
  | cons n ns ih => rw [List.map_cons]; show (isImm (.str n) && isImms (ns.map D.str)) = true; rw [ih]; rfl
theorem rm_join : RmSat K Γ (fun x xs H Q => ∃ a p, ∃ ys : List Str, x = .str a ∧ xs = [.ref p] ∧ (SqL K H p (ys.map V.str) ∨ SqT K H p (ys.map V.str)) ∧ (ys.map (·.length)).sum + ys.length * a.length ≤ 16777216 ∧ Q (.str (Txt.join a ys)) H) (rg1 gJoin) := rm_1 fun H x y d e F F' d' Q r1 r2 hg q => by
  cases d with
  | str a =>
    obtain ⟨xs, h1, hg⟩ := Option.bind_eq_some_iff.mp (show ((seqOf e).bind fun xs => (strsOf xs).bind fun ys => if (ys.map (·.length)).sum + ys.length * a.length ≤ 16777216 then some (D.str (Txt.join a ys)) else none) = some d' from hg)
    obtain ⟨ys, h2, hg3⟩ := Option.bind_eq_some_iff.mp hg
    have e := strsOf_map h2
    subst e
    split at hg3
    · rename_i hl
      cases hg3
      obtain ⟨z, vs, rfl, rs, s⟩ := read_seq r2 h1 m_strs0
      have ev := (Reps.strs rs).1
      subst ev
      refine ⟨a, z, ys, r1.1, rfl, ?_, hl, scal_q q ⟨rfl, rfl⟩⟩
      rcases s with ⟨s, _⟩ | ⟨s, _⟩
      · exact .inl s
      · exact .inr s
    · cases hg3
  | _ => cases hg
/-! ### a tuple so often -/
def gMulT (x y : D) : Option D := match x, y with
  | .tup xs, .int k => if xs ≠ [] ∧ 2 ≤ k ∧ k ≤ 1000 ∧ xs.length ≤ 1000 ∧ isImms xs = true then some (.tup (List.replicate k.toNat xs).flatten) else none
  | _, _ => none
theorem Reps.flat0 {H : Hp} {xs : List D} {vs : List V} (r : Reps K Γ H xs vs []) : ∀ n : Nat, Reps K Γ H (List.replicate n xs).flatten (List.replicate n vs).flatten []
  | 0 => rfl
  | n + 1 => by
    rw [List.replicate_succ, List.replicate_succ, List.flatten_cons, List.flatten_cons]
    exact r.append0 (Reps.flat0 r n)
end
end Vs

namespace Vs
open PySem PySem.Spec PyProof.Rows L2
/-! ### a tuple of just that kind, told as a tuple -/
def lo : D → D
  | .tx xs => .tup xs
  | d => d
theorem Rep.lo {K : PySem.W.Frag} {Γ : Gm} {H : Hp} {d : D} {v : V} {F : List Addr} (h : Rep K Γ H d v F) : Rep K Γ H (Vs.lo d) v F := by
  cases d with
  | tx xs =>
    obtain ⟨a, vs, e, s, r, f⟩ := h
    exact ⟨a, vs, e, s.sq, r, f⟩
  | _ => exact h
def eLo (ev : SD → R D) : SD → R D := fun env => (ev env).bind fun d e => .ok (lo d) e
section
variable {X : Cx} {Γ : Gm} {W : Wx} {p f fa : Bool} {a : Expr} {eva : SD → R D} {q pos : Pos}
theorem J.lo (h : J X Γ W p f a eva) : J X Γ W p f a (eLo eva) := by
  obtain ⟨t, pe, s⟩ := h.ex
  refine ⟨t, pe, fun σ H env fp re Q q => s σ H env fp re Q (hold_mono (hold_bind q) (fun d e k v H' fp' Fr o => ?_) fun _ _ z => z)⟩
  exact k v H' fp' Fr ⟨o.re, o.rep.lo, o.nd, o.fm, o.nw, o.pu, o.fr⟩
/-- tuple(list): its object is known -/
theorem call_tupleX : CallR X (.type "tuple") (fun xs H Q => ∃ p ys, xs = [.ref p] ∧ SqL X.K H p ys ∧ ∀ (l : Addr) (o : Obj), H l = none → o.cls = .type "tuple" → o.dict = none → Q (.ref l) (upd H l (.frz o (.tup ys)))) := by
  intro pins s σ H xs us Q I r h
  obtain ⟨p, ys, rfl, hq, q⟩ := h
  obtain ⟨u, rfl, rx⟩ := vals1 r
  cases rx
  obtain ⟨its, r', pl, hz⟩ := I.list hq
  have hlen := r'.length
  refine call_tuple_list pl.isList (fun h' kp => ?_) (by simp only [List.size_toArray] <;> omega)
  have I1 : Inv X pins σ H { s with heap := h' } := I.kept (t' := s.toks) kp
  have I2 : Inv X pins σ (upd H h'.objs.size (.frz { cls := .type "tuple", data := .seq its.toArray } (.tup ys))) { s with heap := h'.push { cls := .type "tuple", data := .seq its.toArray } } :=
    I1.laid (t' := s.toks) (fun b o e => Heap.get?_push_of_some _ e) (Nat.le_refl _) (show ObjOk X.prog X.w _ _ _ (.frz _ (.tup ys)) from ⟨Heap.get?_push_size _ rfl, hz, its, r', IsTup.new _ _⟩)
  exact ⟨.ref h'.objs.size, _, I2, rfl, q _ _ (I1.hok.fresh (Nat.le_refl _)) rfl rfl⟩
def gTupleX (d : D) : Option D := match d with
  | .lst _ xs => if isImms xs = true then some (.tx xs) else none
  | _ => none
theorem cs_tupleX {K : PySem.W.Frag} : CallSat K Γ (fun xs H Q => ∃ p ys, xs = [.ref p] ∧ SqL K H p ys ∧ ∀ (l : Addr) (o : Obj), H l = none → o.cls = .type "tuple" → o.dict = none → Q (.ref l) (upd H l (.frz o (.tup ys)))) (g1 gTupleX) := cs_1 fun H x d F d' Q r hg q => by
  cases d with
  | lst m xs =>
    have hg' : (if isImms xs = true then some (D.tx xs) else none) = some d' := hg
    split at hg'
    · rename_i hi
      cases hg'
      obtain ⟨z, vs, F', rfl, s, rs, _⟩ := read_any r
      have e := rs.immF hi
      subst e
      exact ⟨z, vs, rfl, s, fun l o nl hc hd => q (.ref l) _ [] ⟨l, vs, rfl, ⟨o, upd_same, hc, hd⟩, rs.same (same_new nl), rfl⟩ List.nodup_nil (same_new nl) fun _ m => nomatch m⟩
    · cases hg'
  | _ => cases hg
/-- dict(t) of such a tuple of pairs -/
theorem call_dictX (hcalm : X.calm = true) : CallR X (.type "dict") (fun xs H Q => ∃ (a : Addr) (ps : List Addr) (kvs : List (Key × V)), xs = [.ref a] ∧ TxAt H a (ps.map V.ref) ∧ Paired (fun p kv => SqT X.K H p [kV kv.1, kv.2]) ps kvs ∧
    ∀ p, H p = none → Q (.ref p) (upd H p (.dK (mergeK [] kvs)))) := by
  intro pins s σ H xs us Q I r q
  obtain ⟨a, ps, kvs, ex, ⟨o, ha, hc, hd⟩, hp, q⟩ := q
  subst ex
  obtain ⟨u, eu, rx⟩ := vals1 r
  subst eu
  cases rx
  obtain ⟨ho, hz, its, rv, ho2⟩ := I.hok a _ ha
  obtain ⟨o', ho', _, n, hdat⟩ := ho2
  rw [ho] at ho'
  cases ho'
  have ei := refs_at rv
  subst ei
  rw [List.length_map] at hz
  obtain ⟨prs, rel, hl, hpr⟩ := pairs_of I hp
  have hget : ∀ j (q' : Key × Value), prs[j]? = some q' → ∃ u : Value, ∃ b, ps[j]? = some b ∧ IsTup s.heap b #[u, q'.2] ∧ keyIs q'.1 u = true := fun j q' e => by
    obtain ⟨b, u, h1, h2, h3⟩ := hpr j q' e
    exact ⟨u, b, h1, h2, h3⟩
  have hw : ∀ j : Fin prs.length, ∃ u : Value, ∃ b, ps[j.1]? = some b ∧ IsTup s.heap b #[u, prs[j].2] ∧ keyIs prs[j].1 u = true := fun j => hget j.1 prs[j] (List.getElem?_eq_getElem j.2)
  have hch := Classical.axiomOfChoice hw
  obtain ⟨kf, hkf⟩ := hch
  have hvl : (List.ofFn fun j : Fin prs.length => (kf j, prs[j].2)).length = prs.length := List.length_ofFn
  have hvg : ∀ j (k v : Value), (List.ofFn fun j : Fin prs.length => (kf j, prs[j].2))[j]? = some (k, v) → ∃ hj : j < prs.length, k = kf ⟨j, hj⟩ ∧ v = prs[j].2 := fun j k v e => by
    have hj : j < prs.length := by
      have := (List.getElem?_eq_some_iff.mp e).1
      rwa [hvl] at this
    refine ⟨hj, ?_⟩
    rw [List.getElem?_ofFn, dif_pos hj] at e
    cases e
    exact ⟨rfl, rfl⟩
  have hTs : ∀ j, j < prs.length → ∃ b, ps[j]? = some b ∧ ps.getD j 0 = b := fun j hj => ⟨ps[j]'(by omega), List.getElem?_eq_getElem (by omega), by rw [List.getD_eq_getElem?_getD, List.getElem?_eq_getElem (by omega)]; rfl⟩
  have P := PairArg.tuple (prog := X.prog) (w := X.w) a (ps.map Value.ref).toArray (fun j => ps.getD j 0) (List.ofFn fun j : Fin prs.length => (kf j, prs[j].2))
  refine PySem.call_dict_pairs (knd := mixKind X.prog X.w) (kvs := prs) P (I.ok.hd hcalm) ⟨⟨o, n, ho, hc, hd, hdat⟩, by simp [hl], fun j k v e => ?_⟩ ⟨by rw [hvl], fun j k v e => ?_⟩ (by rw [hvl, hl]; exact hz) fun h' tk hd' k => ?_
  · obtain ⟨hj, rfl, rfl⟩ := hvg j k v e
    obtain ⟨b, h1, h2, h3⟩ := hkf ⟨j, hj⟩
    obtain ⟨b', h4, h5⟩ := hTs j hj
    rw [h1] at h4; cases h4
    have h1' : ps[j]? = some b := h1
    refine ⟨?_, ?_⟩
    · show (ps.map Value.ref).toArray[j]? = some (Value.ref (ps.getD j 0))
      rw [h5]; simp [h1']
    · show PairAt s.heap (ps.getD j 0) _ _
      rw [h5]
      exact .inl h2
  · obtain ⟨hj, rfl, rfl⟩ := hvg j k v e
    obtain ⟨b, h1, h2, h3⟩ := hkf ⟨j, hj⟩
    exact ⟨prs[j].1, List.getElem?_eq_getElem hj, h3⟩
  · have hm : (s.heap.objs.size == sysModules) = false := beq_eq_false_iff_ne.mpr (Nat.ne_of_gt I.big)
    have hlen : (mergeK [] kvs).length ≤ sizeLine := by
      refine Nat.le_trans (length_mergeK kvs []) ?_
      rw [List.length_nil, Nat.zero_add, rel.length, hl]
      exact hz
    exact ⟨.ref s.heap.objs.size, upd H s.heap.objs.size (.dK (mergeK [] kvs)), I.laid (t' := tk) (fun b ob e => k b ob (fun z => nomatch z) e) (Nat.le_refl _) (show ObjOk X.prog X.w _ _ _ (.dK (mergeK [] kvs)) from ⟨hlen, hm, merged [] prs, KV.merge rel .nil, hd'⟩), rfl, q _ (I.hok.fresh (Nat.le_refl _))⟩
/-! ### dict(..) of pairs -/
def pairsOf : List D → Option (List (Key × D))
  | [] => some []
  | .tup [k, v] :: r => (keyOf k).bind fun k => if isImm v = true then (pairsOf r).map ((k, v) :: ·) else none
  | _ => none
def dmerge (kvs more : List (Key × D)) : List (Key × D) := more.foldl (fun acc kv => dput acc kv.1 kv.2) kvs
theorem rep_key {K : PySem.W.Frag} {H : Hp} {d : D} {v : V} {F : List Addr} {k : Key} (r : Rep K Γ H d v F) (h : keyOf d = some k) : v = kV k := by
  cases d with
  | int i => cases h; exact r.1
  | str i => cases h; exact r.1
  | _ => cases h
theorem prs_rep {K : PySem.W.Frag} {H : Hp} : ∀ {xs : List D} {vs : List V} {kvs : List (Key × D)}, Reps K Γ H xs vs [] → pairsOf xs = some kvs → ∃ (ps : List Addr) (ks : List (Key × V)), vs = ps.map V.ref ∧ Paired (fun p kv => SqT K H p [kV kv.1, kv.2]) ps ks ∧ RepK K Γ H kvs ks
  | [], [], kvs, _, h => by cases h; exact ⟨[], [], rfl, .nil, trivial⟩
  | [], _ :: _, _, r, _ => r.elim
  | d :: ds, [], _, r, _ => by cases d <;> exact r.elim
  | .tup [k, x] :: ds, v :: vs, kvs, r, h => by
    obtain ⟨r1, r2⟩ := r.uncons0
    obtain ⟨key, hk, h2⟩ := Option.bind_eq_some_iff.mp (show ((keyOf k).bind fun k => if isImm x = true then (pairsOf ds).map ((k, x) :: ·) else none) = some kvs from h)
    split at h2
    · rename_i hi
      obtain ⟨kvs', h3, rfl⟩ := Option.map_eq_some_iff.mp h2
      obtain ⟨ps, ks, e, pr, rk⟩ := prs_rep r2 h3
      obtain ⟨a, ws, rfl, sq, rs, _⟩ := r1
      match ws, rs with
      | [w1, w2], rs =>
        obtain ⟨q1, q2⟩ := rs.uncons0
        obtain ⟨q3, _⟩ := q2.uncons0
        have e1 := rep_key q1 hk
        subst e1
        exact ⟨a :: ps, (key, w2) :: ks, by rw [e]; rfl, .cons sq pr, ⟨rfl, q3, rk⟩⟩
      | [], rs => exact rs.elim
      | [w1], rs => exact (rs.uncons0.2).elim
      | w1 :: w2 :: w3 :: ws, rs => exact ((rs.uncons0.2).uncons0.2).elim
    · cases h2
  | .tup [] :: _, _ :: _, _, _, h => nomatch h
  | .tup [_] :: _, _ :: _, _, _, h => nomatch h
  | .tup (_ :: _ :: _ :: _) :: _, _ :: _, _, _, h => nomatch h
  | .non :: _, _ :: _, _, _, h => nomatch h
  | .bl _ :: _, _ :: _, _, _, h => nomatch h
  | .int _ :: _, _ :: _, _, _, h => nomatch h
  | .str _ :: _, _ :: _, _, _, h => nomatch h
  | .tx _ :: _, _ :: _, _, _, h => nomatch h
  | .lst _ _ :: _, _ :: _, _, _, h => nomatch h
  | .dic _ _ :: _, _ :: _, _, _, h => nomatch h
  | .obj _ _ _ :: _, _ :: _, _, _, h => nomatch h
  | .exn _ :: _, _ :: _, _, _, h => nomatch h
theorem RepK.mrg {K : PySem.W.Frag} {H : Hp} : ∀ {more : List (Key × D)} {ms : List (Key × V)} {kvs : List (Key × D)} {ks : List (Key × V)}, RepK K Γ H more ms → RepK K Γ H kvs ks → RepK K Γ H (dmerge kvs more) (mergeK ks ms)
  | [], [], _, _, _, h => h
  | (k, d) :: more, (k', v) :: ms, kvs, ks, r, h => by
    obtain ⟨e, r1, r2⟩ := r
    subst e
    show RepK K Γ H (dmerge (dput kvs k d) more) (mergeK (putK ks k v) ms)
    exact RepK.mrg r2 (RepK.put k r1 h)
  | [], _ :: _, _, _, r, _ => r.elim
  | _ :: _, [], _, _, r, _ => r.elim
def gDictX : D → Option D
  | .tx xs => (pairsOf xs).map fun kvs => .dic .own (dmerge [] kvs)
  | _ => none
def gDictL : D → Option D
  | .lst _ xs => if isImms xs = true then (pairsOf xs).map fun kvs => .dic .own (dmerge [] kvs) else none
  | _ => none
theorem new_dic {K : PySem.W.Frag} {H : Hp} {kvs : List (Key × D)} {ks : List (Key × V)} {Q : VK} (rk : RepK K Γ H kvs ks) (q : ∀ v H' Fr, Rep K Γ H' (.dic .own kvs) v Fr → Fr.Nodup → Same H H' → (∀ z ∈ Fr, H z = none) → Q v H') : ∀ p, H p = none → Q (.ref p) (upd H p (.dK ks)) := fun p np =>
  q (.ref p) _ [p] ⟨p, ks, rfl, upd_same, rk.ag (Ag.same (same_new np)), rfl⟩ (by simp) (same_new np) fun z m => by rw [List.mem_singleton.mp m]; exact np
theorem cs_dictX {K : PySem.W.Frag} : CallSat K Γ (fun xs H Q => ∃ (a : Addr) (ps : List Addr) (kvs : List (Key × V)), xs = [.ref a] ∧ TxAt H a (ps.map V.ref) ∧ Paired (fun p kv => SqT K H p [kV kv.1, kv.2]) ps kvs ∧ ∀ p, H p = none → Q (.ref p) (upd H p (.dK (mergeK [] kvs)))) (g1 gDictX) := cs_1 fun H x d F d' Q r hg q => by
  cases d with
  | tx xs =>
    obtain ⟨kvs, h1, rfl⟩ := Option.map_eq_some_iff.mp (show (pairsOf xs).map (fun kvs => D.dic .own (dmerge [] kvs)) = some d' from hg)
    obtain ⟨a, vs, rfl, s, rs, _⟩ := r
    obtain ⟨ps, ks, rfl, pr, rk⟩ := prs_rep rs h1
    exact ⟨a, ps, ks, rfl, s, pr, new_dic (RepK.mrg rk (show RepK K Γ H [] [] from trivial)) q⟩
  | _ => cases hg
theorem cs_dictL {K : PySem.W.Frag} : CallSat K Γ (fun xs H Q => ∃ (a : Addr) (ps : List Addr) (kvs : List (Key × V)), xs = [.ref a] ∧ SqL K H a (ps.map V.ref) ∧ Paired (fun p kv => SqT K H p [kV kv.1, kv.2]) ps kvs ∧ ∀ p, H p = none → Q (.ref p) (upd H p (.dK (mergeK [] kvs)))) (g1 gDictL) := cs_1 fun H x d F d' Q r hg q => by
  cases d with
  | lst m xs =>
    have hg' : (if isImms xs = true then (pairsOf xs).map (fun kvs => D.dic .own (dmerge [] kvs)) else none) = some d' := hg
    split at hg'
    · rename_i hi
      obtain ⟨kvs, h1, rfl⟩ := Option.map_eq_some_iff.mp hg'
      obtain ⟨z, vs, F', rfl, s, rs, _⟩ := read_any r
      have e := rs.immF hi
      subst e
      obtain ⟨ps, ks, rfl, pr, rk⟩ := prs_rep rs h1
      exact ⟨z, ps, ks, rfl, s, pr, new_dic (RepK.mrg rk (show RepK K Γ H [] [] from trivial)) q⟩
    · cases hg'
  | _ => cases hg
end
end Vs

namespace Vs
open PySem PySem.Spec PyProof.Rows L2
section
variable {X : Cx} {Γ : Gm} {W : Wx} {p f fa : Bool} {a : Expr} {eva : SD → R D} {q pos : Pos} {K : PySem.W.Frag}
theorem ag_frzD {H : Hp} {z : Addr} {ks : List (Key × V)} {od : Obj} {F : List Addr} (e : H z = some (.dK ks)) (n : z ∉ F) (g : ¬ Γ.G z) : Ag Γ F H (upd H z (.frz od (.dK ks))) := fun y o h q => by
  by_cases hy : y = z
  · subst hy
    rw [e] at h; cases h
    rcases q with q | q | q
    · exact (n q).elim
    · exact (q trivial).elim
    · exact (g q).elim
  · rw [upd_ne hy]; exact h
/-! ### freezing a table -/
theorem re_freezeD {H : Hp} {σ : L2.St} {env : SD} {fp : Fp} {i : Nat} {xs : List (Key × D)} (re : RE K Γ H σ env fp) (he : env[i]? = some (some (.dic .own xs))) : ∃ z vs, H z = some (.dK vs) ∧ ∀ od, RE K Γ (upd H z (.frz od (.dK vs))) σ (env.set i (some (.dic .imm xs))) (upF fp i []) ∧ Fm H fp (upd H z (.frz od (.dK vs))) (upF fp i []) := by
  obtain ⟨v, hv, z, vs, rfl, hz, rs, eF⟩ := re.slot i _ he
  have hzi : z ∈ fp i := by rw [eF]; exact List.mem_cons_self
  have gz : ¬ Γ.G z := re.ng i z hzi
  have il : i < env.length := (List.getElem?_eq_some_iff.mp he).1
  refine ⟨z, vs, hz, fun od => ⟨⟨fun j d e => ?_, fun j n => ?_, fun j k y m1 m2 => ?_, fun j => ?_, fun j y m => ?_, re.pin, fun y o g h => ?_, by rw [List.length_set]; exact re.len⟩, ⟨fun y o h n => ?_, fun j y m => ?_⟩⟩⟩
  · by_cases hj : j = i
    · subst hj
      rw [List.getElem?_set_self il] at e
      cases e
      exact ⟨.ref z, hv, by rw [upF_same]; exact ⟨z, vs, od, rfl, upd_same, rs.ag (ag_frzD hz (by simp) gz), rfl⟩⟩
    · rw [List.getElem?_set_ne (Ne.symm hj)] at e
      obtain ⟨w, h1, h2⟩ := re.slot j d e
      exact ⟨w, h1, by rw [upF_ne hj]; exact h2.ag (ag_frzD hz (fun m => hj (re.dis j i z m hzi)) gz)⟩
  · by_cases hj : j = i
    · subst hj; rw [upF_same]
    · rw [upF_ne hj]
      exact re.void j fun d e => n d (by rw [List.getElem?_set_ne (Ne.symm hj)]; exact e)
  · rcases upF_mem m1 with ⟨_, m1⟩ | ⟨_, m1⟩ <;> rcases upF_mem m2 with ⟨_, m2⟩ | ⟨_, m2⟩
    · cases m1
    · cases m1
    · cases m2
    · exact re.dis j k y m1 m2
  · by_cases hj : j = i
    · subst hj; rw [upF_same]; exact List.nodup_nil
    · rw [upF_ne hj]; exact re.nd j
  · rcases upF_mem m with ⟨_, m⟩ | ⟨_, m⟩
    · cases m
    · exact re.ng j y m
  · by_cases hy : y = z
    · subst hy; exact (gz g).elim
    · rw [upd_ne hy]; exact re.base y o g h
  · by_cases hy : y = z
    · subst hy; exact (n i hzi).elim
    · rw [upd_ne hy]; exact h
  · rcases upF_mem m with ⟨_, m⟩ | ⟨_, m⟩
    · cases m
    · exact .inl ⟨j, m⟩
def sFzD (i : Nat) : SD → R Fl := fun env => match env[i]? with
  | some (some (.dic .own xs)) => .ok .nx (env.set i (some (.dic .imm xs)))
  | _ => .bad
theorem js_fzD (i : Nat) {st : Stmt} {ss : SD → R Fl} (h : JS X Γ W st ss) : JS X Γ W st (sSeq (sFzD i) ss) := by
  obtain ⟨t, ps, s⟩ := h.ex
  refine ⟨_, ps_pre ps, fun σ H env fp re Z q => ?_⟩
  have q1 := hold_bind q
  unfold sFzD at q1
  split at q1
  · rename_i xs he
    obtain ⟨z, vs, hz, all⟩ := re_freezeD re he
    refine ⟨z, _, hz, trivial, fun od => ?_⟩
    obtain ⟨r', f'⟩ := all od
    exact s.from r' f' q1
  · exact q1.elim
/-! ### a table walked -/
def itemD (kv : Key × D) : D := .tup [keyD kv.1, kv.2]
def itItems (ev : SD → R D) : SD → R (List D) := fun env => (ev env).bind fun d e => match d with
  | .dic .imm kvs => .ok (kvs.map itemD) e
  | _ => .bad
def itKeys (ev : SD → R D) : SD → R (List D) := fun env => (ev env).bind fun d e => match d with
  | .dic .imm kvs => .ok (kvs.map fun kv => keyD kv.1) e
  | _ => .bad
theorem RepK.at : ∀ {kvs : List (Key × D)} {ks : List (Key × V)} {H : Hp} {i : Nat}, RepK K Γ H kvs ks → (hi : i < kvs.length) → ∃ v, ks[i]? = some (kvs[i].1, v) ∧ Rep K Γ H kvs[i].2 v []
  | (k, d) :: kvs, (k', v) :: ks, _, 0, h, _ => by
    obtain ⟨e, r, _⟩ := h
    subst e
    exact ⟨v, rfl, r⟩
  | (k, d) :: kvs, (k', v) :: ks, _, i + 1, h, hi => by
    obtain ⟨v', h1, h2⟩ := RepK.at (i := i) h.2.2 (by simpa using hi)
    exact ⟨v', by simpa using h1, h2⟩
  | [], _, _, _, _, hi => by simp at hi
  | _ :: _, [], _, _, h, _ => h.elim
theorem rep_keyD {H : Hp} (k : Key) : Rep K Γ H (keyD k) (kV k) [] := by
  cases k with
  | inl i => exact ⟨rfl, rfl⟩
  | inr i => exact ⟨rfl, rfl⟩
theorem ji_items {elts : List Expr} {kk : Nat} {tpos apos cpos : Pos} (h : J X Γ W p f a eva) (hbase : attributeBase a "items" X.env (eval a X.env) = eval a X.env := by rfl) (hline : (apos.endLine == cpos.line) = true := by rfl) :
    JI X Γ W p (.Tuple elts kk tpos) (.Call (.Attribute a "items" apos) [] [] cpos) (itItems eva) := by
  obtain ⟨t, pe, s⟩ := h.ex
  refine ⟨_, pi_items pe hbase hline, fun σ H env fp re Rr q => s σ H env fp re _ (hold_mono (hold_bind q) (fun d e k v H' fp' Fr o => ?_) fun _ _ z => z)⟩
  cases d with
  | dic m kvs =>
    cases m with
    | own => exact k.elim
    | bor => exact k.elim
    | imm =>
      obtain ⟨z, ks, od, rfl, hz, rk, _⟩ := o.rep
      refine ⟨z, od, ks, rfl, hz, k _ H' fp' o.re o.fm o.pu ⟨_, _, by rw [List.length_map, rk.len]; exact walk_items, fun H2 g => g _ _ hz (.inr (.inl id)), fun i H2 x H3 g hi y => ?_⟩⟩
      rw [List.length_map] at hi
      obtain ⟨w, h1, h2⟩ := RepK.at (rk.ag g) hi
      refine ⟨itemD kvs[i], by rw [List.getElem?_map, List.getElem?_eq_getElem hi]; rfl, ?_⟩
      refine yPair_ok y (fun x e => ?_) (fun x e => ?_)
      · rw [h1] at e
        cases e
        exact rep_keyD _
      · rw [h1] at e
        cases e
        exact h2
  | _ => exact k.elim
theorem ji_keys {tg : Expr} (h : J X Γ W p f a eva) : JI X Γ W p tg a (itKeys eva) := by
  obtain ⟨t, pe, s⟩ := h.ex
  refine ⟨_, pi_keys pe, fun σ H env fp re Rr q => s σ H env fp re _ (hold_mono (hold_bind q) (fun d e k v H' fp' Fr o => ?_) fun _ _ z => z)⟩
  cases d with
  | dic m kvs =>
    cases m with
    | own => exact k.elim
    | bor => exact k.elim
    | imm =>
      obtain ⟨z, ks, od, rfl, hz, rk, _⟩ := o.rep
      refine ⟨z, od, rfl, .inl ⟨ks, hz, k _ H' fp' o.re o.fm o.pu ⟨_, _, by rw [List.length_map, rk.len]; exact walk_keys, fun H2 g => g _ _ hz (.inr (.inl id)), fun i H2 x H3 g hi y => ?_⟩⟩⟩
      rw [List.length_map] at hi
      obtain ⟨w, h1, h2⟩ := RepK.at (rk.ag g) hi
      obtain ⟨rfl, k', v', e1, rfl⟩ := y
      rw [h1] at e1
      cases e1
      exact ⟨keyD kvs[i].1, by rw [List.getElem?_map, List.getElem?_eq_getElem hi]; rfl, rep_keyD _, Same.refl _⟩
  | _ => exact k.elim
end
end Vs

namespace Vs
open PySem PySem.Spec PyProof.Rows L2
/-! ### a table that is walked while it is lent, or stays its holder's -/
def scal : D → Bool
  | .non => true | .bl _ => true | .int _ => true | .str _ => true
  | _ => false
def scals (kvs : List (Key × D)) : Bool := kvs.all fun kv => scal kv.2
/-- all other slots hold scalars -/
def scBut (s : Nat) (env : SD) : Bool := (List.range env.length).all fun i => decide (i = s) || (match env[i]? with
  | some (some d) => scal d
  | _ => true)
section
variable {X : Cx} {Γ Γ' : Gm} {W : Wx} {p f fa : Bool} {a : Expr} {eva : SD → R D} {q pos : Pos} {K : PySem.W.Frag} {H H' : Hp}
theorem Rep.sc {d : D} {v : V} {F : List Addr} (h : Rep K Γ H d v F) (s : scal d = true) : F = [] ∧ Rep K Γ' H' d v [] := by
  cases d with
  | non => exact ⟨h.2, h.1, rfl⟩
  | bl b => exact ⟨h.2, h.1, rfl⟩
  | int b => exact ⟨h.2, h.1, rfl⟩
  | str b => exact ⟨h.2, h.1, rfl⟩
  | _ => cases s
theorem RepK.sc : ∀ {kvs : List (Key × D)} {ks : List (Key × V)}, RepK K Γ H kvs ks → scals kvs = true → RepK K Γ' H' kvs ks
  | [], [], h, _ => h
  | (k, d) :: kvs, (k', v) :: ks, h, s => by
    have s' : (scal d && scals kvs) = true := s
    rw [Bool.and_eq_true] at s'
    exact ⟨h.1, (h.2.1.sc s'.1).2, RepK.sc h.2.2 s'.2⟩
  | [], _ :: _, h, _ => h.elim
  | _ :: _, [], h, _ => h.elim
theorem scBut_at {s i : Nat} {env : SD} {d : D} (h : scBut s env = true) (hi : i ≠ s) (e : env[i]? = some (some d)) : scal d = true := by
  have hl : i < env.length := (List.getElem?_eq_some_iff.mp e).1
  have := List.all_eq_true.mp h i (List.mem_range.mpr hl)
  rw [e] at this
  simpa [hi] using this
def sLock (s : Nat) (ev : SD → R Fl) : SD → R Fl := fun env => match env[s]? with
  | some (some (.dic m kvs)) => if m ≠ .imm ∧ scals kvs = true ∧ scBut s env = true then (match ev (env.set s (some (.dic .imm kvs))) with
    | .ok fl e => (match fl with
      | .rt d => if scal d = true ∧ scBut s e = true then .ok (.rt d) (e.set s (some (.dic m kvs))) else .bad
      | fl => if scBut s e = true then .ok fl (e.set s (some (.dic m kvs))) else .bad)
    | _ => .bad) else .bad
  | _ => .bad
theorem js_lock (s : Nat) {st : Stmt} {ss : SD → R Fl} (h : ∀ (H0 : Hp) (F0 : Addr → Prop) (σ0 : L2.St), JS X ⟨H0, F0, s :: Γ.pins, σ0⟩ W st ss) : JS X Γ W st (sLock s ss) := by
  have PT : PS X st (fun Z σ H => ∃ (H0 : Hp) (F0 : Addr → Prop) (σ0 : L2.St) (t : TS), PS X st t ∧ SatS X.K ⟨H0, F0, s :: Γ.pins, σ0⟩ W t ss ∧ t Z σ H) :=
    ⟨fun pins sh σ H D I hh => by
      obtain ⟨H0, F0, σ0, t, ps, _, ht⟩ := hh
      exact ps.run pins sh σ H D I ht⟩
  refine ⟨_, ps_lock PT, fun σ H env fp re Z q => ?_⟩
  unfold sLock at q
  split at q
  · rename_i m kvs he
    by_cases hc : m ≠ .imm ∧ scals kvs = true ∧ scBut s env = true
    · rw [if_pos hc] at q
      obtain ⟨hm, hsk, hsb⟩ := hc
      obtain ⟨v, hv, hrep⟩ := re.slot s _ he
      have il : s < env.length := (List.getElem?_eq_some_iff.mp he).1
      obtain ⟨z, ks, rfl, hz, rk, hF⟩ : ∃ z ks, v = .ref z ∧ H z = some (.dK ks) ∧ RepK X.K Γ H kvs ks ∧ ((m = .own ∧ fp s = [z]) ∨ (m = .bor ∧ Γ.G z ∧ fp s = [])) := by
        cases m with
        | own => obtain ⟨z, ks, e1, e2, e3, e4⟩ := hrep; exact ⟨z, ks, e1, e2, e3, .inl ⟨rfl, e4⟩⟩
        | imm => exact (hm rfl).elim
        | bor => obtain ⟨z, ks, e1, g, e2, e3, e4⟩ := hrep; exact ⟨z, ks, e1, e2, e3, .inr ⟨rfl, g, e4⟩⟩
      have hfp : ∀ i, i ≠ s → fp i = [] := fun i hi => by
        by_cases hd : ∃ d, env[i]? = some (some d)
        · obtain ⟨d, ed⟩ := hd
          obtain ⟨w, _, rw'⟩ := re.slot i d ed
          exact (rw'.sc (Γ' := Γ) (H' := H) (scBut_at hsb hi ed)).1
        · exact re.void i fun d e => hd ⟨d, e⟩
      refine ⟨z, _, hz, trivial, fun od => ?_⟩
      refine ⟨Γ.H0, (fun x => Γ.F0 x ∨ x = z), σ, ?_⟩
      obtain ⟨t, ps, sat⟩ := (h Γ.H0 (fun x => Γ.F0 x ∨ x = z) σ).ex
      refine ⟨t, ps, sat, ?_⟩
      have nz : ∀ i, z ∉ upF fp s [] i := fun i mz => by
        rcases upF_mem mz with ⟨_, mz⟩ | ⟨hi, mz⟩
        · cases mz
        · rw [hfp i hi] at mz; cases mz
      have all0 : ∀ i, upF fp s [] i = [] := fun i => by
        by_cases hi : i = s
        · subst hi; exact upF_same _ _ _
        · rw [upF_ne hi]; exact hfp i hi
      have re1 : RE X.K ⟨Γ.H0, (fun x => Γ.F0 x ∨ x = z), s :: Γ.pins, σ⟩ (upd H z (.frz od (.dK ks))) σ (env.set s (some (.dic .imm kvs))) (upF fp s []) := by
        refine ⟨fun j d e => ?_, fun j n => all0 j, fun j k y m1 m2 => ?_, fun j => ?_, fun j y my => ?_, fun i hi => rfl, fun y o g hy => ?_, by rw [List.length_set]; exact re.len⟩
        · by_cases hj : j = s
          · subst hj
            rw [List.getElem?_set_self il] at e
            cases e
            exact ⟨.ref z, hv, by rw [upF_same]; exact ⟨z, ks, od, rfl, upd_same, rk.sc hsk, rfl⟩⟩
          · rw [List.getElem?_set_ne (Ne.symm hj)] at e
            obtain ⟨w, h1, h2⟩ := re.slot j d e
            exact ⟨w, h1, by rw [all0]; exact (h2.sc (scBut_at hsb hj e)).2⟩
        · rw [all0] at m1; cases m1
        · rw [all0]; exact List.nodup_nil
        · rw [all0] at my; cases my
        · have gx : Γ.G y := ⟨g.1, fun z' => g.2 (.inl z')⟩
          have ne : y ≠ z := fun e => g.2 (.inr e)
          rw [upd_ne ne]
          exact re.base y o gx hy
      -- what is had behind it
      have back : ∀ (e : SD) (σ' : L2.St) (H2 : Hp) (fp2 : Fp), scBut s e = true → RE X.K ⟨Γ.H0, (fun x => Γ.F0 x ∨ x = z), s :: Γ.pins, σ⟩ H2 σ' e fp2 → Fm (upd H z (.frz od (.dK ks))) (upF fp s []) H2 fp2 →
          H2 z = some (.frz od (.dK ks)) ∧ RE X.K Γ (upd H2 z (.dK ks)) σ' (e.set s (some (.dic m kvs))) (upF fp2 s (fp s)) ∧ Fm H fp (upd H2 z (.dK ks)) (upF fp2 s (fp s)) := by
        intro e σ' H2 fp2 hse re2 fm2
        have hz2 : H2 z = some (.frz od (.dK ks)) := fm2.keep z _ upd_same nz
        have hfp2 : ∀ i, i ≠ s → fp2 i = [] := fun i hi => by
          by_cases hd : ∃ d, e[i]? = some (some d)
          · obtain ⟨d, ed⟩ := hd
            obtain ⟨w, _, rw'⟩ := re2.slot i d ed
            exact (rw'.sc (Γ' := Γ) (H' := H) (scBut_at hse hi ed)).1
          · exact re2.void i fun d e => hd ⟨d, e⟩
        have kp : ∀ y o, H y = some o → (∀ i, y ∉ fp i) → upd H2 z (.dK ks) y = some o := fun y o hy n => by
          by_cases hyz : y = z
          · subst hyz
            rw [hz] at hy; cases hy
            exact upd_same
          · rw [upd_ne hyz]
            exact fm2.keep y o (by rw [upd_ne hyz]; exact hy) (fun i mi => by rw [all0] at mi; cases mi)
        have hps : σ'[s]? = some (some (.ref z)) := by rw [re2.pin s List.mem_cons_self]; exact hv
        have hel : s < e.length := by
          rw [← re2.len]
          exact (List.getElem?_eq_some_iff.mp hps).1
        have only : ∀ j y, y ∈ upF fp2 s (fp s) j → j = s ∧ y ∈ fp s := fun j y my => by
          rcases upF_mem my with ⟨hj, my⟩ | ⟨hj, my⟩
          · exact ⟨hj, my⟩
          · rw [hfp2 j hj] at my; cases my
        refine ⟨hz2, ⟨fun j d ed => ?_, fun j n => ?_, fun j k y m1 m2 => ?_, fun j => ?_, fun j y my => ?_, fun i hi => ?_, fun y o g hy => ?_, by rw [List.length_set]; exact re2.len⟩, ⟨kp, fun j y my => ?_⟩⟩
        · by_cases hj : j = s
          · subst hj
            rw [List.getElem?_set_self hel] at ed
            cases ed
            refine ⟨.ref z, hps, ?_⟩
            rw [upF_same]
            rcases hF with ⟨rfl, hF⟩ | ⟨rfl, g, hF⟩
            · rw [hF]; exact ⟨z, ks, rfl, upd_same, rk.sc hsk, rfl⟩
            · rw [hF]; exact ⟨z, ks, rfl, g, upd_same, rk.sc hsk, rfl⟩
          · rw [List.getElem?_set_ne (Ne.symm hj)] at ed
            obtain ⟨w, h1, h2⟩ := re2.slot j d ed
            refine ⟨w, h1, ?_⟩
            rw [upF_ne hj, hfp2 j hj]
            exact (h2.sc (scBut_at hse hj ed)).2
        · by_cases hj : j = s
          · subst hj
            exact (n _ (List.getElem?_set_self hel)).elim
          · rw [upF_ne hj]; exact hfp2 j hj
        · rw [(only j y m1).1, (only k y m2).1]
        · by_cases hj : j = s
          · subst hj; rw [upF_same]; exact re.nd j
          · rw [upF_ne hj, hfp2 j hj]; exact List.nodup_nil
        · exact re.ng s y (only j y my).2
        · rw [re2.pin i (List.mem_cons_of_mem _ hi)]; exact re.pin i hi
        · exact kp y o (re.base y o g hy) fun i mi => re.ng i y mi g
        · exact .inl ⟨s, (only j y my).2⟩
      refine sat σ _ _ _ re1 _ ?_
      cases hr : ss (env.set s (some (.dic .imm kvs))) with
      | bad => rw [hr] at q; exact q.elim
      | exc c e => rw [hr] at q; exact q.elim
      | ok fl e =>
        rw [hr] at q
        cases fl with
        | rt d =>
          have q' : hold (if scal d = true ∧ scBut s e = true then R.ok (Fl.rt d) (e.set s (some (.dic m kvs))) else R.bad) _ _ := q
          by_cases hd : scal d = true ∧ scBut s e = true
          · rw [if_pos hd] at q'
            intro v σ' H2 fp2 Fr re2 fm2 rd nd fr nw
            obtain ⟨k1, k2, k3⟩ := back e σ' H2 fp2 hd.2 re2 fm2
            exact ⟨k1, q' v σ' _ _ [] k2 k3 (rd.sc hd.1).2 List.nodup_nil (fun _ m => nomatch m) (fun _ m => nomatch m)⟩
          · rw [if_neg hd] at q'; exact q'.elim
        | nx =>
          have q' : hold (if scBut s e = true then R.ok Fl.nx (e.set s (some (.dic m kvs))) else R.bad) _ _ := q
          by_cases hd : scBut s e = true
          · rw [if_pos hd] at q'
            intro σ' H2 fp2 re2 fm2
            obtain ⟨k1, k2, k3⟩ := back e σ' H2 fp2 hd re2 fm2
            exact ⟨k1, q' σ' _ _ k2 k3⟩
          · rw [if_neg hd] at q'; exact q'.elim
        | bk =>
          have q' : hold (if scBut s e = true then R.ok Fl.bk (e.set s (some (.dic m kvs))) else R.bad) _ _ := q
          by_cases hd : scBut s e = true
          · rw [if_pos hd] at q'
            intro σ' H2 fp2 re2 fm2
            obtain ⟨k1, k2, k3⟩ := back e σ' H2 fp2 hd re2 fm2
            exact ⟨k1, q' σ' _ _ k2 k3⟩
          · rw [if_neg hd] at q'; exact q'.elim
        | ct =>
          have q' : hold (if scBut s e = true then R.ok Fl.ct (e.set s (some (.dic m kvs))) else R.bad) _ _ := q
          by_cases hd : scBut s e = true
          · rw [if_pos hd] at q'
            intro σ' H2 fp2 re2 fm2
            obtain ⟨k1, k2, k3⟩ := back e σ' H2 fp2 hd re2 fm2
            exact ⟨k1, q' σ' _ _ k2 k3⟩
          · rw [if_neg hd] at q'; exact q'.elim
    · rw [if_neg hc] at q; exact q.elim
  · exact q.elim
end
end Vs

namespace Vs
open PySem PySem.Spec PyProof.Rows L2
section
variable {X : Cx} {Γ Γ' : Gm} {W : Wx} {p f fa : Bool} {a : Expr} {eva : SD → R D} {q pos : Pos} {K : PySem.W.Frag} {H H' : Hp}
theorem preSum_list : ∀ (is : List Int), preSum (fun i => is.getD i 0) is.length = is.sum := by
  have key : ∀ (is : List Int) (n : Nat), preSum (fun i => is.getD i 0) n = (is.take n).sum := by
    intro is n
    induction n with
    | zero => rfl
    | succ n ih =>
      rw [preSum, ih, List.take_succ, List.sum_append, List.getD_eq_getElem?_getD]
      cases is[n]? with
      | none => simp
      | some x => simp
  intro is
  rw [key, List.take_length]
def tSumV (te : TE) : TE := fun σ H Q => te σ H fun x H1 => ∃ (d : Addr) (kvs : List (Key × V)) (is : List Int), x = .ref d ∧ Rd H1 d (.dK kvs) ∧ kvs.map (·.2) = is.map V.int ∧ Q (.int is.sum) H1
theorem boot_sum' : bootBuiltins "sum" = some (.builtin "sum") := by decide +kernel
theorem pe_sumV {te : TE} {apos cpos : Pos} (hc : X.calm = true) (he : PE X a te) (hg : Gl X "sum") (hm : X.mg "sum" = none) (hbase : attributeBase a "values" X.env (eval a X.env) = eval a X.env) (hline : (apos.endLine == cpos.line) = true)
    (hs : starEach [.Call (.Attribute a "values" apos) [] [] cpos] X.env = (false, eval (.Call (.Attribute a "values" apos) [] [] cpos) X.env) :: starEach [] X.env) : PE X (.Call (.Name "sum" q) [.Call (.Attribute a "values" apos) [] [] cpos] [] pos) (tSumV te) := by
  refine ⟨fun pins s σ H Q I hq => ?_⟩
  refine wpAny_Call_Name_kw (ld_blt I hg hm boot_sum' ?_)
  refine PyProof.Rows.callWith_builtin1 ?_ hs rfl
  rw [hs]
  show wpAny _ _ (spliced ((false, eval (.Call (.Attribute a "values" apos) [] [] cpos) X.env) :: backTo pos (starEach [] X.env))) _ _ s
  refine Calls.spliced_cons ?_
  refine wpAny_Call_method (T := "dict") (id := "dict.values") hbase rfl hline F.plainAttrs_dict F.slot_dict_values F.type_dict_values (thn (he.run pins s σ H _ I hq) fun u s1 ⟨x, H1, I1, rx, d, kvs, is, ex, hd, hv, qq⟩ => ?_)
  subst ex
  obtain rfl : u = Value.ref d := rx
  obtain ⟨hz, hs0, vs, kv, hdo⟩ := dk_rd I1.hok hd
  obtain ⟨ep, hat⟩ := hdo.dictAt
  have lk : kvs.length = vs.length := Paired.length kv
  refine ⟨hdo.typeIs, hdo.mapOf.noDict, ?_⟩
  show wpAny _ _ (callWith cpos (.builtin "dict.values") [.ref d] [] []) _ X.xe s1
  refine method_meetsIn F.slot_dict_values F.entry_dict_values rfl (PySem.evalArgs_none ⟨rfl, hdo.typeIs, F.args_dict_values_1 _, _, meets_dict_values (mixKind X.prog X.w) d hs0, ⟨vs, hdo⟩, ?_⟩)
  refine Calls.spliced_nil ?_
  have li : vs.length = is.length := by
    have e1 := congrArg List.length hv
    rw [List.length_map, List.length_map] at e1
    omega
  have hval : ∀ (i : Nat) (v : Value), (∃ k, vs[i]? = some (k, v)) → ∃ t, v = Value.int (is.getD i 0) t := fun i v hk => by
    obtain ⟨k, hk⟩ := hk
    have hi : i < kvs.length := by rw [lk]; exact (List.getElem?_eq_some_iff.mp hk).1
    obtain ⟨qv, g1, g2, g3⟩ := LiI.paired_get kv (List.getElem?_eq_getElem hi)
    rw [hk] at g1
    cases g1
    have e1 : (kvs.map (·.2))[i]? = some kvs[i].2 := by rw [List.getElem?_map, List.getElem?_eq_getElem hi]; rfl
    rw [hv, List.getElem?_map] at e1
    obtain ⟨j, hj, e2⟩ := Option.map_eq_some_iff.mp e1
    rw [← e2] at g3
    obtain ⟨t, e3⟩ := g3
    refine ⟨t, ?_⟩
    rw [List.getD_eq_getElem?_getD, hj]
    exact e3
  obtain ⟨h0, hh0⟩ : ∃ h0 : Heap, h0 = s1.heap.push { cls := .type "dict_values", data := .fields #[.ref d] } := ⟨_, rfl⟩
  have k1 : ∀ b o, s1.heap.get? b = some o → h0.get? b = some o := fun b o e => by rw [hh0]; exact Heap.get?_push_of_some _ e
  have dat1 : h0.DictAt (mixKind X.prog X.w) d vs ep := hat.keep k1
  have vw : h0.IsValuesView s1.heap.objs.size d := by rw [hh0]; exact ⟨_, Heap.get?_push_size _ rfl, rfl, rfl⟩
  have hlt : d < s1.heap.objs.size := by
    obtain ⟨o, ho, _⟩ := hdo.typeIs
    exact Heap.lt_size ho
  have hsz : h0.objs.size = s1.heap.objs.size + 1 := by rw [hh0]; exact Heap.size_push _ _
  rw [← hh0]
  refine call_sum_walkAnyS (wpAny_pyIter_values vw dat1 ?_)
  refine ⟨h0.objs.size, _, _, _, _, _, _, (fun i => is.getD i 0), rfl, (Walks.dictValues (knd := mixKind X.prog X.w) (A := X.A.in1) (I1.ok.hd hc) h0.objs.size d (by rw [hsz]; exact Nat.ne_of_lt (Nat.lt_succ_of_lt hlt)) vs ep).toS, ?_, fun b hb => ?_, hval, fun s' t' mv => ?_⟩
  · exact ⟨⟨_, Heap.get?_push_size _ rfl, rfl, rfl⟩, dat1.keep fun b o e => Heap.get?_push_of_some _ e⟩
  · show b < (h0.push _).objs.size
    rw [Heap.size_push]
    rcases List.mem_cons.mp hb with e | hb
    · rw [e]; exact Nat.lt_succ_self _
    · rw [List.mem_singleton.mp hb, hsz]; exact Nat.lt_succ_of_lt (Nat.lt_succ_of_lt hlt)
  · rw [li, preSum_list]
    have kp : ∀ b o, s1.heap.get? b = some o → s'.heap.get? b = some o := fun b o e =>
      mv.heap b o (fun hI => by
        have e2 := Heap.lt_size e
        have e3 : b = h0.objs.size := List.mem_singleton.mp hI
        rw [e3, hsz] at e2
        exact Nat.not_lt.mpr (Nat.le_succ _) e2) (Heap.get?_push_of_some _ (k1 b o e))
    rw [Moved.eq_with mv]
    exact ⟨.int is.sum, H1, I1.kept (t' := s'.toks) kp, ⟨t', rfl⟩, qq⟩
def gSumV : D → Option D
  | .dic _ kvs => (intsOf (kvs.map (·.2))).map fun ns => .int ns.sum
  | _ => none
theorem vals_ints : ∀ {kvs : List (Key × D)} {ks : List (Key × V)} {ns : List Int}, RepK K Γ H kvs ks → kvs.map (·.2) = ns.map D.int → ks.map (·.2) = ns.map V.int
  | [], [], [], _, _ => rfl
  | (k, d) :: kvs, (k', v) :: ks, n :: ns, h, e => by
    obtain ⟨_, r, rk⟩ := h
    have e' : d :: kvs.map (·.2) = .int n :: ns.map D.int := e
    obtain ⟨e3, e4⟩ := List.cons.inj e'
    subst e3
    show v :: ks.map (·.2) = .int n :: ns.map V.int
    rw [vals_ints rk e4, r.1]
  | [], [], _ :: _, _, e => nomatch e
  | _ :: _, _, [], _, e => nomatch e
  | [], _ :: _, _, h, _ => h.elim
  | _ :: _, [], _, h, _ => h.elim
theorem j_sumV {apos cpos : Pos} (hm : X.mg "sum" = none) (ha : J X Γ W p fa a eva) (hc : X.calm = true := by rfl) (hg : Gl X "sum" := by rfl) (hbase : attributeBase a "values" X.env (eval a X.env) = eval a X.env := by rfl) (hline : (apos.endLine == cpos.line) = true := by rfl)
    (hs : starEach [.Call (.Attribute a "values" apos) [] [] cpos] X.env = (false, eval (.Call (.Attribute a "values" apos) [] [] cpos) X.env) :: starEach [] X.env := by rfl) : J X Γ W p true (.Call (.Name "sum" q) [.Call (.Attribute a "values" apos) [] [] cpos] [] pos) (eUn gSumV eva) := by
  obtain ⟨ta, pa, sa⟩ := ha.ex
  refine ⟨_, pe_sumV hc pa hg hm hbase hline hs, fun σ H env fp re Q h => ?_⟩
  refine sa σ H env fp re _ (hold_mono (hold_bind h) (fun da e1 h1 x H1 fp1 Fa oa => ?_) fun c e z => z)
  obtain ⟨d, hg, qq⟩ := hold_opt h1
  cases da with
  | dic m kvs =>
    obtain ⟨ns, h2, rfl⟩ := Option.map_eq_some_iff.mp (show (intsOf (kvs.map (·.2))).map (fun ns => D.int ns.sum) = some d from hg)
    have e := intsOf_map h2
    obtain ⟨z, ks, rfl, hz, rk⟩ := read_dic oa.rep
    exact ⟨z, ks, ns, rfl, hz, vals_ints rk e, qq _ H1 fp1 [] ⟨oa.re, ⟨rfl, rfl⟩, List.nodup_nil, oa.fm, (fun _ m => nomatch m), oa.pu, fun _ _ m => nomatch m⟩⟩
  | _ => cases hg
end
end Vs

namespace Vs
open PySem PySem.Spec PyProof.Rows L2
theorem tmul_same (l : Addr) (items : Array Value) (n : Nat) (dd : Option Addr) (sl : Array (Option Value)) (x : Int) (u : Tok) (e0 : (decide (x < -(2 ^ 63)) || decide (x ≥ 2 ^ 63)) = false) (e1 : (items.isEmpty || x == 1) = true) :
    Meets (Builtin.«tuple.__mul__» ⟨[.ref l, .int x u], []⟩) (fun _ R s => s.heap.get? l = some { cls := .type "tuple", dict := dd, data := .seq items n, slots := sl } ∧ R (.ok (.ret (Value.ref l))) s) :=
  .of_wp fun prog w A R s h => by
    obtain ⟨hp, g, d, tk, os⟩ := s
    obtain ⟨hl, h⟩ := h
    have f1 := AutoSeq1.idx_int
    wp_walk using wpAny_loadPart' hl
    repeat (first
      | (refine wpAny_ite_false (decide_eq_false (by rw [e0]; exact Bool.false_ne_true)) ?_; wp_walk using wpAny_loadPart' hl)
      | (refine wpAny_ite_true (decide_eq_true e1) ?_; wp_walk using wpAny_loadPart' hl))
    exact ⟨_, rfl, h⟩
theorem tmul_nil (l : Addr) (items : Array Value) (n : Nat) (dd : Option Addr) (sl : Array (Option Value)) (x : Int) (u : Tok) (e0 : (decide (x < -(2 ^ 63)) || decide (x ≥ 2 ^ 63)) = false) (e1 : (items.isEmpty || x == 1) = false) (e2 : (decide (x ≤ 0) || items.isEmpty) = true) :
    Meets (Builtin.«tuple.__mul__» ⟨[.ref l, .int x u], []⟩) (fun _ R s => s.heap.get? l = some { cls := .type "tuple", dict := dd, data := .seq items n, slots := sl } ∧ R (.ok (.ret (Value.ref s.heap.objs.size))) { s with heap := s.heap.push { cls := Value.type "tuple", data := Data.seq #[] }, toks := s.toks }) :=
  .of_wp fun prog w A R s h => by
    obtain ⟨hp, g, d, tk, os⟩ := s
    obtain ⟨hl, h⟩ := h
    have f1 := AutoSeq1.idx_int
    wp_walk using wpAny_loadPart' hl
    repeat (first
      | (refine wpAny_ite_false (decide_eq_false (by rw [e0]; exact Bool.false_ne_true)) ?_; wp_walk using wpAny_loadPart' hl)
      | (refine wpAny_ite_false (decide_eq_false (by rw [e1]; exact Bool.false_ne_true)) ?_; wp_walk using wpAny_loadPart' hl)
      | (refine wpAny_ite_true (decide_eq_true e2) ?_; wp_walk using wpAny_loadPart' hl))
    exact ⟨_, rfl, h⟩
section
variable {X : Cx} {Γ : Gm} {K : PySem.W.Frag}
/-- a tuple once, or one of nothing: itself -/
def rRep1 (K : PySem.W.Frag) : R2 := fun x y H Q => ∃ l k xs, x = .ref l ∧ y = .int k ∧ SqT K H l xs ∧ (xs = [] ∨ k = 1) ∧ 0 ≤ k ∧ k ≤ 1000 ∧ Q (.ref l) H
theorem op_rep1 : OpR X (binaryOp .Mult) (rRep1 X.K) := by
  intro pins s σ H x y v u Q I rx ry h
  obtain ⟨l, k, xs, rfl, rfl, hT, hne, h1, h2, q⟩ := h
  cases rx
  obtain ⟨t, rfl⟩ := ry
  obtain ⟨its, r, ⟨⟨cls, dd, data, sl⟩, ho, hc, n, hd⟩, hs⟩ := I.tuple hT
  simp only at hc hd
  subst hc hd
  have hle : its.length = xs.length := r.length.symm
  have b0 : (decide (k < -(2 ^ 63)) || decide (k ≥ 2 ^ 63)) = false := by
    rw [decide_eq_false (by omega), decide_eq_false (by omega)]; rfl
  have b1 : (its.toArray.isEmpty || k == 1) = true := by
    rcases hne with e | e
    · subst e
      have : its = [] := List.eq_nil_of_length_eq_zero hle
      subst this; rfl
    · subst e; simp
  refine wpAny_binaryOp_repeat_ref (T := "tuple") (U := "int") (by decide) ⟨_, ho, rfl⟩ (fun s' => typeIs_int s' k t) noFill_tuple_mul F.fills_int_mul F.slot_int_rmul repeat_tuple F.slot_int_index.lookup ?_
  refine call_meets F.slot_int_rmul (typeIs_int s k t) F.entry_int_rmul (F.args_int_rmul_2 _ _) (int_rmul_tuple k t l its.toArray n dd sl) ⟨ho, rfl, ⟨_, ho, rfl⟩, ?_⟩
  refine call_meets F.slot_tuple_mul ⟨_, ho, rfl⟩ F.entry_tuple_mul (F.args_tuple_mul_2 _ _) (tmul_same l its.toArray n dd sl k t b0 b1) ⟨ho, ?_⟩
  exact ⟨.ref l, H, I, rfl, q⟩
/-- a tuple no times -/
def rRep0 (K : PySem.W.Frag) : R2 := fun x y H Q => ∃ l xs, x = .ref l ∧ y = .int 0 ∧ SqT K H l xs ∧ xs ≠ [] ∧ ∀ p, H p = none → Q (.ref p) (upd H p (.tup []))
theorem op_rep0 : OpR X (binaryOp .Mult) (rRep0 X.K) := by
  intro pins s σ H x y v u Q I rx ry h
  obtain ⟨l, xs, rfl, rfl, hT, hne, q⟩ := h
  cases rx
  obtain ⟨t, rfl⟩ := ry
  obtain ⟨its, r, ⟨⟨cls, dd, data, sl⟩, ho, hc, n, hd⟩, hs⟩ := I.tuple hT
  simp only at hc hd
  subst hc hd
  have hle : its.length = xs.length := r.length.symm
  have hi : its.toArray.isEmpty = false := by
    cases its with
    | nil => exact absurd (List.eq_nil_of_length_eq_zero hle.symm) hne
    | cons a b => rfl
  have b0 : (decide ((0 : Int) < -(2 ^ 63)) || decide ((0 : Int) ≥ 2 ^ 63)) = false := by decide
  have b1 : (its.toArray.isEmpty || (0 : Int) == 1) = false := by rw [hi]; rfl
  have b2 : (decide ((0 : Int) ≤ 0) || its.toArray.isEmpty) = true := by rw [decide_eq_true (by omega)]; rfl
  refine wpAny_binaryOp_repeat_ref (T := "tuple") (U := "int") (by decide) ⟨_, ho, rfl⟩ (fun s' => typeIs_int s' 0 t) noFill_tuple_mul F.fills_int_mul F.slot_int_rmul repeat_tuple F.slot_int_index.lookup ?_
  refine call_meets F.slot_int_rmul (typeIs_int s 0 t) F.entry_int_rmul (F.args_int_rmul_2 _ _) (int_rmul_tuple 0 t l its.toArray n dd sl) ⟨ho, rfl, ⟨_, ho, rfl⟩, ?_⟩
  refine call_meets F.slot_tuple_mul ⟨_, ho, rfl⟩ F.entry_tuple_mul (F.args_tuple_mul_2 _ _) (tmul_nil l its.toArray n dd sl 0 t b0 b1 b2) ⟨ho, ?_⟩
  exact ⟨.ref s.heap.objs.size, _, I.laid (t' := s.toks) (o := .tup []) (fun b ob z => Heap.get?_push_of_some _ z) (Nat.le_refl _) ⟨Nat.zero_le _, [], .nil, IsTup.new _ _⟩, rfl, q _ (I.hok.fresh (Nat.le_refl _))⟩
/-- a tuple so often -/
def gMulU (x y : D) : Option D := match x, y with
  | .tup xs, .int k => if 0 ≤ k ∧ k ≤ 1000 ∧ xs.length ≤ 1000 ∧ isImms xs = true then some (.tup (List.replicate k.toNat xs).flatten) else none
  | _, _ => none
abbrev rMulU (K : PySem.W.Frag) : R2 := fun x y H Q => rRep1 K x y H Q ∨ (rRep0 K x y H Q ∨ rRepT K x y H Q)
theorem or_mulU : OpR X (binaryOp .Mult) (rMulU X.K) := OpR.or op_rep1 (OpR.or op_rep0 op_repT)
theorem os_mulU : OpSat K Γ (rMulU K) gMulU := fun H x y dx dy Fx Fy d Q r1 r2 hg q => by
  cases dx with
  | tup xs =>
    cases dy with
    | int k =>
      have hg' : (if 0 ≤ k ∧ k ≤ 1000 ∧ xs.length ≤ 1000 ∧ isImms xs = true then some (D.tup (List.replicate k.toNat xs).flatten) else none) = some d := hg
      split at hg'
      · rename_i h
        cases hg'
        obtain ⟨a, vs, rfl, s, rs, _⟩ := r1
        by_cases he : xs = [] ∨ k = 1
        · have e : (List.replicate k.toNat xs).flatten = xs := by
            rcases he with e | e
            · subst e; simp
            · subst e; simp
          rw [e] at q
          refine .inl ⟨a, k, vs, rfl, r2.1, s, ?_, h.1, h.2.1, q _ H [] ⟨a, vs, rfl, s, rs, rfl⟩ List.nodup_nil (Same.refl H) fun _ m => nomatch m⟩
          rcases he with e | e
          · left
            have := rs.len
            rw [e] at this
            exact List.eq_nil_of_length_eq_zero this.symm
          · exact .inr e
        · have hne : vs ≠ [] := fun e => by
            have := rs.len
            rw [e] at this
            exact he (.inl (List.eq_nil_of_length_eq_zero this))
          by_cases h0 : k = 0
          · subst h0
            exact .inr (.inl ⟨a, vs, rfl, r2.1, s, hne, new_tup (ds := []) rfl q⟩)
          · refine .inr (.inr ⟨a, k, vs, rfl, r2.1, s, hne, ?_, h.2.1, by rw [← rs.len]; exact h.2.2.1, new_tup (rs.rep0 k.toNat) q⟩)
            have : k ≠ 1 := fun e => he (.inr e)
            omega
      · cases hg'
    | _ => cases hg
  | _ => cases hg
end
end Vs

namespace Vs
open PySem PySem.Spec PyProof.Rows L2 PySem.W
section
variable {X : Cx} {Γ : Gm} {W : Wx} {p f fa : Bool} {a : Expr} {eva : SD → R D} {q pos : Pos} {K : PySem.W.Frag} {H : Hp}
theorem all_reads {pins : List (Addr × Obj)} {s : Shared} {σ : L2.St} (I : L2.Inv X pins σ H s) : ∀ {bs : List (V × PyData)} {its : List Value}, Vals (bs.map (·.1)) its → (∀ b ∈ bs, Dp X.K H b.1 b.2) → ∃ as, ReadsAll s.heap its (bs.map (·.2)) as
  | [], _, r, _ => by cases r; exact ⟨_, .nil⟩
  | b :: bs, _, r, h => by
    cases r with
    | cons r1 r2 =>
      obtain ⟨as, h1⟩ := Dp.reads I b.2 b.1 _ (h b List.mem_cons_self) r1
      obtain ⟨as', h2⟩ := all_reads I r2 fun c m => h c (List.mem_cons_of_mem _ m)
      exact ⟨_, .cons h1 h2⟩
theorem vals_ix : ∀ {vs : List V} {us : List Value} {i : Nat} {u : Value}, Vals vs us → us[i]? = some u → ∃ v, vs[i]? = some v ∧ RelV v u
  | _, _, _, _, .nil, e => by simp at e
  | _, _, 0, _, .cons r _, e => by cases e; exact ⟨_, rfl, r⟩
  | _, _, i + 1, _, .cons _ t, e => by
    obtain ⟨v, h1, h2⟩ := vals_ix t (by simpa using e)
    exact ⟨v, by simpa using h1, h2⟩
/-- the least of a list of data that are alike, the first of such -/
def rMinD (K : PySem.W.Frag) : List V → Hp → VK → Prop := fun vs H Q => ∃ (l : Addr) (b : V × PyData) (bs : List (V × PyData)), vs = [.ref l] ∧ SqL K H l ((b :: bs).map (·.1)) ∧ (∀ c ∈ b :: bs, Dp K H c.1 c.2 ∧ c.2.depth ≤ 8) ∧ AlikeAll ((b :: bs).map (·.2)) ∧
  ∀ (i : Nat) (c : V × PyData), (b :: bs)[i]? = some c → c.2 = minD b.2 (bs.map (·.2)) → Q c.1 H
theorem depth_le : ∀ {xs : List PyData} {n : Nat}, (∀ x ∈ xs, x.depth ≤ n) → PyData.depthAll xs ≤ n
  | [], _, _ => Nat.zero_le _
  | x :: xs, n, h => by
    show max x.depth (PyData.depthAll xs) ≤ n
    have h1 := h x List.mem_cons_self
    have h2 := depth_le (xs := xs) (n := n) fun y m => h y (List.mem_cons_of_mem _ m)
    omega
theorem cr_minD (hc : X.calm = true) (hu : X.A.units + 64 < cLine) : CallR X (.builtin "min") (rMinD X.K) := by
  intro pins s σ H vs us Q I r h
  obtain ⟨l, b, bs, rfl, hs, hd, hal, qq⟩ := h
  rw [Vals.ref1 r]
  obtain ⟨its, rv, pl, hz⟩ := I.list hs
  obtain ⟨as, hra⟩ := all_reads I rv fun c m => (hd c m).1
  have hlen : its.length = bs.length + 1 := by rw [← rv.length, List.length_map, List.length_cons]
  have hdep : PyData.depthAll ((b :: bs).map (·.2)) ≤ 8 := depth_le fun x hx => by
    obtain ⟨c, m, rfl⟩ := List.mem_map.mp hx
    exact (hd c m).2
  refine call_min_walkH (iter_listW (A := X.A.in1) (I.ok.hd hc) pl.isList fun s₂ e Wk st hfp hw hk => ?_)
  refine ⟨_, _, _, _, _, _, _, s.heap, _, rfl, Wk, st, hfp, by simp only [List.size_toArray]; omega, hw, hk, cmpIn_lt (A := X.A.in1) (xs := (b :: bs).map (·.2)) hra hal (by show X.A.units + 1 + _ < _; omega), fun v s' hP m => ?_⟩
  obtain ⟨h', tk, rfl, hk'⟩ := moved_old e rfl m
  have e2 := (argBest_fold dataLt PyData.none b.2 (bs.map (·.2)) (bs.map (·.2)).length (Nat.le_refl _)).2
  rw [List.take_length] at e2
  rw [show its.toArray.size - 1 = (bs.map (·.2)).length by rw [List.size_toArray, List.length_map]; omega] at hP
  obtain ⟨i, hi⟩ : ∃ i, i = argBest (fun i j => dataLt (((b :: bs).map (·.2)).getD i .none) (((b :: bs).map (·.2)).getD j .none)) (bs.map (·.2)).length := ⟨_, rfl⟩
  rw [← hi] at hP
  have hP' : its[i]? = some v := by simpa using hP
  obtain ⟨w, hw1, hw2⟩ := vals_ix rv hP'
  rw [List.getElem?_map] at hw1
  obtain ⟨c, hc1, rfl⟩ := Option.map_eq_some_iff.mp hw1
  refine ⟨c.1, H, I.kept (t' := tk) hk', hw2, qq i c hc1 ?_⟩
  have e3 : ((b :: bs).map (·.2)).getD i .none = c.2 := by rw [List.getD_eq_getElem?_getD, List.getElem?_map, hc1]; rfl
  rw [← e3, hi]
  exact e2
/-! ### told by data -/
mutual
def plD : D → Bool
  | .bl _ => true | .int _ => true | .str _ => true
  | .tup xs => plDs xs
  | _ => false
def plDs : List D → Bool
  | [] => true
  | d :: ds => plD d && plDs ds
end
mutual
theorem plD_inj : ∀ {x y : D}, plD x = true → plD y = true → toPy x = toPy y → x = y
  | .bl a, y, _, hy, e => by
    cases y with
    | bl b => cases e; rfl
    | int b => cases e
    | str b => cases e
    | tup b => cases e
    | _ => cases hy
  | .int a, y, _, hy, e => by
    cases y with
    | bl b => cases e
    | int b => cases e; rfl
    | str b => cases e
    | tup b => cases e
    | _ => cases hy
  | .str a, y, _, hy, e => by
    cases y with
    | bl b => cases e
    | int b => cases e
    | str b => cases e; rfl
    | tup b => cases e
    | _ => cases hy
  | .tup a, y, hx, hy, e => by
    cases y with
    | bl b => cases e
    | int b => cases e
    | str b => cases e
    | tup b =>
      have e' : PyData.tuple (toPys a) = .tuple (toPys b) := e
      have e2 : toPys a = toPys b := by injection e'
      rw [plDs_inj (show plDs a = true from hx) (show plDs b = true from hy) e2]
    | _ => cases hy
  | .non, _, hx, _, _ => nomatch hx
  | .lst _ _, _, hx, _, _ => nomatch hx
  | .tx _, _, hx, _, _ => nomatch hx
  | .dic _ _, _, hx, _, _ => nomatch hx
  | .obj _ _ _, _, hx, _, _ => nomatch hx
  | .exn _, _, hx, _, _ => nomatch hx
theorem plDs_inj : ∀ {x y : List D}, plDs x = true → plDs y = true → toPys x = toPys y → x = y
  | [], [], _, _, _ => rfl
  | [], _ :: _, _, _, e => nomatch e
  | _ :: _, [], _, _, e => nomatch e
  | a :: as, b :: bs, hx, hy, e => by
    have hx' : (plD a && plDs as) = true := hx
    have hy' : (plD b && plDs bs) = true := hy
    rw [Bool.and_eq_true] at hx' hy'
    have e' : toPy a :: toPys as = toPy b :: toPys bs := e
    obtain ⟨e1, e2⟩ := List.cons.inj e'
    rw [plD_inj hx'.1 hy'.1 e1, plDs_inj hx'.2 hy'.2 e2]
end
theorem plDs_mem : ∀ {ds : List D}, plDs ds = true → ∀ d ∈ ds, plD d = true
  | d :: ds, h, e, m => by
    have h' : (plD d && plDs ds) = true := h
    rw [Bool.and_eq_true] at h'
    rcases List.mem_cons.mp m with rfl | m
    · exact h'.1
    · exact plDs_mem h'.2 e m
mutual
theorem plD_imm : ∀ {x : D}, plD x = true → isImm x = true
  | .bl _, _ => rfl
  | .int _, _ => rfl
  | .str _, _ => rfl
  | .tup xs, h => plDs_imm (show plDs xs = true from h)
  | .non, hx => nomatch hx
  | .lst _ _, hx => nomatch hx
  | .tx _, hx => nomatch hx
  | .dic _ _, hx => nomatch hx
  | .obj _ _ _, hx => nomatch hx
  | .exn _, hx => nomatch hx
theorem plDs_imm : ∀ {x : List D}, plDs x = true → isImms x = true
  | [], _ => rfl
  | d :: ds, h => by
    have h' : (plD d && plDs ds) = true := h
    rw [Bool.and_eq_true] at h'
    show (isImm d && isImms ds) = true
    rw [plD_imm h'.1, plDs_imm h'.2]; rfl
end
theorem toPys_map : ∀ ds : List D, toPys ds = ds.map toPy
  | [] => rfl
  | d :: ds => by show toPy d :: toPys ds = _; rw [toPys_map ds]; rfl
def mnD (x : D) (xs : List D) : D := xs.foldl (fun a y => if dataLt (toPy y) (toPy a) then y else a) x
theorem mnD_py : ∀ (xs : List D) (x : D), toPy (mnD x xs) = minD (toPy x) (xs.map toPy)
  | [], x => rfl
  | y :: xs, x => by
    show toPy (mnD (if dataLt (toPy y) (toPy x) then y else x) xs) = minD (if dataLt (toPy y) (toPy x) then toPy y else toPy x) (xs.map toPy)
    rw [mnD_py xs]
    by_cases h : dataLt (toPy y) (toPy x) = true
    · rw [if_pos h, if_pos h]
    · rw [if_neg h, if_neg h]
theorem mnD_mem : ∀ (xs : List D) (x : D), mnD x xs ∈ x :: xs
  | [], x => List.mem_singleton.mpr rfl
  | y :: xs, x => by
    have ih := mnD_mem xs (if dataLt (toPy y) (toPy x) then y else x)
    show mnD (if dataLt (toPy y) (toPy x) then y else x) xs ∈ _
    rcases List.mem_cons.mp ih with e | m
    · rw [e]
      by_cases h : dataLt (toPy y) (toPy x) = true
      · rw [if_pos h]; simp
      · rw [if_neg h]; simp
    · exact List.mem_cons_of_mem _ (List.mem_cons_of_mem _ m)
def minOk (ds : List D) : Bool := plDs ds && ds.all (dOk 8) && ds.all fun x => ds.all fun y => alike (toPy x) (toPy y)
def gMinD : D → Option D
  | .lst _ (x :: xs) => if minOk (x :: xs) = true then some (mnD x xs) else none
  | _ => none
theorem cs_minD : CallSat K Γ (rMinD K) (g1 gMinD) := cs_1 fun H v d F d' Q r hg qq => by
  cases d with
  | lst m ds =>
    cases ds with
    | nil => cases hg
    | cons x xs =>
      have hg' : (if minOk (x :: xs) = true then some (mnD x xs) else none) = some d' := hg
      split at hg'
      · rename_i hok
        cases hg'
        unfold minOk at hok
        rw [Bool.and_eq_true, Bool.and_eq_true] at hok
        obtain ⟨⟨h1, h2⟩, h3⟩ := hok
        rw [List.all_eq_true] at h2 h3
        obtain ⟨z, vs, F', rfl, s, rs, _⟩ := read_any r
        have e := rs.immF (plDs_imm h1)
        subst e
        obtain ⟨bs, e1, e2, e3⟩ := reps_zip rs
        cases bs with
        | nil => cases e2
        | cons b bs =>
          have e2' : b.2 :: bs.map (·.2) = x :: xs := e2
          obtain ⟨hb, hbs⟩ := List.cons.inj e2'
          have hmem : ∀ c ∈ b :: bs, c.2 ∈ x :: xs := fun c hc => by rw [← e2]; exact List.mem_map_of_mem hc
          refine ⟨z, (b.1, toPy b.2), bs.map (fun c => (c.1, toPy c.2)), rfl, ?_, fun c hc => ?_, ⟨fun u hu w hw => ?_, fun u hu => ?_⟩, fun i c hc hmin => ?_⟩
          · have : ((b.1, toPy b.2) :: bs.map fun c => (c.1, toPy c.2)).map (·.1) = vs := by
              rw [← e1]
              simp
            rw [this]; exact s
          · have hc' : c ∈ (b :: bs).map fun c => (c.1, toPy c.2) := by rw [List.map_cons]; exact hc
            obtain ⟨c0, hc0, rfl⟩ := List.mem_map.mp hc'
            have hcd : dOk 8 c0.2 = true := h2 _ (hmem c0 hc0)
            exact ⟨(e3 c0 hc0).dp hcd, (dOk_shape hcd).2⟩
          · have hu' : u ∈ (b :: bs).map fun c => toPy c.2 := by simpa using hu
            have hw' : w ∈ (b :: bs).map fun c => toPy c.2 := by simpa using hw
            obtain ⟨c1, hc1, rfl⟩ := List.mem_map.mp hu'
            obtain ⟨c2, hc2, rfl⟩ := List.mem_map.mp hw'
            exact List.all_eq_true.mp (h3 _ (hmem c1 hc1)) _ (hmem c2 hc2)
          · have hu' : u ∈ (b :: bs).map fun c => toPy c.2 := by simpa using hu
            obtain ⟨c1, hc1, rfl⟩ := List.mem_map.mp hu'
            have hp := plDs_mem h1 _ (hmem c1 hc1)
            intro e
            cases hd : c1.2 with
            | non => rw [hd] at hp; cases hp
            | bl _ => rw [hd] at e; cases e
            | int _ => rw [hd] at e; cases e
            | str _ => rw [hd] at e; cases e
            | tup _ => rw [hd] at e; cases e
            | _ => rw [hd] at hp; cases hp
          · have hc' : ((b :: bs).map fun c => (c.1, toPy c.2))[i]? = some c := by rw [List.map_cons]; exact hc
            rw [List.getElem?_map] at hc'
            obtain ⟨c0, hc0, rfl⟩ := Option.map_eq_some_iff.mp hc'
            have hm0 := hmem c0 (List.mem_of_getElem? hc0)
            have hpy : toPy c0.2 = toPy (mnD x xs) := by
              rw [mnD_py]
              have e5 : (bs.map fun c => (c.1, toPy c.2)).map (·.2) = xs.map toPy := by
                rw [← hbs, List.map_map, List.map_map]; rfl
              rw [← hb, ← e5]
              exact hmin
            have heq : c0.2 = mnD x xs := plD_inj (plDs_mem h1 _ hm0) (plDs_mem h1 _ (mnD_mem xs x)) hpy
            have hr := e3 c0 (List.mem_of_getElem? hc0)
            rw [heq] at hr
            exact scal_q qq hr
      · cases hg'
  | _ => cases hg
end
end Vs

namespace Vs
open PySem PySem.Spec PyProof.Rows L2 PySem.W
section
variable {X : Cx} {Γ : Gm} {W : Wx} {p f fa : Bool} {a : Expr} {eva : SD → R D} {q pos : Pos} {K : PySem.W.Frag} {H : Hp}
/-! ### {k: v} of two numbers -/
def eDOne (i j : Int) : SD → R D := fun env => .ok (.dic .own [(.inl i, .int j)]) env
theorem upd_upd' {H : Hp} {z : Addr} {x y : HO} : upd (upd H z x) z y = upd H z y := by
  funext a
  unfold upd
  split <;> rfl
theorem j_disp1 {i j : Int} {k1 k2 : Nat} {p1 p2 : Pos} : J X Γ W true true (.Dict [some (.Constant (.int i) k1 p1)] [.Constant (.int j) k2 p2] pos) (eDOne i j) := by
  refine ⟨_, pe_disp (pps_cons pe_int pe_int pps_nil) rfl rfl (by simp) (by show 1 ≤ 15; decide), fun σ H env fp re Q q z nz => ?_⟩
  refine ⟨upd_same, [(.inl i, .int j)], rfl, by show 1 ≤ 15; decide, ?_⟩
  rw [upd_upd']
  refine q (.ref z) _ fp [z] ⟨re.same (same_new nz), ⟨z, [(.inl i, .int j)], rfl, upd_same, ?_, rfl⟩, by simp, Fm.same (same_new nz), fun y m => ?_, fun _ => ⟨rfl, rfl, same_new nz⟩, fun _ y m i => ?_⟩
  · exact ⟨rfl, ⟨rfl, rfl⟩, trivial⟩
  · rw [List.mem_singleton.mp m]; exact .inr nz
  · rw [List.mem_singleton.mp m]; exact re.fresh nz i
/-! ### sorted(ns, reverse=True) -/
def dsc (ns : List Int) : List Int := ns.mergeSort fun a b => decide (b ≤ a)
theorem dsc_perm (ns : List Int) : (dsc ns).Perm ns := List.mergeSort_perm _ _
theorem dsc_srt (ns : List Int) : (dsc ns).Pairwise (· ≥ ·) := by
  refine (List.pairwise_mergeSort (le := fun a b : Int => decide (b ≤ a)) (fun a b c h1 h2 => ?_) (fun a b => ?_) ns).imp fun h => of_decide_eq_true h
  · have := of_decide_eq_true h1; have := of_decide_eq_true h2; exact decide_eq_true (by omega)
  · by_cases h : b ≤ a
    · simp [h]
    · have : a ≤ b := by omega
      simp [this]
theorem dsc_one {ns ns' : List Int} (hp : ns'.Perm ns) (hs : ns'.Pairwise (· ≥ ·)) : ns' = dsc ns :=
  List.Perm.eq_of_pairwise (fun a b _ _ h1 h2 => Int.le_antisymm h2 h1) hs (dsc_srt ns) (hp.trans (dsc_perm ns).symm)
def gSortR : D → Option D
  | .lst _ xs => (intsOf xs).map fun ns => .lst .own ((dsc ns).map .int)
  | _ => none
theorem cs_sortR : CallSat K Γ (fun vs H Q => rSortedKw K true [.bl true] vs [.bl true] H Q) (g1 gSortR) := cs_1 fun H x d F d' Q r hg qq => by
  cases d with
  | lst m xs =>
    obtain ⟨ns, h1, rfl⟩ := Option.map_eq_some_iff.mp (show (intsOf xs).map (fun ns => D.lst .own ((dsc ns).map .int)) = some d' from hg)
    have e := intsOf_map h1
    subst e
    obtain ⟨z, vs, F', rfl, s, rs, _⟩ := read_any r
    obtain ⟨e1, _⟩ := rs.ints
    subst e1
    refine ⟨z, ns, rfl, rfl, s, fun ns' p hp ho np => ?_⟩
    have ho' : ns'.Pairwise (· ≥ ·) := ho
    rw [dsc_one hp ho']
    refine qq _ _ [p] ⟨p, (dsc ns).map V.int, [], rfl, upd_same, ?_, rfl⟩ (by simp) (same_new np) fun y m => ?_
    · exact Reps.ofInts
    · rw [List.mem_singleton.mp m]; exact np
  | _ => cases hg
theorem j_sortR {k1 : Nat} {p1 p2 : Pos} (hm : X.mg "sorted" = none) (ha : J X Γ W p fa a eva)
    (hg : Gl X "sorted" := by rfl) (he : starEach [a] X.env = (false, eval a X.env) :: starEach [] X.env := by rfl)
    (he' : backTo pos (starEach [a] X.env) = (false, eval a X.env) :: backTo pos (starEach [] X.env) := by rfl) (hpl : (backTo pos (starEach [a] X.env)).any (·.1) = false := by rfl)
    (hall : (backToKw pos (keywordEach [⟨some "reverse", .Constant (.bool true) k1 p1, p2⟩] X.env)).all (·.1.isSome) = true := by rfl) (hnone : (backToKw pos (keywordEach [⟨some "reverse", .Constant (.bool true) k1 p1, p2⟩] X.env)).any (·.1.isNone) = false := by rfl) (hks : (backToKw pos (keywordEach [⟨some "reverse", .Constant (.bool true) k1 p1, p2⟩] X.env)).filterMap (·.1) = [Str.ofString "reverse"] := by rfl) :
    J X Γ W p true (.Call (.Name "sorted" q) [a] [⟨some "reverse", .Constant (.bool true) k1 p1, p2⟩] pos) (eUn gSortR eva) := by
  obtain ⟨t, pa, sa⟩ := (ja1 ha he).ex
  have h : J X Γ W p true (.Call (.Name "sorted" q) [a] [⟨some "reverse", .Constant (.bool true) k1 p1, p2⟩] pos) (eArgs (g1 gSortR) (aCons eva aNil)) :=
    ⟨_, pe_callBK (cr_sortedRev (b := true)) hg hm (by decide +kernel) pa (pk_cons pe_bl pk_nil) (by decide) (by decide) he' hpl hall hnone hks, sat_args cs_sortR sa⟩
  rw [eArgs1] at h
  exact h
end
end Vs

namespace Vs
open PySem PySem.Spec PyProof.Rows L2 PySem.W
section
variable {X : Cx} {Γ : Gm} {W : Wx} {K : PySem.W.Frag} {H : Hp}
/-! ### xs.index(w) of texts -/
def gIndex (x y : D) : Option D := match x, y with
  | .lst _ xs, .str w => (strsOf xs).bind fun ws => if ws.findIdx (fun a => a == w) < ws.length then some (.int (ws.findIdx (fun a => a == w) : Nat)) else none
  | _, _ => none
theorem rm_index : RmSat K Γ (rIndex K) (rg1 gIndex) := rm_1 fun H x y d e F F' d' Q r1 r2 hg q => by
  unfold gIndex at hg
  split at hg
  · rename_i m xs w
    obtain ⟨ws, h1, h2⟩ := Option.bind_eq_some_iff.mp hg
    have e := strsOf_map h1
    subst e
    split at h2
    · rename_i hj
      cases h2
      obtain ⟨z, vs, F', rfl, s, rs, _⟩ := read_any r1
      obtain ⟨e1, _⟩ := rs.strs
      subst e1
      refine ⟨z, ws.map V.str, .str w, ws.findIdx (fun a => a == w), .str ws[ws.findIdx (fun a => a == w)], rfl, by rw [r2.1], s, rfl, ?_, ?_, ?_, fun m z' hm hz' => ?_, scal_q q ⟨rfl, rfl⟩⟩
      · rw [List.all_eq_true]
        intro v hv
        obtain ⟨a, _, rfl⟩ := List.mem_map.mp hv
        rfl
      · rw [List.getElem?_map, List.getElem?_eq_getElem hj]; rfl
      · show (ws[ws.findIdx (fun a => a == w)] == w) = true
        exact List.findIdx_getElem (w := hj)
      · rw [List.getElem?_map] at hz'
        obtain ⟨a, ha, rfl⟩ := Option.map_eq_some_iff.mp hz'
        obtain ⟨hl, he⟩ := List.getElem?_eq_some_iff.mp ha
        have := List.not_of_lt_findIdx hm
        show (a == w) = false
        rw [← he]
        simpa using this
    · cases h2
  · cases hg
end
end Vs

namespace Vs
open PySem PySem.Spec PyProof.Rows L2
/-! ### a list that is walked and stays its holder's -/
def calm : D → Bool
  | .lst .bor xs => xs.all scal
  | d => scal d
/-- all other slots hold scalars, or lent lists of such -/
def cmBut (s : Nat) (env : SD) : Bool := (List.range env.length).all fun i => decide (i = s) || (match env[i]? with
  | some (some d) => calm d
  | _ => true)
section
variable {X : Cx} {Γ Γ' : Gm} {W : Wx} {p f fa : Bool} {a : Expr} {eva : SD → R D} {q pos : Pos} {K : PySem.W.Frag} {H H' : Hp}
theorem repsc {K : PySem.W.Frag} {Γ Γ' : Gm} {H H' : Hp} : ∀ {xs : List D} {vs : List V} {F : List Addr}, Reps K Γ H xs vs F → xs.all scal = true → F = [] ∧ Reps K Γ' H' xs vs []
  | [], [], F, h, _ => ⟨h, rfl⟩
  | d :: ds, v :: vs, F, h, s => by
    have s' : (scal d && ds.all scal) = true := s
    rw [Bool.and_eq_true] at s'
    obtain ⟨F1, F2, e, r, rs⟩ := h
    obtain ⟨e1, r1⟩ := Rep.sc (Γ' := Γ') (H' := H') r s'.1
    obtain ⟨e2, r2⟩ := repsc (Γ' := Γ') (H' := H') rs s'.2
    exact ⟨by rw [e, e1, e2]; rfl, Reps.cons0 r1 r2⟩
  | [], _ :: _, _, h, _ => h.elim
  | _ :: _, [], _, h, _ => h.elim
theorem Rep.cm {d : D} {v : V} {F : List Addr} (h : Rep K Γ H d v F) (s : calm d = true) (t : ∀ a, Γ.G a → Γ'.G a ∧ ∀ o, H a = some o → H' a = some o) : F = [] ∧ Rep K Γ' H' d v [] := by
  unfold calm at s
  split at s
  · obtain ⟨a, vs, e1, g, e2, rs, e3⟩ := h
    obtain ⟨g1, g2⟩ := t a g
    exact ⟨e3, a, vs, e1, g1, g2 _ e2, (repsc rs s).2, rfl⟩
  · exact h.sc s
theorem cmBut_at {s i : Nat} {env : SD} {d : D} (h : cmBut s env = true) (hi : i ≠ s) (e : env[i]? = some (some d)) : calm d = true := by
  have hl : i < env.length := (List.getElem?_eq_some_iff.mp e).1
  have := List.all_eq_true.mp h i (List.mem_range.mpr hl)
  rw [e] at this
  simpa [hi] using this
def sLockL (s : Nat) (ev : SD → R Fl) : SD → R Fl := fun env => match env[s]? with
  | some (some (.lst .own xs)) => if xs.all scal = true ∧ cmBut s env = true then (match ev (env.set s (some (.lst .imm xs))) with
    | .ok .nx e => if cmBut s e = true then .ok .nx (e.set s (some (.lst .own xs))) else .bad
    | _ => .bad) else .bad
  | _ => .bad
theorem js_lockL (s : Nat) {st : Stmt} {ss : SD → R Fl} (h : ∀ (H0 : Hp) (F0 : Addr → Prop) (σ0 : L2.St), JS X ⟨H0, F0, s :: Γ.pins, σ0⟩ W st ss) : JS X Γ W st (sLockL s ss) := by
  have PT : PS X st (fun Z σ H => ∃ (H0 : Hp) (F0 : Addr → Prop) (σ0 : L2.St) (t : TS), PS X st t ∧ SatS X.K ⟨H0, F0, s :: Γ.pins, σ0⟩ W t ss ∧ t Z σ H) :=
    ⟨fun pins sh σ H D I hh => by
      obtain ⟨H0, F0, σ0, t, ps, _, ht⟩ := hh
      exact ps.run pins sh σ H D I ht⟩
  refine ⟨_, ps_lock PT, fun σ H env fp re Z q => ?_⟩
  unfold sLockL at q
  split at q
  · rename_i xs he
    by_cases hc : xs.all scal = true ∧ cmBut s env = true
    · rw [if_pos hc] at q
      obtain ⟨hsk, hsb⟩ := hc
      obtain ⟨v, hv, hrep⟩ := re.slot s _ he
      have il : s < env.length := (List.getElem?_eq_some_iff.mp he).1
      obtain ⟨z, vs, F', rfl, hz, rk, hF0⟩ := hrep
      have hF' : F' = [] := (repsc (Γ' := Γ) (H' := H) rk hsk).1
      subst hF'
      have hF : fp s = [z] := hF0
      have nGz : ¬ Γ.G z := re.ng s z (by rw [hF]; exact List.mem_singleton.mpr rfl)
      have hfp : ∀ i, i ≠ s → fp i = [] := fun i hi => by
        by_cases hd : ∃ d, env[i]? = some (some d)
        · obtain ⟨d, ed⟩ := hd
          obtain ⟨w, _, rw'⟩ := re.slot i d ed
          exact (rw'.cm (Γ' := Γ) (H' := H) (cmBut_at hsb hi ed) fun a g => ⟨g, fun _ h => h⟩).1
        · exact re.void i fun d e => hd ⟨d, e⟩
      refine ⟨z, _, hz, trivial, fun od => ?_⟩
      refine ⟨Γ.H0, (fun x => Γ.F0 x ∨ x = z), σ, ?_⟩
      obtain ⟨t, ps, sat⟩ := (h Γ.H0 (fun x => Γ.F0 x ∨ x = z) σ).ex
      refine ⟨t, ps, sat, ?_⟩
      have nz : ∀ i, z ∉ upF fp s [] i := fun i mz => by
        rcases upF_mem mz with ⟨_, mz⟩ | ⟨hi, mz⟩
        · cases mz
        · rw [hfp i hi] at mz; cases mz
      have all0 : ∀ i, upF fp s [] i = [] := fun i => by
        by_cases hi : i = s
        · subst hi; exact upF_same _ _ _
        · rw [upF_ne hi]; exact hfp i hi
      have into : ∀ a, Γ.G a → (Gm.mk Γ.H0 (fun x => Γ.F0 x ∨ x = z) (s :: Γ.pins) σ).G a ∧ ∀ o, H a = some o → upd H z (.frz od (.lst vs)) a = some o := fun a g => by
        have ne : a ≠ z := fun e => nGz (e ▸ g)
        exact ⟨⟨g.1, fun k => k.elim g.2 ne⟩, fun o e => by rw [upd_ne ne]; exact e⟩
      have re1 : RE X.K ⟨Γ.H0, (fun x => Γ.F0 x ∨ x = z), s :: Γ.pins, σ⟩ (upd H z (.frz od (.lst vs))) σ (env.set s (some (.lst .imm xs))) (upF fp s []) := by
        refine ⟨fun j d e => ?_, fun j n => all0 j, fun j k y m1 m2 => ?_, fun j => ?_, fun j y my => ?_, fun i hi => rfl, fun y o g hy => ?_, by rw [List.length_set]; exact re.len⟩
        · by_cases hj : j = s
          · subst hj
            rw [List.getElem?_set_self il] at e
            cases e
            exact ⟨.ref z, hv, by rw [upF_same]; exact ⟨z, vs, rfl, .inl ⟨od, upd_same⟩, (repsc rk hsk).2, rfl⟩⟩
          · rw [List.getElem?_set_ne (Ne.symm hj)] at e
            obtain ⟨w, h1, h2⟩ := re.slot j d e
            exact ⟨w, h1, by rw [all0]; exact (h2.cm (cmBut_at hsb hj e) into).2⟩
        · rw [all0] at m1; cases m1
        · rw [all0]; exact List.nodup_nil
        · rw [all0] at my; cases my
        · have gx : Γ.G y := ⟨g.1, fun z' => g.2 (.inl z')⟩
          have ne : y ≠ z := fun e => g.2 (.inr e)
          rw [upd_ne ne]
          exact re.base y o gx hy
      -- what is had behind it
      have back : ∀ (e : SD) (σ' : L2.St) (H2 : Hp) (fp2 : Fp), cmBut s e = true → RE X.K ⟨Γ.H0, (fun x => Γ.F0 x ∨ x = z), s :: Γ.pins, σ⟩ H2 σ' e fp2 → Fm (upd H z (.frz od (.lst vs))) (upF fp s []) H2 fp2 →
          H2 z = some (.frz od (.lst vs)) ∧ RE X.K Γ (upd H2 z (.lst vs)) σ' (e.set s (some (.lst .own xs))) (upF fp2 s (fp s)) ∧ Fm H fp (upd H2 z (.lst vs)) (upF fp2 s (fp s)) := by
        intro e σ' H2 fp2 hse re2 fm2
        have hz2 : H2 z = some (.frz od (.lst vs)) := fm2.keep z _ upd_same nz
        have hfp2 : ∀ i, i ≠ s → fp2 i = [] := fun i hi => by
          by_cases hd : ∃ d, e[i]? = some (some d)
          · obtain ⟨d, ed⟩ := hd
            obtain ⟨w, _, rw'⟩ := re2.slot i d ed
            exact (rw'.cm (Γ' := ⟨Γ.H0, (fun x => Γ.F0 x ∨ x = z), s :: Γ.pins, σ⟩) (H' := H2) (cmBut_at hse hi ed) fun a g => ⟨g, fun _ h => h⟩).1
          · exact re2.void i fun d e => hd ⟨d, e⟩
        have kp : ∀ y o, H y = some o → (∀ i, y ∉ fp i) → upd H2 z (.lst vs) y = some o := fun y o hy n => by
          by_cases hyz : y = z
          · subst hyz
            rw [hz] at hy; cases hy
            exact upd_same
          · rw [upd_ne hyz]
            exact fm2.keep y o (by rw [upd_ne hyz]; exact hy) (fun i mi => by rw [all0] at mi; cases mi)
        have outo : ∀ a, (Gm.mk Γ.H0 (fun x => Γ.F0 x ∨ x = z) (s :: Γ.pins) σ).G a → Γ.G a ∧ ∀ o, H2 a = some o → upd H2 z (.lst vs) a = some o := fun a g => by
          have ne : a ≠ z := fun e => g.2 (.inr e)
          exact ⟨⟨g.1, fun k => g.2 (.inl k)⟩, fun o e => by rw [upd_ne ne]; exact e⟩
        have hps : σ'[s]? = some (some (.ref z)) := by rw [re2.pin s List.mem_cons_self]; exact hv
        have hel : s < e.length := by
          rw [← re2.len]
          exact (List.getElem?_eq_some_iff.mp hps).1
        have only : ∀ j y, y ∈ upF fp2 s (fp s) j → j = s ∧ y ∈ fp s := fun j y my => by
          rcases upF_mem my with ⟨hj, my⟩ | ⟨hj, my⟩
          · exact ⟨hj, my⟩
          · rw [hfp2 j hj] at my; cases my
        refine ⟨hz2, ⟨fun j d ed => ?_, fun j n => ?_, fun j k y m1 m2 => ?_, fun j => ?_, fun j y my => ?_, fun i hi => ?_, fun y o g hy => ?_, by rw [List.length_set]; exact re2.len⟩, ⟨kp, fun j y my => ?_⟩⟩
        · by_cases hj : j = s
          · subst hj
            rw [List.getElem?_set_self hel] at ed
            cases ed
            refine ⟨.ref z, hps, ?_⟩
            rw [upF_same, hF]
            exact ⟨z, vs, [], rfl, upd_same, (repsc rk hsk).2, rfl⟩
          · rw [List.getElem?_set_ne (Ne.symm hj)] at ed
            obtain ⟨w, h1, h2⟩ := re2.slot j d ed
            refine ⟨w, h1, ?_⟩
            rw [upF_ne hj, hfp2 j hj]
            exact (h2.cm (cmBut_at hse hj ed) outo).2
        · by_cases hj : j = s
          · subst hj
            exact (n _ (List.getElem?_set_self hel)).elim
          · rw [upF_ne hj]; exact hfp2 j hj
        · rw [(only j y m1).1, (only k y m2).1]
        · by_cases hj : j = s
          · subst hj; rw [upF_same]; exact re.nd j
          · rw [upF_ne hj, hfp2 j hj]; exact List.nodup_nil
        · exact re.ng s y (only j y my).2
        · rw [re2.pin i (List.mem_cons_of_mem _ hi)]; exact re.pin i hi
        · exact kp y o (re.base y o g hy) fun i mi => re.ng i y mi g
        · exact .inl ⟨s, (only j y my).2⟩
      refine sat σ _ _ _ re1 _ ?_
      cases hr : ss (env.set s (some (.lst .imm xs))) with
      | bad => rw [hr] at q; exact q.elim
      | exc c e => rw [hr] at q; exact q.elim
      | ok fl e =>
        rw [hr] at q
        cases fl with
        | nx =>
          have q' : hold (if cmBut s e = true then R.ok Fl.nx (e.set s (some (.lst .own xs))) else R.bad) _ _ := q
          by_cases hd : cmBut s e = true
          · rw [if_pos hd] at q'
            intro σ' H2 fp2 re2 fm2
            obtain ⟨k1, k2, k3⟩ := back e σ' H2 fp2 hd re2 fm2
            exact ⟨k1, q' σ' _ _ k2 k3⟩
          · rw [if_neg hd] at q'; exact q'.elim
        | rt d => exact q.elim
        | bk => exact q.elim
        | ct => exact q.elim
    · rw [if_neg hc] at q; exact q.elim
  · exact q.elim
end
end Vs

namespace Vs
open PySem PySem.Spec PyProof.Rows L2
section
variable {X : Cx} {Γ : Gm} {W : Wx} {p fa : Bool} {a : Expr} {eva : SD → R D} {K : PySem.W.Frag} {H : Hp}
/-! ### list(range(n)) -/
def gLRange : D → Option D
  | .int n => if 0 ≤ n ∧ n ≤ 16777216 then some (.lst .own (rangeD 0 n.toNat)) else none
  | _ => none
def rLRange : V → Hp → VK → Prop := fun x H Q => ∃ n, x = .int n ∧ RgOk 0 n ∧ ∀ q, H q = none → Q (.ref q) (upd H q (.lst (rgV 0 n)))
theorem us_lrange : UnSat K Γ rLRange gLRange := fun H x d F d' Q r hg q => by
  cases d with
  | int n =>
    have hg' : (if 0 ≤ n ∧ n ≤ 16777216 then some (D.lst .own (rangeD 0 n.toNat)) else none) = some d' := hg
    split at hg'
    · rename_i h
      cases hg'
      refine ⟨n, r.1, RgOk.of_le (Int.le_refl _) h.2 (by decide) h.1, fun z nz => ?_⟩
      have e1 : rangeD 0 n.toNat = ((List.range n.toNat).map fun i : Nat => (0 : Int) + (i : Nat)).map D.int := by
        unfold rangeD; rw [List.map_map]; rfl
      have e2 : rgV 0 n = ((List.range n.toNat).map fun i : Nat => (0 : Int) + (i : Nat)).map V.int := by
        unfold rgV; rw [List.map_map, Int.sub_zero]; rfl
      rw [e2]
      rw [e1] at q
      refine q _ _ [z] ⟨z, _, [], rfl, upd_same, Reps.ofInts, rfl⟩ (by simp) (same_new nz) fun y m => ?_
      rw [List.mem_singleton.mp m]; exact nz
    · cases hg'
  | _ => cases hg
theorem j_lrange {q q2 pos pos2 : Pos} (hc : X.calm = true) (hm : X.mg "list" = none) (hm2 : X.mg "range" = none) (ha : J X Γ W p fa a eva) (hg : Gl X "list" := by rfl) (hg2 : Gl X "range" := by rfl)
    (n1 : starEach [a] X.env = (false, eval a X.env) :: starEach [] X.env := by rfl) (n2 : starEach [.Call (.Name "range" q2) [a] [] pos2] X.env = (false, eval (.Call (.Name "range" q2) [a] [] pos2) X.env) :: starEach [] X.env := by rfl) :
    J X Γ W p true (.Call (.Name "list" q) [.Call (.Name "range" q2) [a] [] pos2] [] pos) (eUn gLRange eva) := by
  obtain ⟨t, pa, sa⟩ := ha.ex
  refine ⟨_, pe_listRg hc hg hm (prg_1 hg2 hm2 pa n1) n2, fun σ H env fp re Q h => ?_⟩
  refine sa σ H env fp re _ (hold_mono (hold_bind h) (fun da e1 h1 x H1 fp1 Fa oa => ?_) fun c e z => z)
  obtain ⟨d, hg, q⟩ := hold_opt h1
  refine us_lrange H1 x da Fa d Q oa.rep hg fun v H3 Fr r3 n3 sm nw => q v H3 fp1 Fr ⟨oa.re.same sm, r3, n3, oa.fm.trans (Fm.same sm), fun z m => oa.fm.back (.inr (nw z m)), fun z => ?_, fun _ z m i => oa.re.fresh (nw z m) i⟩
  obtain ⟨q1, q2, q3⟩ := oa.pu z
  exact ⟨q1, q2, q3.trans sm⟩
end
end Vs

namespace Vs
open PySem PySem.Spec PyProof.Rows L2
section
variable {X : Cx} {Γ : Gm} {W : Wx} {p fa fb fc : Bool} {a b c : Expr} {eva evb evc : SD → R D} {pos : Pos}
/-! ### a op1 b op2 c -/
noncomputable def chK (g' : D → D → Option D) (y : D) (evc : SD → R D) (d : D) (e : SD) : R D := match d with
  | .bl true => (evc e).bind fun z e3 => R.opt (g' y z) e3
  | .bl false => .ok (.bl false) e
  | _ => .bad
noncomputable def eChain (g g' : D → D → Option D) (eva evb evc : SD → R D) : SD → R D := fun env => (eva env).bind fun x e1 => (evb e1).bind fun y e2 => (R.opt (g x y) e2).bind fun d e => chK g' y evc d e
theorem sat_chain {K : PySem.W.Frag} {ta tb tc : TE} {r r' : R2} {g g' : D → D → Option D} (sa : Sat K Γ W p fa ta eva) (sb : Sat K Γ W true fb tb evb) (sc : Sat K Γ W true fc tc evc) (hs : OpSat K Γ r g) (hs' : OpSat K Γ r' g') : Sat K Γ W (p && true) true (tChain r r' ta tb tc) (eChain g g' eva evb evc) := fun σ H env fp re Q h => by
  refine sat2 sa sb rfl re h (fun c e z H' fp' r' f' => z H' fp' r' f') fun da db e2 x y H2 fp2 Fa Fb t q => ?_
  obtain ⟨d, hg, q⟩ := hold_opt (hold_bind q)
  refine hs H2 x y da db Fa Fb d _ t.ra t.rb hg fun v H3 Fr r3 n3 sm nw => ?_
  cases d with
  | bl k =>
    obtain ⟨rfl, _⟩ := r3
    refine ⟨k, rfl, ?_⟩
    have re3 := t.re.same sm
    have rb3 := t.rb.same sm
    have fm3 := t.fm.trans (Fm.same (fp := fp2) sm)
    cases k with
    | false =>
      rw [if_neg Bool.false_ne_true]
      refine q (.bl false) H3 fp2 [] ⟨re3, ⟨rfl, rfl⟩, List.nodup_nil, fm3, (fun _ m => nomatch m), fun z => ?_, fun _ _ m => nomatch m⟩
      obtain ⟨q1, q2, q3⟩ := t.pu z
      exact ⟨q1, q2, q3.trans sm⟩
    | true =>
      rw [if_pos rfl]
      have q' : hold ((evc e2).bind fun z e3 => R.opt (g' db z) e3) _ _ := q
      refine sc σ H3 e2 fp2 re3 _ (hold_mono (hold_bind q') (fun dc e3 h3 w H4 fp4 Fc oc => ?_) fun c e z H' fp' r' f' => z H' fp' r' (fm3.trans f'))
      obtain ⟨d2, hg2, q4⟩ := hold_opt h3
      obtain ⟨u1, u2, u3⟩ := oc.pu rfl
      refine hs' H4 y w db dc Fb Fc d2 Q (rb3.same u3) oc.rep hg2 fun v5 H5 Fr5 r5 n5 sm5 nw5 => ?_
      have fmA := fm3.trans oc.fm
      refine q4 v5 H5 fp4 Fr5 ⟨oc.re.same sm5, r5, n5, fmA.trans (Fm.same sm5), fun z m => fmA.back (.inr (nw5 z m)), fun z => ?_, fun _ z m i => oc.re.fresh (nw5 z m) i⟩
      obtain ⟨q1, q2, q3⟩ := t.pu z
      exact ⟨u1.trans q1, u2.trans q2, ((q3.trans sm).trans u3).trans sm5⟩
  | _ => exact q.elim
theorem j_chain {op op' : CmpOp} {r r' : R2} {g g' : D → D → Option D} (ho : OpR X (compareOp op) r) (hs : OpSat X.K Γ r g) (ho' : OpR X (compareOp op') r') (hs' : OpSat X.K Γ r' g') (ha : J X Γ W p fa a eva) (hb : J X Γ W true fb b evb) (hc : J X Γ W true fc c evc)
    (hm : lastMarks [op, op'] [b, c] = false := by with_unfolding_all rfl) : J X Γ W (p && true) true (.Compare a [op, op'] [b, c] pos) (eChain g g' eva evb evc) := by
  obtain ⟨ta, pa, sa⟩ := ha.ex
  obtain ⟨tb, pb, sb⟩ := hb.ex
  obtain ⟨tc, pc, sc⟩ := hc.ex
  exact ⟨_, pe_chain ho ho' pa pb pc hm, sat_chain sa sb sc hs hs'⟩
theorem jt_chain {op op' : CmpOp} {r r' : R2} {g g' : D → D → Option D} (ho : OpR X (compareOp op) r) (hs : OpSat X.K Γ r g) (ho' : OpR X (compareOp op') r') (hs' : OpSat X.K Γ r' g') (ha : J X Γ W p fa a eva) (hb : J X Γ W true fb b evb) (hc : J X Γ W true fc c evc)
    (hm : lastMarks [op, op'] [b, c] = false := by with_unfolding_all rfl) : JT X Γ W (p && true) (.Compare a [op, op'] [b, c] pos) (cVal (eChain g g' eva evb evc)) := by
  obtain ⟨ta, pa, sa⟩ := ha.ex
  obtain ⟨tb, pb, sb⟩ := hb.ex
  obtain ⟨tc, pc, sc⟩ := hc.ex
  exact ⟨_, pt_chain ho ho' pa pb pc hm, sat_val (sat_chain sa sb sc hs hs')⟩
end
end Vs

namespace Vs
open PySem PySem.Spec PyProof.Rows L2 PySem.W
section
variable {X : Cx} {Γ : Gm} {W : Wx} {p f fa : Bool} {a : Expr} {eva : SD → R D} {q pos : Pos} {K : PySem.W.Frag} {H : Hp}
/-! ### sum and min of a tuple of whole numbers -/
def rSumT (K : PySem.W.Frag) : List V → Hp → VK → Prop := fun vs H Q => ∃ (a : Addr) (ns : List Int), vs = [V.ref a] ∧ SqT K H a (ns.map V.int) ∧ Q (.int ns.sum) H
def rMinT (K : PySem.W.Frag) : List V → Hp → VK → Prop := fun vs H Q => ∃ (a : Addr) (ns : List Int), vs = [V.ref a] ∧ SqT K H a (ns.map V.int) ∧ 0 < ns.length ∧ ∀ m, m ∈ ns → (∀ y, y ∈ ns → m ≤ y) → Q (.int m) H
theorem cr_sumT (hc : X.calm = true) : CallR X (.builtin "sum") (rSumT X.K) := by
  intro pins s σ H vs us Q I r h
  obtain ⟨a, ns, rfl, hs, q⟩ := h
  obtain ⟨its, rv, hl, _⟩ := I.tuple hs
  rw [Vals.ref1 r]
  have hi := rv.ints
  obtain ⟨xs, hx⟩ := hi.allInts.items
  have hn : numsOf its.toArray.toList = ns := by rw [show its.toArray.toList = its from rfl, hi.numsOf]
  have hl' : s.heap.IsTuple a (intItems xs) := by rw [← hx]; exact hl
  rw [hx, nums_intItems] at hn
  refine ktm_sumG (I.ok.hd hc) hl' fun h' tk t' hk => ?_
  rw [preSum_eq, List.take_of_length_le (by simp), hn]
  exact ⟨.int _, H, I.kept hk, ⟨_, rfl⟩, q⟩
theorem min_intTup {prog : Program} {w : World} {A : Around} {E : Value → Shared → Prop} {s : Shared} {l : Addr} {xs : Array (Int × Tok)} {Q : Value → Shared → Prop} (hh : A.handled = none) (hl : s.heap.IsTuple l (intItems xs)) (hne : 0 < xs.size)
    (h : ∀ v h' tk, (intItems xs)[argBest (fun i j => decide (numAt xs i < numAt xs j)) (xs.size - 1)]? = some v → (∀ b o, s.heap.get? b = some o → h'.get? b = some o) → Q v { s with heap := h', toks := tk }) :
    wpAny (model prog w) A (call (.builtin "min") [.ref l]) Q E s := by
  obtain ⟨o, ho, hc, n, hd⟩ := id hl
  have hlt : l ≠ s.heap.objs.size := Nat.ne_of_lt (Heap.lt_size ho)
  have W := (Walks.tuple (prog := prog) (w := w) (A := A.in1) hh s.heap.objs.size l hlt (intItems xs))
  refine call_min_walk (wpAny_pyIter_tuple hl ?_)
  refine ⟨_, _, _, _, _, _, _, rfl, W, ⟨⟨_, Heap.get?_push_size _ rfl, rfl, rfl⟩, hl.at fun o e => Heap.get?_push_of_some _ e⟩, fun b hb => ?_, by simpa [intItems] using hne, CmpOf.ints_lt (numAt xs) (fun _ _ => intItems_at), fun v h' tk hP hk => ?_⟩
  · rcases List.mem_cons.mp hb with rfl | hb
    · exact Heap.lt_size (Heap.get?_push_size _ rfl)
    · obtain rfl := List.mem_singleton.mp hb
      exact Heap.lt_size (Heap.get?_push_of_some _ ho)
  · exact h v h' tk (by simpa [intItems] using hP) (fun b o e => hk b o (fun hb => absurd (Heap.lt_size e) ((List.mem_singleton.mp hb) ▸ Nat.lt_irrefl _)) (Heap.get?_push_of_some _ e))
theorem cr_minT (hc : X.calm = true) : CallR X (.builtin "min") (rMinT X.K) := by
  intro pins s σ H vs us Q I r h
  obtain ⟨a, ns, rfl, hs, hne, q⟩ := h
  obtain ⟨its, rv, hl, _⟩ := I.tuple hs
  rw [Vals.ref1 r]
  have hi := rv.ints
  obtain ⟨xs, e⟩ := hi.allInts.items
  have hn : numsOf (intItems xs).toList = ns := by rw [← e]; exact hi.numsOf
  rw [nums_intItems] at hn
  subst hn
  have hl' : s.heap.IsTuple a (intItems xs) := by rw [← e]; exact hl
  have hsz : 0 < xs.size := by simpa using hne
  refine min_intTup (I.ok.hd hc) hl' hsz fun v h' tk hv hk => ?_
  obtain ⟨t, rfl⟩ := intItems_at hv
  obtain ⟨h1, h2⟩ := argBest_lt (numAt xs) (xs.size - 1)
  refine ⟨.int _, H, I.kept hk, ⟨_, rfl⟩, q _ ?_ fun a ha => ?_⟩
  · rw [numAt_eq]; exact PySem.getD_mem (by rw [List.length_map, Array.length_toList]; omega)
  · obtain ⟨j, hj, rfl⟩ := mem_getD ha
    rw [List.length_map, Array.length_toList] at hj
    rw [← numAt_eq]; exact h2 j (by omega)
def gSumT (d : D) : Option D := match d with
  | .tup xs => (intsOf xs).map fun ns => .int ns.sum
  | _ => none
def gMinT (d : D) : Option D := match d with
  | .tup xs => (intsOf xs).bind fun ns => if 0 < ns.length then some (.int (mnI ns)) else none
  | _ => none
theorem cs_sumT : CallSat K Γ (rSumT K) (g1 gSumT) := cs_1 fun H x d F d' Q r hg q => by
  cases d with
  | tup xs =>
    obtain ⟨ns, h1, rfl⟩ := Option.map_eq_some_iff.mp (show (intsOf xs).map (fun ns => D.int ns.sum) = some d' from hg)
    have e := intsOf_map h1
    subst e
    obtain ⟨z, vs, rfl, s, rs, _⟩ := r
    obtain ⟨e1, _⟩ := rs.ints
    subst e1
    exact ⟨z, ns, rfl, s, scal_q q ⟨rfl, rfl⟩⟩
  | _ => cases hg
theorem cs_minT : CallSat K Γ (rMinT K) (g1 gMinT) := cs_1 fun H x d F d' Q r hg q => by
  cases d with
  | tup xs =>
    obtain ⟨ns, h1, h2⟩ := Option.bind_eq_some_iff.mp (show ((intsOf xs).bind fun ns => if 0 < ns.length then some (D.int (mnI ns)) else none) = some d' from hg)
    have e := intsOf_map h1
    subst e
    split at h2
    · rename_i hl
      cases h2
      obtain ⟨z, vs, rfl, s, rs, _⟩ := r
      obtain ⟨e1, _⟩ := rs.ints
      subst e1
      have hne : ns ≠ [] := fun e => by subst e; exact absurd hl (by decide)
      obtain ⟨m1, m2⟩ := mnI_ok ns hne
      refine ⟨z, ns, rfl, s, hl, fun m hm hle => ?_⟩
      have : m = mnI ns := by
        have h3 := m2 m hm
        have h4 := hle _ m1
        omega
      subst this
      exact scal_q q ⟨rfl, rfl⟩
    · cases h2
  | _ => cases hg
/-! ### t[::-1] of a tuple -/
theorem adjust_rev (n : Nat) : Builtin.Slice.sliceAdjust none none (-1) (n : Int) = ((n : Int) - 1, -1) := by
  unfold Builtin.Slice.sliceAdjust
  have h1 : ((-1 : Int) < 0) := by decide
  simp only [h1, if_true]
theorem places_rev (n : Nat) : Builtin.Slice.slicePlaces ((n : Int) - 1) (-1) (-1) = n := by
  unfold Builtin.Slice.slicePlaces
  have h1 : ¬ ((-1 : Int) > 0) := by decide
  simp only [h1, if_false, Int.neg_neg, Int.ediv_one]
  split <;> omega
theorem sliceApplied_rev {prog : Program} {w : World} {A : Around} {E : Value → Shared → Prop} {s : Shared} {sl : Addr} {n : Nat} {vs : Value} {Q : Int × Int × Nat → Shared → Prop} (hs : s.heap.IsSliceOf sl .none .none vs) (ps : IsPart vs (some (-1))) (h : Q ((n : Int) - 1, -1, n) s) :
    wpAny (model prog w) A (Builtin.Slice.sliceApplied (.ref sl) (pure (n : Int))) Q E s := by
  obtain ⟨os, hos, hcs, hds⟩ := id hs
  unfold Builtin.Slice.sliceApplied Builtin.Slice.sliceFields
  refine wpAny_bind (wpAny_bind (wpAny_field hos hds (x := .none) rfl (wpAny_bind (wpAny_field hos hds (x := .none) rfl (wpAny_bind (wpAny_field hos hds (x := vs) rfl (wpAny_pure ?_)))))))
  refine wpAny_bind (HT.slicePart_ ps ?_)
  show wpAny _ _ (if ((-1 : Int) == 0) = true then _ else _) _ _ s
  rw [if_neg (by decide)]
  refine wpAny_bind (slicePart_none (wpAny_bind (slicePart_none (wpAny_bind (wpAny_pure ?_)))))
  show wpAny _ _ (match Builtin.Slice.sliceAdjust none none (-1) (n : Int) with | (lo, hi) => pure (lo, (-1 : Int), Builtin.Slice.slicePlaces lo hi (-1))) _ _ s
  rw [adjust_rev n]
  show wpAny _ _ (pure ((n : Int) - 1, (-1 : Int), Builtin.Slice.slicePlaces ((n : Int) - 1) (-1) (-1))) _ _ s
  rw [places_rev n]
  exact wpAny_pure h
theorem fm_congr {α β : Type} {f : α → Option β} {g : α → β} : ∀ {l : List α}, (∀ x, x ∈ l → f x = some (g x)) → l.filterMap f = l.map g
  | [], _ => rfl
  | x :: l, h => by rw [List.filterMap_cons, h x List.mem_cons_self, fm_congr fun y m => h y (List.mem_cons_of_mem _ m)]; rfl
theorem pick_rev (xs : Array Value) : ((List.range xs.size).filterMap fun (k : Nat) => xs[(((xs.size : Int) - 1) + (k : Int) * (-1)).toNat]?).toArray = xs.toList.reverse.toArray := by
  congr 1
  have e : ∀ k, k ∈ List.range xs.size → xs[(((xs.size : Int) - 1) + (k : Int) * (-1)).toNat]? = some (xs.toList.reverse.getD k .none) := by
    intro k hk
    have hk := List.mem_range.mp hk
    have e1 : (((xs.size : Int) - 1) + (k : Int) * (-1)).toNat = xs.size - 1 - k := by omega
    rw [e1, List.getD_eq_getElem?_getD, List.getElem?_reverse (by simpa using hk), ← Array.getElem?_toList]
    simp only [Array.length_toList]
    rw [List.getElem?_eq_getElem (by simp; omega)]; rfl
  rw [fm_congr e]
  refine List.ext_getElem (by simp) fun i h1 h2 => ?_
  simp only [List.getElem_map, List.getElem_range]
  rw [List.getD_eq_getElem?_getD, List.getElem?_eq_getElem h2]; rfl
theorem getItem_tuple_rev {prog : Program} {w : World} {A : Around} {E : Value → Shared → Prop} {s : Shared} {t sl : Addr} {items : Array Value} {vs : Value} {Q : Value → Shared → Prop} (ht : IsTup s.heap t items) (hs : s.heap.IsSliceOf sl .none .none vs) (ps : IsPart vs (some (-1)))
    (h : Q (.ref s.heap.objs.size) { s with heap := s.heap.push { cls := .type "tuple", data := .seq items.toList.reverse.toArray } })
    (hsz : items.size ≤ sizeLine) : wpAny (model prog w) A (getItem (.ref t) (.ref sl)) Q E s := by
  have htake : sizeOk (.seq items.toList.reverse.toArray) := by
    show items.toList.reverse.toArray.size ≤ sizeLine
    rw [List.size_toArray, List.length_reverse, Array.length_toList]; exact hsz
  obtain ⟨os, hos, hcs, hds⟩ := id hs
  have hTs : s.TypeIs (.ref sl) "slice" := ⟨os, hos, hcs⟩
  unfold getItem
  try with_reducible refine wpAny_holding ?_
  first | refine wpAny_bind (wpAny_pure ?_) | skip
  refine wpAny_bind (wpAny_sequenceKey ht.typeIs (by decide) ?_)
  refine wpAny_bind (wpAny_callSpecial?_slot (name := Str.ofString "__getitem__") ht.typeIs PyProof.Rows.slot_tuple_getitem
    (wpAny_call_entry PyProof.Rows.slot_tuple_getitem ht.typeIs entry_tuple_getitem ?_ (args_tuple_getitem _ _)))
  show wpAny _ _ (Builtin.Tuple.tupleItemsOf (.ref t) >>= _) _ _ s
  refine wpAny_bind (tupleItemsOf_ ht ?_)
  refine wpAny_bind (wpAny_typeOf hTs ?_)
  rw [if_pos (by decide)]
  refine wpAny_bind (sliceApplied_rev hs ps ?_)
  have hno : ¬ ((((items.size : Int) - 1) == 0 && (-1 : Int) == 1 && items.size == items.size) = true) := by
    have : ((-1 : Int) == 1) = false := by decide
    rw [this]; simp
  show wpAny _ _ (if (((items.size : Int) - 1) == 0 && (-1 : Int) == 1 && items.size == items.size) = true then _ else _) _ _ s
  rw [if_neg hno, pick_rev]
  first
    | exact wpAny_bind (m := Builtin.Tuple.tupleExact _) (wpAny_newObj_type (wpAny_pure ⟨_, rfl, wpAny_pure h⟩) htake)
    | exact wpAny_bind (m := Builtin.Tuple.tupleExact _) (wpAny_newObj_type (wpAny_bind (wpAny_pure (wpAny_pure ⟨_, rfl, wpAny_pure h⟩))) htake)
    | exact wpAny_bind (wpAny_bind (m := Builtin.Tuple.tupleExact _) (wpAny_newObj_type (wpAny_pure (wpAny_pure ⟨_, rfl, wpAny_pure h⟩)) htake))
    | exact wpAny_bind (wpAny_bind (m := Builtin.Tuple.tupleExact _) (wpAny_newObj_type (wpAny_pure ⟨_, rfl, wpAny_pure h⟩) htake))
def tRevT (K : PySem.W.Frag) (te : TE) : TE := fun σ H Q => te σ H fun x H1 => ∃ a xs, x = .ref a ∧ SqT K H1 a xs ∧ ∀ p, H1 p = none → Q (.ref p) (upd H1 p (.tup xs.reverse))
theorem pe_revT {e : Expr} {te : TE} {k : Nat} {p1 p2 p3 pos : Pos} (he : PE X e te) : PE X (.Subscript e (.Slice none none (some (.UnaryOp .USub (.Constant (.int 1) k p1) p2)) p3) pos) (tRevT X.K te) := by
  refine ⟨fun pins s σ H Q I h => ?_⟩
  refine Subscript_ (thn (he.run pins s σ H _ I h) fun v s1 ⟨x, H1, I1, r1, q1⟩ => ?_)
  obtain ⟨a, xs, ex, hx, q⟩ := q1
  subst ex
  cases r1
  have hst : PO X (some (.UnaryOp .USub (.Constant (.int 1) k p1) p2)) (tPart (tUn (rU fun i => .int (-i)) (tC (.int 1)))) := po_some (pe_un un_neg pe_int)
  refine wpAny_Slice (thn (po_none.run pins s1 σ H1 (fun o H2 => o = none ∧ H2 = H1) I1 ⟨rfl, rfl⟩) fun vl s2 ⟨l, H2, I2, pl, el, e2⟩ => ?_)
  subst el e2
  refine thn (po_none.run pins s2 σ H2 (fun o H3 => o = none ∧ H3 = H2) I2 ⟨rfl, rfl⟩) fun vu s3 ⟨u, H3, I3, pu, eu, e3⟩ => ?_
  subst eu e3
  refine thn (hst.run pins s3 σ H3 (fun o H4 => o = some (-1) ∧ H4 = H3) I3 ⟨1, rfl, -1, rfl, rfl, rfl⟩) fun vs s4 ⟨o, H4, I4, ps, eo, e4⟩ => ?_
  subst eo e4
  cases pl
  cases pu
  have I5 : Inv X pins σ H4 { s4 with heap := s4.heap.push { cls := .type "slice", data := .fields #[.none, .none, vs] } } := I4.kept (t' := s4.toks) fun b ob q => Heap.get?_push_of_some _ q
  obtain ⟨its, r, ht, hz⟩ := I5.tuple hx
  have hlen := r.length
  show wpAny (model X.prog X.w) X.A (subscriptTail e (.Slice none none (some (.UnaryOp .USub (.Constant (.int 1) k p1) p2)) p3) (.ref a) (.ref s4.heap.objs.size)) (EP X pins σ Q) X.xe { s4 with heap := s4.heap.push { cls := .type "slice", data := .fields #[.none, .none, vs] } }
  refine tail_any (ops := [.ref a, .ref s4.heap.objs.size]) ht.typeIs (PyProof.Rows.slot_tuple_getitem.lookup) ?_ (by with_unfolding_all rfl)
  refine getItem_tuple_rev ht (Heap.IsSliceOf.new _ .none .none vs) ps ?_ (by rw [List.size_toArray]; omega)
  refine ⟨.ref _, _, I5.laid (t' := s4.toks) (o := .tup xs.reverse) (fun b ob q => Heap.get?_push_of_some _ q) (Nat.le_refl _) ?_, rfl, q _ (I5.hok.fresh (Nat.le_refl _))⟩
  exact ⟨by rw [List.length_reverse]; exact hz, _, r.reverse, IsTup.new _ _⟩
def gRevT (x : D) : Option D := match x with
  | .tup xs => some (.tup xs.reverse)
  | _ => none
theorem j_revT {k : Nat} {p1 p2 p3 pos : Pos} (ha : J X Γ W p fa a eva) : J X Γ W p true (.Subscript a (.Slice none none (some (.UnaryOp .USub (.Constant (.int 1) k p1) p2)) p3) pos) (eUn gRevT eva) := by
  obtain ⟨ta, pa, sa⟩ := ha.ex
  refine ⟨_, pe_revT pa, fun σ H env fp re Q h => ?_⟩
  refine sa σ H env fp re _ (hold_mono (hold_bind h) (fun d e1 k1 v H1 fp1 Fa oa => ?_) fun c e z => z)
  obtain ⟨d', hg, q⟩ := hold_opt k1
  cases d with
  | tup xs =>
    cases (show some (D.tup xs.reverse) = some d' from hg)
    obtain ⟨z, vs, rfl, s, rs, eF⟩ := oa.rep
    refine ⟨z, vs, rfl, s, new_tup (Reps.rev0 rs) fun v H4 Fr r4 n4 sm nw => q v H4 fp1 Fr ⟨oa.re.same sm, r4, n4, oa.fm.trans (Fm.same sm), fun z m => oa.fm.back (.inr (nw z m)), fun z => ?_, fun _ z m i => oa.re.fresh (nw z m) i⟩⟩
    obtain ⟨q1, q2, q3⟩ := oa.pu z
    exact ⟨q1, q2, q3.trans sm⟩
  | _ => cases hg
theorem g_sumT {ns : List Int} : gSumT (.tup (ns.map D.int)) = some (.int ns.sum) := by
  show (intsOf (ns.map D.int)).map _ = _
  rw [intsOf_ints]; rfl
theorem g_minT {ns : List Int} (h : 0 < ns.length) : gMinT (.tup (ns.map D.int)) = some (.int (mnI ns)) := by
  show (intsOf (ns.map D.int)).bind _ = _
  rw [intsOf_ints]
  exact if_pos h
theorem g_revT {xs : List D} : gRevT (.tup xs) = some (.tup xs.reverse) := rfl
end
end Vs

namespace Vs
open PySem PySem.Spec PyProof.Rows L2 PySem.W
section
variable {X : Cx} {Γ : Gm} {W : Wx} {p f fa : Bool} {a : Expr} {eva : SD → R D} {q pos : Pos} {K : PySem.W.Frag} {H : Hp}
/-! ### min(x, y) of two data that are alike -/
theorem reads2_keep {h h' : Heap} : ∀ {vs : List Value} {xs : List PyData} {as : List Addr}, ReadsAll h vs xs as → (∀ b o, h.get? b = some o → h'.get? b = some o) → ReadsAll h' vs xs as
  | _, _, _, .nil, _ => .nil
  | _, _, _, .cons r1 r2, k => .cons (reads_keeps k r1) (reads2_keep r2 k)
theorem min_twoH {prog : Program} {w : World} {A : Around} {E : Value → Shared → Prop} {s : Shared} {u v : Value} {x y : PyData} {as : List Addr} {Q : Value → Shared → Prop} (hh : A.handled = none) (hr : ReadsAll s.heap [u, v] [x, y] as) (ha : AlikeAll [x, y]) (hu : A.units + 1 + PyData.depthAll [x, y] < cLine)
    (h : ∀ (i : Nat) z h' tk, [u, v][i]? = some z → [x, y][i]? = some (minD x [y]) → (∀ b o, s.heap.get? b = some o → h'.get? b = some o) → Q z { s with heap := h', toks := tk }) :
    wpAny (model prog w) A (call (.builtin "min") [u, v]) Q E s := by
  have nm : (toString "min" ++ toString ".loop" : String) = "min.loop" := by decide
  refine call_function_tree F.kind_min F.plain_min F.entry_min (F.args_min2 _ _) ?_
  refine wpAny_bind (wpAny_of_eq (show Builtin.Builtins.bindParams "min" ["key", "default"] 0 ⟨[], []⟩ = pure [none, none] from rfl) ?_)
  refine wpAny_bind (m := newTuple [u, v]) (wpAny_newObj_type ?_)
  have hT : (s.heap.push { cls := .type "tuple", data := .seq #[u, v] }).IsTuple s.heap.objs.size #[u, v] := ⟨_, Heap.get?_push_size _ rfl, rfl, 0, rfl⟩
  refine wpAny_bind (iter_tupleW (A := A.in1) hh hT fun s₂ e W st hfp hw hk => ?_)
  refine wpAny_bind (wpAny_newObj_type ?_)
  have hSf : s₂.heap.objs.size ∉ _ := fun hm => Nat.lt_irrefl _ (hfp _ hm)
  rw [nm]
  have hr2 : ReadsAll (s.heap.push { cls := .type "tuple", data := .seq #[u, v] }) (#[u, v] : Array Value).toList [x, y] as := reads2_keep hr fun b o e => Heap.get?_push_of_some _ e
  have hcmp := cmpIn_lt (prog := prog) (w := w) (A := A.in1) (s := { s with heap := s.heap.push { cls := .type "tuple", data := .seq #[u, v] } }) (vs := #[u, v]) hr2 ha (by show A.units + 1 + _ < _; exact hu)
  refine wpAny_pure ⟨plainId_quiet F.plain_min_loop _, codeAny_min_loop_firstH W _ hw _ hcmp s₂.heap.objs.size hSf (fresh_in hk) _ (by simp) (fun b o e => Heap.get?_push_of_some _ (hk b o e)) (W.frame 0 s₂ _ s₂.toks st (Nat.le_refl _) fun b _ o e => Heap.get?_push_of_some _ e) (Heap.get?_push_size _ rfl) fun z s' hP hm => ?_⟩
  obtain ⟨h', tk, rfl, hk'⟩ := moved_old e rfl (Moved.drop_new (tk := s₂.toks) hm (Nat.le_refl _))
  have e2 := (argBest_fold dataLt PyData.none x [y] [y].length (Nat.le_refl _)).2
  rw [List.take_length] at e2
  obtain ⟨i, hi⟩ : ∃ i, i = argBest (fun i j => dataLt ([x, y].getD i .none) ([x, y].getD j .none)) ((#[u, v] : Array Value).size - 1) := ⟨_, rfl⟩
  rw [← hi] at hP
  have hP' : [u, v][i]? = some z := by simpa using hP
  have hlt : i < [x, y].length := by
    have := (List.getElem?_eq_some_iff.mp hP').1
    simpa using this
  refine h i z h' tk hP' ?_ fun b o e => hk' b o (Heap.get?_push_of_some _ e)
  have e3 : [x, y].getD i .none = minD x [y] := by rw [hi]; exact e2
  rw [← e3, List.getD_eq_getElem?_getD, List.getElem?_eq_getElem hlt]; rfl
def rMin2D (K : PySem.W.Frag) : List V → Hp → VK → Prop := fun vs H Q => ∃ (b c : V × PyData), vs = [b.1, c.1] ∧ (∀ z ∈ [b, c], Dp K H z.1 z.2 ∧ z.2.depth ≤ 8) ∧ AlikeAll [b.2, c.2] ∧
  ∀ (i : Nat) (z : V × PyData), [b, c][i]? = some z → z.2 = minD b.2 [c.2] → Q z.1 H
theorem cr_min2D (hc : X.calm = true) (hu : X.A.units + 64 < cLine) : CallR X (.builtin "min") (rMin2D X.K) := by
  intro pins s σ H vs us Q I r h
  obtain ⟨b, c, rfl, hd, hal, qq⟩ := h
  obtain ⟨u, v, rfl, r1, r2⟩ := vals2 r
  obtain ⟨as, hra⟩ := all_reads I (bs := [b, c]) (its := [u, v]) (.cons r1 (.cons r2 .nil)) fun z m => (hd z m).1
  have hdep : PyData.depthAll [b.2, c.2] ≤ 8 := depth_le fun x hx => by
    rcases List.mem_cons.mp hx with rfl | hx
    · exact (hd b List.mem_cons_self).2
    · rw [List.mem_singleton.mp hx]; exact (hd c (by simp)).2
  refine min_twoH (I.ok.hd hc) hra hal (by show X.A.units + 1 + PyData.depthAll [b.2, c.2] < _; omega) fun i z h' tk hz hm hk => ?_
  obtain ⟨w, hw1, hw2⟩ := vals_ix (vs := [b.1, c.1]) (us := [u, v]) (.cons r1 (.cons r2 .nil)) hz
  have hbc : ∃ e, [b, c][i]? = some e ∧ e.1 = w := by
    have : ([b, c].map (·.1))[i]? = some w := hw1
    rw [List.getElem?_map] at this
    obtain ⟨e, h1, h2⟩ := Option.map_eq_some_iff.mp this
    exact ⟨e, h1, h2⟩
  obtain ⟨e, he, rfl⟩ := hbc
  refine ⟨e.1, H, I.kept (t' := tk) hk, hw2, qq i e he ?_⟩
  have : ([b, c].map (·.2))[i]? = some (minD b.2 [c.2]) := hm
  rw [List.getElem?_map, he] at this
  exact Option.some.inj this
def gMin2D (x y : D) : Option D := if minOk [x, y] = true then some (mnD x [y]) else none
theorem cs_min2D : CallSat K Γ (rMin2D K) (g2 gMin2D) := cs_2 fun H v1 v2 x y F F' d' Q r1 r2 hg qq => by
  have hg' : (if minOk [x, y] = true then some (mnD x [y]) else none) = some d' := hg
  split at hg'
  · rename_i hok
    cases hg'
    unfold minOk at hok
    rw [Bool.and_eq_true, Bool.and_eq_true] at hok
    obtain ⟨⟨h1, h2⟩, h3⟩ := hok
    rw [List.all_eq_true] at h2 h3
    have hmx := plDs_mem h1
    have e1 := r1.immF (plD_imm (hmx x List.mem_cons_self))
    have e2 := r2.immF (plD_imm (hmx y (by simp)))
    subst e1 e2
    have nn : ∀ z ∈ [x, y], toPy z ≠ .none := fun z hz e => by
      have hp := hmx z hz
      cases z with
      | non => cases hp
      | bl _ => cases e
      | int _ => cases e
      | str _ => cases e
      | tup _ => cases e
      | _ => cases hp
    have d1 : dOk 8 x = true := h2 _ List.mem_cons_self
    have d2 : dOk 8 y = true := h2 _ (by simp)
    refine ⟨(v1, toPy x), (v2, toPy y), rfl, fun z hz => ?_, ⟨fun u hu w hw => ?_, fun u hu => ?_⟩, fun i z hz hmin => ?_⟩
    · rcases List.mem_cons.mp hz with rfl | hz
      · exact ⟨r1.dp d1, (dOk_shape d1).2⟩
      · rw [List.mem_singleton.mp hz]; exact ⟨r2.dp d2, (dOk_shape d2).2⟩
    · have hu' : u ∈ [x, y].map toPy := hu
      have hw' : w ∈ [x, y].map toPy := hw
      obtain ⟨c1, hc1, rfl⟩ := List.mem_map.mp hu'
      obtain ⟨c2, hc2, rfl⟩ := List.mem_map.mp hw'
      exact List.all_eq_true.mp (h3 _ hc1) _ hc2
    · have hu' : u ∈ [x, y].map toPy := hu
      obtain ⟨c1, hc1, rfl⟩ := List.mem_map.mp hu'
      exact nn c1 hc1
    · have hpy : z.2 = toPy (mnD x [y]) := by rw [mnD_py]; exact hmin
      have hmm := mnD_mem [y] x
      have hi : i = 0 ∨ i = 1 := by
        have := (List.getElem?_eq_some_iff.mp hz).1
        have : i < 2 := this
        omega
      rcases hi with rfl | rfl
      · cases hz
        have := plD_inj (hmx x List.mem_cons_self) (hmx _ hmm) hpy
        rw [← this] at qq
        exact qq v1 H [] r1 List.nodup_nil (Same.refl H) fun _ m => nomatch m
      · cases hz
        have := plD_inj (hmx y (by simp)) (hmx _ hmm) hpy
        rw [← this] at qq
        exact qq v2 H [] r2 List.nodup_nil (Same.refl H) fun _ m => nomatch m
  · cases hg'
end
end Vs

/-! plain evaluation: each combinator by the value of its parts, so that a rewriting runs from the inside -/
namespace Vs
open PySem L2
abbrev Ens {α : Type} (r : R α) (Q : α → SD → Prop) : Prop := hold r Q fun _ _ => False
theorem ens_ok {α : Type} {a : α} {e : SD} {Q : α → SD → Prop} : Ens (.ok a e) Q = Q a e := rfl
theorem ens_bind {α β : Type} {r : R α} {f : α → SD → R β} {Q : β → SD → Prop} : Ens (r.bind f) Q = Ens r (fun a e => Ens (f a e) Q) := by
  cases r <;> rfl
theorem ens_mono {α : Type} {r : R α} {Q Q' : α → SD → Prop} (h : Ens r Q) (hq : ∀ a e, Q a e → Q' a e) : Ens r Q' := hold_mono h hq fun _ _ z => z
theorem ens_ex {α : Type} {r : R α} {Q : α → SD → Prop} (h : Ens r Q) : ∃ a e, r = .ok a e ∧ Q a e := by
  cases r with
  | ok a e => exact ⟨a, e, rfl, h⟩
  | exc c e => exact h.elim
  | bad => exact h.elim
theorem ens_of {α : Type} {r : R α} {a : α} {e : SD} {Q : α → SD → Prop} (h : r = .ok a e) (q : Q a e) : Ens r Q := by rw [h]; exact q
/-! ### slots -/
def lookK (o : Option (Option D)) (env : SD) : R D := match o with
  | some (some d) => .ok d env
  | _ => .bad
theorem k_var {i : Nat} {env : SD} : eVar i env = lookK env[i]? env := rfl
theorem k_look {d : D} {env : SD} : lookK (some (some d)) env = .ok d env := rfl
def takeK (o : Option (Option D)) (i : Nat) (env : SD) : R D := match o with
  | some (some d) => if isImm d = true then .ok d env else .ok d (env.set i none)
  | _ => .bad
theorem k_take {i : Nat} {env : SD} : eTake i env = takeK env[i]? i env := rfl
theorem k_take1 {d : D} {i : Nat} {env : SD} : takeK (some (some d)) i env = if isImm d = true then .ok d env else .ok d (env.set i none) := rfl
theorem k_c {d : D} {env : SD} : eC d env = .ok d env := rfl
theorem k_dnew {env : SD} : eDNew env = .ok (.dic .own []) env := rfl
/-! ### operators -/
theorem k_opt {α : Type} {a : α} {e : SD} : R.opt (some a) e = .ok a e := rfl
def binK (g : D → D → Option D) (r : R D) (b : SD → R D) : R D := r.bind fun x e1 => (b e1).bind fun y e2 => R.opt (g x y) e2
def binK2 (g : D → D → Option D) (x : D) (r : R D) : R D := r.bind fun y e2 => R.opt (g x y) e2
theorem k_bin {g : D → D → Option D} {a b : SD → R D} {env : SD} : eBin g a b env = binK g (a env) b := rfl
theorem k_bin1 {g : D → D → Option D} {b : SD → R D} {x : D} {e : SD} : binK g (.ok x e) b = binK2 g x (b e) := rfl
theorem k_bin2 {g : D → D → Option D} {x y : D} {e : SD} : binK2 g x (.ok y e) = R.opt (g x y) e := rfl
def unK (g : D → Option D) (r : R D) : R D := r.bind fun x e => R.opt (g x) e
theorem k_un {g : D → Option D} {a : SD → R D} {env : SD} : eUn g a env = unK g (a env) := rfl
theorem k_un1 {g : D → Option D} {x : D} {e : SD} : unK g (.ok x e) = R.opt (g x) e := rfl
def immK (r : R D) : R D := r.bind fun d e => if isImm d = true then .ok d e else .bad
theorem k_imm {a : SD → R D} {env : SD} : eImm a env = immK (a env) := rfl
theorem k_imm1 {d : D} {e : SD} : immK (.ok d e) = if isImm d = true then .ok d e else .bad := rfl
def argK (g : List D → Option D) (r : R (List D)) : R D := r.bind fun x e => R.opt (g x) e
theorem k_arg {g : List D → Option D} {a : SD → R (List D)} {env : SD} : eArgs g a env = argK g (a env) := rfl
theorem k_arg1 {g : List D → Option D} {x : List D} {e : SD} : argK g (.ok x e) = R.opt (g x) e := rfl
theorem k_anil {env : SD} : aNil env = .ok [] env := rfl
def consK (r : R D) (b : SD → R (List D)) : R (List D) := r.bind fun x e1 => (b e1).bind fun xs e2 => .ok (x :: xs) e2
def consK2 (x : D) (r : R (List D)) : R (List D) := r.bind fun xs e2 => .ok (x :: xs) e2
theorem k_acons {a : SD → R D} {b : SD → R (List D)} {env : SD} : aCons a b env = consK (a env) b := rfl
theorem k_acons1 {x : D} {b : SD → R (List D)} {e : SD} : consK (.ok x e) b = consK2 x (b e) := rfl
theorem k_acons2 {x : D} {xs : List D} {e : SD} : consK2 x (.ok xs e) = .ok (x :: xs) e := rfl
/-! ### tests -/
def valK (r : R D) : R Bool := r.bind fun d e => match d with
  | .bl b => .ok b e
  | _ => .bad
theorem k_val {a : SD → R D} {env : SD} : cVal a env = valK (a env) := rfl
theorem k_val1 {b : Bool} {e : SD} : valK (.ok (.bl b) e) = .ok b e := rfl
def notK (r : R Bool) : R Bool := r.bind fun b e => .ok (!b) e
theorem k_cnot {a : SD → R Bool} {env : SD} : cNot a env = notK (a env) := rfl
theorem k_cnot1 {b : Bool} {e : SD} : notK (.ok b e) = .ok (!b) e := rfl
def andK (r : R Bool) (b : SD → R Bool) : R Bool := r.bind fun x e => if x = true then b e else .ok false e
theorem k_cand {a b : SD → R Bool} {env : SD} : cAnd a b env = andK (a env) b := rfl
theorem k_cand1 {x : Bool} {b : SD → R Bool} {e : SD} : andK (.ok x e) b = if x = true then b e else .ok false e := rfl
def orK (r : R Bool) (b : SD → R Bool) : R Bool := r.bind fun x e => if x = true then .ok true e else b e
theorem k_cor {a b : SD → R Bool} {env : SD} : cOr a b env = orK (a env) b := rfl
theorem k_cor1 {x : Bool} {b : SD → R Bool} {e : SD} : orK (.ok x e) b = if x = true then .ok true e else b e := rfl
def eandK (r : R Bool) (b : SD → R D) : R D := r.bind fun x e => if x = true then b e else .ok (.bl false) e
theorem k_eand {a b : SD → R D} {env : SD} : eAnd a b env = eandK (cVal a env) b := rfl
theorem k_eand1 {x : Bool} {b : SD → R D} {e : SD} : eandK (.ok x e) b = if x = true then b e else .ok (.bl false) e := rfl
def eorK (r : R Bool) (b : SD → R D) : R D := r.bind fun x e => if x = true then .ok (.bl true) e else b e
theorem k_eor {a b : SD → R D} {env : SD} : eOr a b env = eorK (cVal a env) b := rfl
theorem k_eor1 {x : Bool} {b : SD → R D} {e : SD} : eorK (.ok x e) b = if x = true then .ok (.bl true) e else b e := rfl
def enotK (r : R Bool) : R D := r.bind fun x e => .ok (.bl (!x)) e
theorem k_enot {a : SD → R D} {env : SD} : eNot a env = enotK (cVal a env) := rfl
theorem k_enot1 {x : Bool} {e : SD} : enotK (.ok x e) = .ok (.bl (!x)) e := rfl
def eifK (r : R Bool) (a b : SD → R D) : R D := r.bind fun x e => if x = true then a e else b e
theorem k_eif {c : SD → R Bool} {a b : SD → R D} {env : SD} : eIf c a b env = eifK (c env) a b := rfl
theorem k_eif1 {x : Bool} {a b : SD → R D} {e : SD} : eifK (.ok x e) a b = if x = true then a e else b e := rfl
/-! ### slices -/
theorem k_onone {env : SD} : oNone env = .ok none env := rfl
def osK (r : R D) : R (Option Int) := r.bind fun d e => match d with
  | .int i => .ok (some i) e
  | _ => .bad
theorem k_osome {a : SD → R D} {env : SD} : oSome a env = osK (a env) := by
  unfold oSome osK
  rfl
theorem k_osome1 {i : Int} {e : SD} : osK (.ok (.int i) e) = .ok (some i) e := rfl
def slK (r : R D) (lo hi : SD → R (Option Int)) : R D := r.bind fun x e1 => (lo e1).bind fun l e2 => (hi e2).bind fun h e3 => R.opt (gSl x l h) e3
def slK2 (x : D) (r : R (Option Int)) (hi : SD → R (Option Int)) : R D := r.bind fun l e2 => (hi e2).bind fun h e3 => R.opt (gSl x l h) e3
def slK3 (x : D) (l : Option Int) (r : R (Option Int)) : R D := r.bind fun h e3 => R.opt (gSl x l h) e3
theorem k_sl {a : SD → R D} {lo hi : SD → R (Option Int)} {env : SD} : eSl a lo hi env = slK (a env) lo hi := rfl
theorem k_sl1 {x : D} {lo hi : SD → R (Option Int)} {e : SD} : slK (.ok x e) lo hi = slK2 x (lo e) hi := rfl
theorem k_sl2 {x : D} {l : Option Int} {hi : SD → R (Option Int)} {e : SD} : slK2 x (.ok l e) hi = slK3 x l (hi e) := rfl
theorem k_sl3 {x : D} {l h : Option Int} {e : SD} : slK3 x l (.ok h e) = R.opt (gSl x l h) e := rfl
/-! ### statements -/
def seqK (r : R Fl) (b : SD → R Fl) : R Fl := r.bind fun fl e => match fl with
  | .nx => b e
  | fl => .ok fl e
theorem k_seq {a b : SD → R Fl} {env : SD} : sSeq a b env = seqK (a env) b := rfl
theorem k_seqn {b : SD → R Fl} {e : SD} : seqK (.ok .nx e) b = b e := rfl
theorem k_seqr {b : SD → R Fl} {d : D} {e : SD} : seqK (.ok (.rt d) e) b = .ok (.rt d) e := rfl
theorem k_seqb {b : SD → R Fl} {e : SD} : seqK (.ok .bk e) b = .ok .bk e := rfl
theorem k_seqc {b : SD → R Fl} {e : SD} : seqK (.ok .ct e) b = .ok .ct e := rfl
theorem k_snil {env : SD} : sNil env = .ok .nx env := rfl
theorem k_brk {env : SD} : sBrk env = .ok .bk env := rfl
theorem k_cnt {env : SD} : sCnt env = .ok .ct env := rfl
theorem k_retN {env : SD} : sRetN env = .ok (.rt .non) env := rfl
def exprK (r : R D) : R Fl := r.bind fun _ e => .ok .nx e
theorem k_expr {a : SD → R D} {env : SD} : sExpr a env = exprK (a env) := rfl
theorem k_expr1 {d : D} {e : SD} : exprK (.ok d e) = .ok .nx e := rfl
def retK (r : R D) : R Fl := r.bind fun d e => .ok (.rt d) e
theorem k_ret {a : SD → R D} {env : SD} : sRet a env = retK (a env) := rfl
theorem k_ret1 {d : D} {e : SD} : retK (.ok d e) = .ok (.rt d) e := rfl
def ifK (r : R Bool) (a b : SD → R Fl) : R Fl := r.bind fun x e => if x = true then a e else b e
theorem k_if {c : SD → R Bool} {a b : SD → R Fl} {env : SD} : sIf c a b env = ifK (c env) a b := rfl
theorem k_if1 {x : Bool} {a b : SD → R Fl} {e : SD} : ifK (.ok x e) a b = if x = true then a e else b e := rfl
def setK (i : Nat) (r : R D) : R Fl := r.bind fun d e => put i d e
theorem k_set {i : Nat} {a : SD → R D} {env : SD} : sSet i a env = setK i (a env) := rfl
theorem k_set1 {i : Nat} {d : D} {e : SD} : setK i (.ok d e) = if i < e.length then .ok .nx (e.set i (some d)) else .bad := rfl
def augK (o : Option (Option D)) (i : Nat) (g : D → D → Option D) (ev : SD → R D) (env : SD) : R Fl := match o with
  | some (some x) => if isImm x = true then (ev env).bind fun y e => (R.opt (g x y) e).bind fun z e' => put i z e' else .bad
  | _ => .bad
def augK2 (x : D) (i : Nat) (g : D → D → Option D) (r : R D) : R Fl := r.bind fun y e => (R.opt (g x y) e).bind fun z e' => put i z e'
theorem k_aug {i : Nat} {g : D → D → Option D} {ev : SD → R D} {env : SD} : sAug i g ev env = augK env[i]? i g ev env := rfl
theorem k_aug1 {x : D} {i : Nat} {g : D → D → Option D} {ev : SD → R D} {env : SD} : augK (some (some x)) i g ev env = if isImm x = true then augK2 x i g (ev env) else .bad := rfl
theorem k_aug2 {x y : D} {i : Nat} {g : D → D → Option D} {e : SD} : augK2 x i g (.ok y e) = setK i (R.opt (g x y) e) := rfl
def asgK (g : D → SD → Option SD) (r : R D) : R Fl := r.bind fun d e => if isImm d = true then (R.opt (g d e) e).bind fun e' _ => .ok .nx e' else .bad
def asg2 (o : Option SD) : R Fl := match o with
  | some e => .ok .nx e
  | none => .bad
theorem k_asg {g : D → SD → Option SD} {a : SD → R D} {env : SD} : sAsg g a env = asgK g (a env) := rfl
theorem k_asg1 {g : D → SD → Option SD} {d : D} {e : SD} : asgK g (.ok d e) = if isImm d = true then asg2 (g d e) else .bad := by
  unfold asgK asg2
  simp only [R.bind_ok]
  by_cases h : isImm d = true
  · rw [if_pos h, if_pos h]
    cases g d e <;> rfl
  · rw [if_neg h, if_neg h]
theorem k_asg2 {e : SD} : asg2 (some e) = .ok .nx e := rfl
def parK (i j : Nat) (r : R (List D)) : R Fl := r.bind fun ds e => match ds with
  | [x, y] => if isImm x = true ∧ isImm y = true ∧ i < e.length ∧ j < e.length then .ok .nx ((e.set i (some x)).set j (some y)) else .bad
  | _ => .bad
theorem k_par {i j : Nat} {a : SD → R (List D)} {env : SD} : sPar i j a env = parK i j (a env) := rfl
theorem k_par1 {i j : Nat} {x y : D} {e : SD} : parK i j (.ok [x, y] e) = if isImm x = true ∧ isImm y = true ∧ i < e.length ∧ j < e.length then .ok .nx ((e.set i (some x)).set j (some y)) else .bad := rfl
/-! ### targets -/
theorem k_gtName {i : Nat} {d : D} {e : SD} : gtName i d e = if i < e.length then some (e.set i (some d)) else none := rfl
def gtK (o : Option SD) (r : List D → SD → Option SD) (ds : List D) : Option SD := o.bind fun e => r ds e
theorem k_gtNil {e : SD} : gtNil [] e = some e := rfl
theorem k_gtCons {g : D → SD → Option SD} {r : List D → SD → Option SD} {d : D} {ds : List D} {e : SD} : gtCons g r (d :: ds) e = gtK (g d e) r ds := rfl
theorem k_gtK {e : SD} {r : List D → SD → Option SD} {ds : List D} : gtK (some e) r ds = r ds e := rfl
theorem k_gtTup {n : Nat} {r : List D → SD → Option SD} {ds : List D} {e : SD} : gtTup n r (.tup ds) e = if ds.length = n then r ds e else none := rfl
def stK (s : Nat) (d : D) (e : SD) (r : R D) : Option SD := match r with
  | .ok di _ => (match e[s]? with
    | some (some x) => (setD x d di).map fun x' => e.set s (some x')
    | _ => none)
  | _ => none
def stK2 (s : Nat) (d di : D) (e : SD) (o : Option (Option D)) : Option SD := match o with
  | some (some x) => (setD x d di).map fun x' => e.set s (some x')
  | _ => none
theorem k_gtSet {s : Nat} {evi : SD → R D} {d : D} {e : SD} : gtSet s evi d e = stK s d e (evi e) := rfl
theorem k_gtSet1 {s : Nat} {d di : D} {e e' : SD} : stK s d e (.ok di e') = stK2 s d di e e[s]? := rfl
theorem k_gtSet2 {s : Nat} {d di x : D} {e : SD} : stK2 s d di e (some (some x)) = (setD x d di).map fun x' => e.set s (some x') := rfl
/-! ### calls -/
def callK (np : Nat) (fn : List D → R D) (r : R (List D)) : R D := r.bind fun ds e => if ds.length = np then (match fn (ros ds) with
  | .ok d _ => .ok d e
  | _ => .bad) else .bad
def callK2 (e : SD) (r : R D) : R D := match r with
  | .ok d _ => .ok d e
  | _ => .bad
theorem k_call {np : Nat} {fn : List D → R D} {a : SD → R (List D)} {env : SD} : eCall np fn a env = callK np fn (a env) := rfl
theorem k_call1 {np : Nat} {fn : List D → R D} {ds : List D} {e : SD} : callK np fn (.ok ds e) = if ds.length = np then callK2 e (fn (ros ds)) else .bad := rfl
theorem k_call2 {d : D} {e e' : SD} : callK2 e (.ok d e') = .ok d e := rfl
theorem k_apNil {env : SD} : apNil env = .ok [] env := rfl
def apK (r : R D) (b : SD → R (List (Option D))) : R (List (Option D)) := r.bind fun x e1 => if isImm x = true then (b e1).bind fun xs e2 => .ok (some x :: xs) e2 else .bad
def apK2 (o : Option D) (r : R (List (Option D))) : R (List (Option D)) := r.bind fun xs e2 => .ok (o :: xs) e2
theorem k_apVal {a : SD → R D} {b : SD → R (List (Option D))} {env : SD} : apVal a b env = apK (a env) b := rfl
theorem k_apVal1 {x : D} {b : SD → R (List (Option D))} {e : SD} : apK (.ok x e) b = if isImm x = true then apK2 (some x) (b e) else .bad := rfl
theorem k_ap2 {o : Option D} {xs : List (Option D)} {e : SD} : apK2 o (.ok xs e) = .ok (o :: xs) e := rfl
def apPK (r : R D) (b : SD → R (List (Option D))) : R (List (Option D)) := r.bind fun _ e1 => (b e1).bind fun xs e2 => .ok (none :: xs) e2
theorem k_apPlc {s : Nat} {b : SD → R (List (Option D))} {env : SD} : apPlc s b env = apPK (eVar s env) b := rfl
theorem k_apPlc1 {x : D} {b : SD → R (List (Option D))} {e : SD} : apPK (.ok x e) b = apK2 none (b e) := rfl
def cpK (np s : Nat) (fn : List D → R D) (r : R (List (Option D))) : R D := r.bind fun ods e => match e[s]? with
  | some (some x) => if noBor x = true ∧ ods.length = np then (match fn (ods.map (·.getD x)) with
    | .ok d [some x'] => if noBor x' = true then .ok d (e.set s (some x')) else .bad
    | _ => .bad) else .bad
  | _ => .bad
def cpK2 (np s : Nat) (fn : List D → R D) (ods : List (Option D)) (e : SD) (o : Option (Option D)) : R D := match o with
  | some (some x) => if noBor x = true ∧ ods.length = np then (match fn (ods.map (·.getD x)) with
    | .ok d [some x'] => if noBor x' = true then .ok d (e.set s (some x')) else .bad
    | _ => .bad) else .bad
  | _ => .bad
def cpK3 (s : Nat) (e : SD) (r : R D) : R D := match r with
    | .ok d [some x'] => if noBor x' = true then .ok d (e.set s (some x')) else .bad
    | _ => .bad
theorem k_callP {np s : Nat} {fn : List D → R D} {a : SD → R (List (Option D))} {env : SD} : eCallP np s fn a env = cpK np s fn (a env) := rfl
theorem k_callP1 {np s : Nat} {fn : List D → R D} {ods : List (Option D)} {e : SD} : cpK np s fn (.ok ods e) = cpK2 np s fn ods e e[s]? := rfl
theorem k_callP2 {np s : Nat} {fn : List D → R D} {ods : List (Option D)} {e : SD} {x : D} : cpK2 np s fn ods e (some (some x)) = if noBor x = true ∧ ods.length = np then cpK3 s e (fn (ods.map (·.getD x))) else .bad := rfl
theorem k_callP3 {s : Nat} {e : SD} {d x' : D} : cpK3 s e (.ok d [some x']) = if noBor x' = true then .ok d (e.set s (some x')) else .bad := rfl
def runK (pins : List Nat) (r : R Fl) : R D := match r with
  | .ok (.rt d) e => if noBor d = true then .ok d (outsOf pins e) else .bad
  | .ok .nx e => .ok .non (outsOf pins e)
  | .ok _ _ => .bad
  | .exc c e => .exc c (outsOf pins e)
  | .bad => .bad
theorem k_run {n : Nat} {pins : List Nat} {body : SD → R Fl} {args : List D} : runFn n pins body args = runK pins (body (args.map some ++ List.replicate (n - args.length) none)) := rfl
theorem k_run1 {pins : List Nat} {d : D} {e : SD} : runK pins (.ok (.rt d) e) = if noBor d = true then .ok d (outsOf pins e) else .bad := rfl
theorem k_run2 {pins : List Nat} {e : SD} : runK pins (.ok .nx e) = .ok .non (outsOf pins e) := rfl
theorem ens_runK {pins : List Nat} {r : R Fl} {Q : D → SD → Prop} (h : Ens r fun fl e => match fl with
    | .rt d => noBor d = true ∧ Q d (outsOf pins e)
    | .nx => Q .non (outsOf pins e)
    | _ => False) : Ens (runK pins r) Q := by
  cases r with
  | bad => exact h.elim
  | exc c e => exact h.elim
  | ok fl e =>
    cases fl with
    | nx => exact h
    | rt d => show hold (if noBor d = true then R.ok d (outsOf pins e) else R.bad) _ _; rw [if_pos h.1]; exact h.2
    | bk => exact h.elim
    | ct => exact h.elim
theorem ens_seqK {r : R Fl} {b : SD → R Fl} {Q : Fl → SD → Prop} (h : Ens r fun fl e => match fl with
    | .nx => Ens (b e) Q
    | fl => Q fl e) : Ens (seqK r b) Q := by
  cases r with
  | bad => exact h.elim
  | exc c e => exact h.elim
  | ok fl e => cases fl <;> exact h
/-! ### methods -/
def mtK (o : Option (Option D)) (s : Nat) (ch : List D → List D → Option (D × List D)) (ev : SD → R (List D)) (env : SD) : R D := match o with
  | some (some d0) => if isLst d0 = true then (ev env).bind fun ds e => match e[s]? with
    | some (some (.lst .own xs)) => if isImms xs = true then (match ch xs ds with
      | some (r, ys) => if isImm r = true then .ok r (e.set s (some (.lst .own ys))) else .bad
      | none => .bad) else .bad
    | _ => .bad else .bad
  | _ => .bad
def mtK2 (s : Nat) (ch : List D → List D → Option (D × List D)) (r : R (List D)) : R D := r.bind fun ds e => match e[s]? with
    | some (some (.lst .own xs)) => if isImms xs = true then (match ch xs ds with
      | some (r, ys) => if isImm r = true then .ok r (e.set s (some (.lst .own ys))) else .bad
      | none => .bad) else .bad
    | _ => .bad
def mtK3 (o : Option (Option D)) (s : Nat) (ch : List D → List D → Option (D × List D)) (ds : List D) (e : SD) : R D := match o with
    | some (some (.lst .own xs)) => if isImms xs = true then (match ch xs ds with
      | some (r, ys) => if isImm r = true then .ok r (e.set s (some (.lst .own ys))) else .bad
      | none => .bad) else .bad
    | _ => .bad
def mtK4 (o : Option (D × List D)) (s : Nat) (e : SD) : R D := match o with
      | some (r, ys) => if isImm r = true then .ok r (e.set s (some (.lst .own ys))) else .bad
      | none => .bad
theorem k_mt {s : Nat} {ch : List D → List D → Option (D × List D)} {ev : SD → R (List D)} {env : SD} : eMt s ch ev env = mtK env[s]? s ch ev env := by
  unfold eMt mtK eVar
  cases env[s]? with
  | none => rfl
  | some o => cases o <;> rfl
theorem k_mt1 {m : Md} {xs : List D} {s : Nat} {ch : List D → List D → Option (D × List D)} {ev : SD → R (List D)} {env : SD} : mtK (some (some (.lst m xs))) s ch ev env = mtK2 s ch (ev env) := rfl
theorem k_mt2 {s : Nat} {ch : List D → List D → Option (D × List D)} {ds : List D} {e : SD} : mtK2 s ch (.ok ds e) = mtK3 e[s]? s ch ds e := rfl
theorem k_mt3 {xs : List D} {s : Nat} {ch : List D → List D → Option (D × List D)} {ds : List D} {e : SD} : mtK3 (some (some (.lst .own xs))) s ch ds e = if isImms xs = true then mtK4 (ch xs ds) s e else .bad := rfl
theorem k_mt4 {r : D} {ys : List D} {s : Nat} {e : SD} : mtK4 (some (r, ys)) s e = if isImm r = true then .ok r (e.set s (some (.lst .own ys))) else .bad := rfl
theorem k_app {xs : List D} {d : D} : chApp xs [d] = if isImm d = true ∧ xs.length < sizeLine then some (.non, xs ++ [d]) else none := rfl
/-! ### walks -/
def seqIK (r : R D) : R (List D) := r.bind fun d e => R.opt (anyOf d) e
theorem k_itSeq {a : SD → R D} {env : SD} : itSeq a env = seqIK (a env) := rfl
theorem k_itSeq1 {d : D} {e : SD} : seqIK (.ok d e) = R.opt (anyOf d) e := rfl
def enumK (r : R D) : R (List D) := r.bind fun d e => R.opt ((sqOf d).map enumD) e
theorem k_itEnum {a : SD → R D} {env : SD} : itEnumS a env = enumK (a env) := rfl
theorem k_itEnum1 {d : D} {e : SD} : enumK (.ok d e) = R.opt ((sqOf d).map enumD) e := rfl
def r1K (r : R D) : R (List D) := r.bind fun d e => match d with
  | .int j => if -(2 ^ 62) ≤ j ∧ j < 2 ^ 62 then .ok (rangeD 0 j.toNat) e else .bad
  | _ => .bad
theorem k_itR1 {a : SD → R D} {env : SD} : itR1 a env = r1K (a env) := rfl
theorem k_itR11 {j : Int} {e : SD} : r1K (.ok (.int j) e) = if -(2 ^ 62) ≤ j ∧ j < 2 ^ 62 then .ok (rangeD 0 j.toNat) e else .bad := rfl
def r2K (r : R (List D)) : R (List D) := r.bind fun d e => match d with
  | [.int i, .int j] => if -(2 ^ 62) ≤ i ∧ i < 2 ^ 62 ∧ -(2 ^ 62) ≤ j ∧ j < 2 ^ 62 then .ok (rangeD i (j - i).toNat) e else .bad
  | _ => .bad
theorem k_itR2 {a : SD → R (List D)} {env : SD} : itR2 a env = r2K (a env) := rfl
theorem k_itR21 {i j : Int} {e : SD} : r2K (.ok [.int i, .int j] e) = if -(2 ^ 62) ≤ i ∧ i < 2 ^ 62 ∧ -(2 ^ 62) ≤ j ∧ j < 2 ^ 62 then .ok (rangeD i (j - i).toNat) e else .bad := rfl
def forK (g : D → SD → Option SD) (body : SD → R Fl) (r : R (List D)) : R Fl := r.bind fun ds e => forL g body ds e
theorem k_for {it : SD → R (List D)} {g : D → SD → Option SD} {body : SD → R Fl} {env : SD} : sFor it g body env = forK g body (it env) := rfl
theorem k_for1 {g : D → SD → Option SD} {body : SD → R Fl} {ds : List D} {e : SD} : forK g body (.ok ds e) = forL g body ds e := rfl
/-- a for loop by an invariant -/
theorem ens_forL {g : D → SD → Option SD} {body : SD → R Fl} {Q : Fl → SD → Prop} (ds : List D) (I : Nat → SD → Prop) {env : SD} (h0 : I 0 env)
    (step : ∀ k d e, ds[k]? = some d → I k e → ∃ e1, g d e = some e1 ∧ Ens (body e1) (fun fl e2 => match fl with
      | .nx => I (k + 1) e2
      | .ct => I (k + 1) e2
      | .bk => Q .nx e2
      | .rt v => Q (.rt v) e2)) (fin : ∀ e, I ds.length e → Q .nx e) : Ens (forL g body ds env) Q := by
  have main : ∀ (r : List D) (k : Nat) (e : SD), ds.drop k = r → k ≤ ds.length → I k e → Ens (forL g body r e) Q := by
    intro r
    induction r with
    | nil =>
      intro k e hr hk hi
      have : k = ds.length := by
        have := congrArg List.length hr
        rw [List.length_drop] at this
        simp at this
        omega
      subst this
      exact fin e hi
    | cons d r ih =>
      intro k e hr hk hi
      have hd : ds[k]? = some d := by
        have := congrArg (fun l => l[0]?) hr
        simpa [List.getElem?_drop] using this
      obtain ⟨e1, hg, hb⟩ := step k d e hd hi
      have hlt : k < ds.length := (List.getElem?_eq_some_iff.mp hd).1
      have hr' : ds.drop (k + 1) = r := by
        have := List.drop_eq_getElem_cons hlt
        rw [hr] at this
        exact (List.cons.inj this).2.symm
      show Ens ((R.opt (g d e) e).bind fun e1 _ => (body e1).bind fun fl e2 => match fl with
        | .nx => forL g body r e2
        | .ct => forL g body r e2
        | .bk => .ok .nx e2
        | .rt v => .ok (.rt v) e2) Q
      rw [hg]
      simp only [R.opt_some, R.bind_ok]
      rw [ens_bind]
      refine ens_mono hb fun fl e2 q => ?_
      cases fl with
      | nx => exact ih (k + 1) e2 hr' hlt q
      | ct => exact ih (k + 1) e2 hr' hlt q
      | bk => exact q
      | rt v => exact q
  exact main ds 0 env rfl (Nat.zero_le _) h0
/-- a while loop by an invariant and a number that falls -/
theorem ens_while {c : SD → R Bool} {body : SD → R Fl} {Q : Fl → SD → Prop} (I : Nat → SD → Prop) {env : SD} (n : Nat) (h0 : I n env)
    (step : ∀ n e, I n e → Ens (c e) fun t e1 => if t = true then Ens (body e1) (fun fl e2 => match fl with
      | .nx => ∃ m, m < n ∧ I m e2
      | .ct => ∃ m, m < n ∧ I m e2
      | .bk => Q .nx e2
      | .rt v => Q (.rt v) e2) else Q .nx e1) : Ens (sWhile c body env) Q := by
  induction n using Nat.strongRecOn generalizing env with
  | _ n ih =>
    rw [sWhile_step, ens_bind]
    refine ens_mono (step n env h0) fun t e1 q => ?_
    cases t with
    | false => exact q
    | true =>
      simp only [if_true] at q ⊢
      rw [ens_bind]
      refine ens_mono q fun fl e2 q2 => ?_
      cases fl with
      | nx => obtain ⟨m, hm, hi⟩ := q2; exact ih m hm hi
      | ct => obtain ⟨m, hm, hi⟩ := q2; exact ih m hm hi
      | bk => exact q2
      | rt v => exact q2
end Vs

namespace Vs
open PySem L2
/-! ### what can't be written; no loans -/
theorem m_non : isImm .non = true := rfl
theorem m_bl {b : Bool} : isImm (.bl b) = true := rfl
theorem m_int {i : Int} : isImm (.int i) = true := rfl
theorem m_str {x : Str} : isImm (.str x) = true := rfl
theorem m_tup {xs : List D} : isImm (.tup xs) = isImms xs := rfl
theorem m_limm {xs : List D} : isImm (.lst .imm xs) = isImms xs := rfl
theorem m_lown {xs : List D} : isImm (.lst .own xs) = false := rfl
theorem m_lbor {xs : List D} : isImm (.lst .bor xs) = false := rfl
theorem m_nil : isImms [] = true := rfl
theorem m_cons {x : D} {xs : List D} : isImms (x :: xs) = (isImm x && isImms xs) := rfl
theorem m_app {xs ys : List D} : isImms (xs ++ ys) = (isImms xs && isImms ys) := by
  induction xs with
  | nil => rfl
  | cons x xs ih => rw [List.cons_append, m_cons, m_cons, ih, Bool.and_assoc]
theorem m_ints {α : Type} {f : α → Int} {ns : List α} : isImms (ns.map fun n => .int (f n)) = true := by
  induction ns with
  | nil => rfl
  | cons n ns ih => rw [List.map_cons, m_cons, ih]; rfl
theorem m_int' {ns : List Int} : isImms (ns.map D.int) = true := m_ints (f := id)
theorem m_strs {α : Type} {f : α → Str} {ns : List α} : isImms (ns.map fun n => .str (f n)) = true := by
  induction ns with
  | nil => rfl
  | cons n ns ih => rw [List.map_cons, m_cons, ih]; rfl
theorem m_str' {ns : List Str} : isImms (ns.map D.str) = true := m_strs (f := id)
theorem n_int {i : Int} : noBor (.int i) = true := rfl
theorem n_non : noBor .non = true := rfl
theorem n_bl {b : Bool} : noBor (.bl b) = true := rfl
theorem n_str {x : Str} : noBor (.str x) = true := rfl
theorem n_tup {xs : List D} : noBor (.tup xs) = noBors xs := rfl
theorem n_lown {xs : List D} : noBor (.lst .own xs) = noBors xs := rfl
theorem n_limm {xs : List D} : noBor (.lst .imm xs) = noBors xs := rfl
theorem n_nil : noBors [] = true := rfl
theorem n_cons {x : D} {xs : List D} : noBors (x :: xs) = (noBor x && noBors xs) := rfl
theorem n_app {xs ys : List D} : noBors (xs ++ ys) = (noBors xs && noBors ys) := by
  induction xs with
  | nil => rfl
  | cons x xs ih => rw [List.cons_append, n_cons, n_cons, ih, Bool.and_assoc]
theorem n_int' {ns : List Int} : noBors (ns.map D.int) = true := noBors_imm m_int'
theorem n_str' {ns : List Str} : noBors (ns.map D.str) = true := noBors_imm m_str'
theorem n_dic {kvs : List (Key × D)} : noBor (.dic .own kvs) = noBork kvs := rfl
/-! ### read alone -/
theorem r_nil : ros [] = [] := rfl
theorem r_cons {x : D} {xs : List D} : ros (x :: xs) = ro x :: ros xs := rfl
theorem r_int {i : Int} : ro (.int i) = .int i := rfl
theorem r_str {x : Str} : ro (.str x) = .str x := rfl
theorem r_non : ro .non = .non := rfl
theorem r_bl {b : Bool} : ro (.bl b) = .bl b := rfl
theorem r_tup {xs : List D} : ro (.tup xs) = .tup (ros xs) := rfl
theorem r_lown {xs : List D} : ro (.lst .own xs) = .lst .bor (ros xs) := rfl
theorem r_limm {xs : List D} : ro (.lst .imm xs) = .lst .imm (ros xs) := rfl
theorem r_lbor {xs : List D} : ro (.lst .bor xs) = .lst .bor (ros xs) := rfl
theorem r_int' {ns : List Int} : ros (ns.map D.int) = ns.map D.int := ros_imm m_int'
theorem r_str' {ns : List Str} : ros (ns.map D.str) = ns.map D.str := ros_imm m_str'
/-! ### items -/
def ixK : Option D → Option D
  | some d => if isImm d = true then some d else none
  | none => none
theorem g_ixl {m : Md} {xs : List D} {i : Int} : gIxU (.lst m xs) (.int i) = ixK (atI xs i) := rfl
theorem g_ixt {xs : List D} {i : Int} : gIxU (.tup xs) (.int i) = ixK (atI xs i) := rfl
theorem g_ixs {z : Str} {i : Int} : gIxU (.str z) (.int i) = if z.length ≤ sizeLine then (atI z.cps.toList i).map fun c => .str ⟨#[c]⟩ else none := rfl
theorem g_ixd {m : Md} {kvs : List (Key × D)} {y : D} : gIxU (.dic m kvs) y = (keyOf y).bind fun k => (dval kvs k).bind fun d => if isImm d = true then some d else none := rfl
theorem g_ixk {d : D} : ixK (some d) = if isImm d = true then some d else none := rfl
theorem at_nat {α : Type} {xs : List α} {n : Nat} {i : Int} (h : i = (n : Int)) : atI xs i = xs[n]? := by
  subst h
  unfold atI ixN
  rw [if_pos (by omega)]
  by_cases hl : (n : Int) < xs.length
  · rw [if_pos hl]; simp
  · rw [if_neg hl]
    have : xs.length ≤ n := by omega
    rw [List.getElem?_eq_none this]; rfl
theorem at_get {α : Type} {xs : List α} {i : Int} (h0 : 0 ≤ i) : atI xs i = xs[i.toNat]? := at_nat (by omega)
theorem at0 {α : Type} {a : α} {l : List α} : atI (a :: l) 0 = some a := at_nat (n := 0) rfl
theorem at1 {α : Type} {a b : α} {l : List α} : atI (a :: b :: l) 1 = some b := at_nat (n := 1) rfl
theorem at2 {α : Type} {a b c : α} {l : List α} : atI (a :: b :: c :: l) 2 = some c := at_nat (n := 2) rfl
theorem at3 {α : Type} {a b c d : α} {l : List α} : atI (a :: b :: c :: d :: l) 3 = some d := at_nat (n := 3) rfl
theorem at4 {α : Type} {a b c d e : α} {l : List α} : atI (a :: b :: c :: d :: e :: l) 4 = some e := at_nat (n := 4) rfl
theorem ixN_nat {n k : Nat} {i : Int} (h : i = (k : Int)) (hk : k < n) : ixN n i = some k := by
  subst h
  unfold ixN
  rw [if_pos (by omega), if_pos (by omega)]; simp
theorem set_get {xs : List D} {d : D} {k : Nat} {i : Int} (h : i = (k : Int)) : setD (.lst .own xs) d (.int i) = (xs[k]?).bind fun old => if isImm old = true then some (.lst .own (xs.set k d)) else none := by
  show ((ixN xs.length i).bind fun j => (xs[j]?).bind fun old => if isImm old = true then some (D.lst .own (xs.set j d)) else none) = _
  by_cases hk : k < xs.length
  · rw [ixN_nat h hk]; rfl
  · have : xs.length ≤ k := by omega
    rw [List.getElem?_eq_none this]
    have : ixN xs.length i = none := by
      subst h
      unfold ixN
      rw [if_pos (by omega), if_neg (by omega)]
    rw [this]; rfl
def stItK (o : Option D) (x : D) : Option D := o.bind fun old => if isImm old = true then some x else none
theorem st0 {a d : D} {l : List D} : setD (.lst .own (a :: l)) d (.int 0) = if isImm a = true then some (.lst .own (d :: l)) else none := set_get (k := 0) rfl
theorem st1 {a b d : D} {l : List D} : setD (.lst .own (a :: b :: l)) d (.int 1) = if isImm b = true then some (.lst .own (a :: d :: l)) else none := set_get (k := 1) rfl
theorem st2 {a b c d : D} {l : List D} : setD (.lst .own (a :: b :: c :: l)) d (.int 2) = if isImm c = true then some (.lst .own (a :: b :: d :: l)) else none := set_get (k := 2) rfl
theorem st3 {a b c e d : D} {l : List D} : setD (.lst .own (a :: b :: c :: e :: l)) d (.int 3) = if isImm e = true then some (.lst .own (a :: b :: c :: d :: l)) else none := set_get (k := 3) rfl
theorem st4 {a b c e f d : D} {l : List D} : setD (.lst .own (a :: b :: c :: e :: f :: l)) d (.int 4) = if isImm f = true then some (.lst .own (a :: b :: c :: e :: d :: l)) else none := set_get (k := 4) rfl
/-! ### numbers -/
theorem g_addi {i j : Int} : gAdd (.int i) (.int j) = some (.int (i + j)) := rfl
theorem g_i2 {f : Int → Int → Int} {i j : Int} : gI2 f (.int i) (.int j) = some (.int (f i j)) := rfl
theorem g_mod {i j : Int} (h : 0 < j) : gMod (.int i) (.int j) = some (.int (i % j)) := if_pos h
theorem log2_lt {n k : Nat} (h : n < 2 ^ k) (hk : 0 < k) : n.log2 < k := by
  by_cases h0 : n = 0
  · subst h0; simpa using hk
  · exact (Nat.log2_lt h0).mpr h
theorem g_div {i j : Int} (h : 0 < j) (h2 : j < 2 ^ 9000) : gDiv (.int i) (.int j) = some (.int (i / j)) := by
  unfold gDiv
  simp only
  rw [if_pos]
  refine ⟨h, log2_lt ?_ (by decide)⟩
  have : (j.natAbs : Int) = j := by omega
  have h3 : ((j.natAbs : Nat) : Int) < ((2 ^ 9000 : Nat) : Int) := by
    rw [this]
    exact_mod_cast h2
  exact_mod_cast h3
theorem g_divs {i j : Int} (h : 0 < j) (h2 : j < 2147483648) : gDiv (.int i) (.int j) = some (.int (i / j)) := by
  unfold gDiv
  simp only
  rw [if_pos]
  refine ⟨h, Nat.lt_trans (log2_lt (k := 31) ?_ (by decide)) (by decide)⟩
  omega
theorem g_mull {i j : Int} (h : -18446744073709551616 < i) (h2 : i < 18446744073709551616) : gMul1 (.int i) (.int j) = some (.int (i * j)) := by
  unfold gMul1
  simp only
  rw [if_pos]
  exact .inl (.inl ⟨h, h2⟩)
theorem g_mulr {i j : Int} (h : -18446744073709551616 < j) (h2 : j < 18446744073709551616) : gMul1 (.int i) (.int j) = some (.int (i * j)) := by
  unfold gMul1
  simp only
  rw [if_pos]
  exact .inl (.inr ⟨h, h2⟩)
theorem g_abs {i : Int} : gAbs (.int i) = some (.int (if i < 0 then -i else i)) := rfl
theorem g_neg {i : Int} : gNeg (.int i) = some (.int (-i)) := rfl
theorem g_max2 {i j : Int} : gMax2 (.int i) (.int j) = some (.int (if j > i then j else i)) := rfl
theorem g_min2 {i j : Int} : gMin2 (.int i) (.int j) = some (.int (if j < i then j else i)) := rfl
theorem g_inti {i : Int} : gInt (.int i) = some (.int i) := rfl
theorem g_intb {b : Bool} : gInt (.bl b) = some (.int (if b then 1 else 0)) := rfl
theorem g_gt {i j : Int} : gGt (.int i) (.int j) = some (.bl (decide (j < i))) := rfl
theorem g_lt {i j : Int} : gLt (.int i) (.int j) = some (.bl (decide (i < j))) := rfl
theorem g_ge {i j : Int} : gGe (.int i) (.int j) = some (.bl (decide (j ≤ i))) := rfl
theorem g_le {i j : Int} : gLe (.int i) (.int j) = some (.bl (decide (i ≤ j))) := rfl
theorem g_ltS {i j : Str} : gLt (.str i) (.str j) = some (.bl (decide (i.cps.toList < j.cps.toList))) := rfl
theorem g_lenl {m : Md} {xs : List D} : gLen (.lst m xs) = some (.int (xs.length : Nat)) := rfl
theorem g_lent {xs : List D} : gLen (.tup xs) = some (.int (xs.length : Nat)) := rfl
theorem g_lens {z : Str} : gLen (.str z) = if z.length ≤ sizeLine then some (.int (z.length : Nat)) else none := rfl
theorem g_lst {xs : List D} : gLst xs = if isImms xs = true ∧ xs.length ≤ sizeLine then some (.lst .own xs) else none := rfl
theorem g_tup {xs : List D} : gTup xs = if isImms xs = true ∧ xs.length ≤ sizeLine then some (.tup xs) else none := rfl
theorem g_listl {m : Md} {xs : List D} : gList (.lst m xs) = if isImms xs = true then some (.lst .own xs) else none := rfl
theorem g_listt {xs : List D} : gList (.tup xs) = if isImms xs = true then some (.lst .own xs) else none := rfl
theorem g_tupl {m : Md} {xs : List D} : gTuple (.lst m xs) = if isImms xs = true then some (.tup xs) else none := rfl
theorem g_tupt {xs : List D} : gTuple (.tup xs) = if isImms xs = true then some (.tup xs) else none := rfl
theorem g_addS {a b : Str} : gAdd (.str a) (.str b) = if a.length + b.length ≤ sizeLine then some (.str (a ++ b)) else none := rfl
theorem g_addT {a b : List D} : gAdd (.tup a) (.tup b) = if a.length + b.length ≤ sizeLine then some (.tup (a ++ b)) else none := rfl
theorem g_addL {m n : Md} {a b : List D} : gAdd (.lst m a) (.lst n b) = if isImms a = true ∧ isImms b = true ∧ a.length + b.length ≤ sizeLine then some (.lst .own (a ++ b)) else none := rfl
theorem g_pow18 : gPow (.int 10) (.int 18) = some (.int 1000000000000000000) := by
  show (if (0 : Int) ≤ 18 ∧ (18 : Int) ≤ 1000000 ∧ (10 : Int).natAbs < 2 ^ 64 then some (D.int (10 ^ (18 : Int).toNat)) else none) = _
  rw [if_pos (by decide)]
  rfl
theorem size_le {n : Nat} (h : n ≤ 100000) : n ≤ sizeLine := Nat.le_trans h (by decide)
theorem size_lt {n : Nat} (h : n < 100000) : n < sizeLine := Nat.lt_of_lt_of_le h (by decide)
theorem g_mapInt {ns : List Int} {n : Nat} : (ns.map D.int)[n]? = (ns[n]?).map D.int := List.getElem?_map
/-- several calls in a row -/
theorem ens_ret {α : Type} {r : R α} {Q : α → SD → Prop} (h : ∃ a e, r = .ok a e ∧ Q a e) : Ens r Q := by
  obtain ⟨a, e, rfl, q⟩ := h
  exact q
end Vs

namespace Vs
open PySem L2
theorem sz0 : (0 ≤ sizeLine) = True := eq_true (by decide)
theorem sz1 : (1 ≤ sizeLine) = True := eq_true (by decide)
theorem sz2 : (2 ≤ sizeLine) = True := eq_true (by decide)
theorem sz3 : (3 ≤ sizeLine) = True := eq_true (by decide)
theorem sz4 : (4 ≤ sizeLine) = True := eq_true (by decide)
theorem sz5 : (5 ≤ sizeLine) = True := eq_true (by decide)
theorem sz6 : (6 ≤ sizeLine) = True := eq_true (by decide)
theorem sz7 : (7 ≤ sizeLine) = True := eq_true (by decide)
theorem sz8 : (8 ≤ sizeLine) = True := eq_true (by decide)
theorem sz9 : (9 ≤ sizeLine) = True := eq_true (by decide)
theorem sz10 : (10 ≤ sizeLine) = True := eq_true (by decide)
theorem sz11 : (11 ≤ sizeLine) = True := eq_true (by decide)
/-! ### equality -/
theorem eq_str {a b : Str} : eqD (.str a) (.str b) = decide (a = b) := by
  show PyData.eqv (.str a) (.str b) = _
  unfold PyData.eqv
  by_cases h : a = b <;> simp [h]
theorem eq_int {a b : Int} : eqD (.int a) (.int b) = decide (a = b) := by
  show PyData.eqv (.int a) (.int b) = _
  unfold PyData.eqv
  by_cases h : a = b <;> simp [h]
theorem eq_bl {a b : Bool} : eqD (.bl a) (.bl b) = decide (a = b) := by
  show PyData.eqv (.bool a) (.bool b) = _
  unfold PyData.eqv
  cases a <;> cases b <;> rfl
theorem ne_bl {a b : Bool} : gNe (.bl a) (.bl b) = some (.bl (!decide (a = b))) := by
  show (if (strs2 (.bl a) (.bl b) || (dOk 60 (.bl a) && dOk 60 (.bl b))) = true then some (D.bl (!eqD (.bl a) (.bl b))) else none) = _
  rw [eq_bl, if_pos (by rfl)]
theorem ge_int {a b : Int} : gEq (.int a) (.int b) = some (.bl (decide (a = b))) := by
  show (if (strs2 (.int a) (.int b) || (dOk 60 (.int a) && dOk 60 (.int b))) = true then some (D.bl (eqD (.int a) (.int b))) else none) = _
  rw [eq_int, if_pos (by rfl)]
theorem ne_int {a b : Int} : gNe (.int a) (.int b) = some (.bl (!decide (a = b))) := by
  show (if (strs2 (.int a) (.int b) || (dOk 60 (.int a) && dOk 60 (.int b))) = true then some (D.bl (!eqD (.int a) (.int b))) else none) = _
  rw [eq_int, if_pos (by rfl)]
theorem ge_str {a b : Str} : gEq (.str a) (.str b) = some (.bl (decide (a = b))) := by
  show (if (strs2 (.str a) (.str b) || (dOk 60 (.str a) && dOk 60 (.str b))) = true then some (D.bl (eqD (.str a) (.str b))) else none) = _
  rw [eq_str, if_pos (by rfl)]
theorem ne_str {a b : Str} : gNe (.str a) (.str b) = some (.bl (!decide (a = b))) := by
  show (if (strs2 (.str a) (.str b) || (dOk 60 (.str a) && dOk 60 (.str b))) = true then some (D.bl (!eqD (.str a) (.str b))) else none) = _
  rw [eq_str, if_pos (by rfl)]
/-! ### isinstance -/
theorem isi_bb {b : Bool} : gIsi "bool" (.bl b) = some (.bl true) := by
  show ((some "bool").bind fun t => (kitB t "bool").map D.bl) = _
  rw [Option.bind_some, show kitB "bool" "bool" = some true by decide +kernel]; rfl
theorem isi_bi {b : Bool} : gIsi "int" (.bl b) = some (.bl true) := by
  show ((some "bool").bind fun t => (kitB t "int").map D.bl) = _
  rw [Option.bind_some, show kitB "bool" "int" = some true by decide +kernel]; rfl
theorem isi_ib {i : Int} : gIsi "bool" (.int i) = some (.bl false) := by
  show ((some "int").bind fun t => (kitB t "bool").map D.bl) = _
  rw [Option.bind_some, show kitB "int" "bool" = some false by decide +kernel]; rfl
theorem isi_ii {i : Int} : gIsi "int" (.int i) = some (.bl true) := by
  show ((some "int").bind fun t => (kitB t "int").map D.bl) = _
  rw [Option.bind_some, show kitB "int" "int" = some true by decide +kernel]; rfl
/-! ### in -/
theorem any_str {w : Str} {ws : List Str} : ((ws.map D.str).any fun y => eqD y (.str w)) = decide (w ∈ ws) := by
  induction ws with
  | nil => simp
  | cons v vs ih =>
    rw [List.map_cons, List.any_cons, ih, eq_str]
    by_cases h : v = w
    · simp [h]
    · have : ¬ w = v := fun e => h e.symm
      simp [h, this]
theorem all_flat {ws : List Str} : (ws.map D.str).all flatD = true := by simp [flatD]
theorem in_strs {w : Str} {ws : List Str} {neg : Bool} {m : Md} : gInU neg (.str w) (.lst m (ws.map .str)) = some (.bl (xor neg (decide (w ∈ ws)))) := by
  show (if (flatD (.str w) && (ws.map D.str).all flatD) = true then some (D.bl (xor neg ((ws.map D.str).any fun y => eqD y (.str w)))) else none) = _
  rw [all_flat, any_str]; rfl
theorem in_strsT {w : Str} {ws : List Str} {neg : Bool} : gInU neg (.str w) (.tup (ws.map .str)) = some (.bl (xor neg (decide (w ∈ ws)))) := by
  show (if (flatD (.str w) && (ws.map D.str).all flatD) = true then some (D.bl (xor neg ((ws.map D.str).any fun y => eqD y (.str w)))) else none) = _
  rw [all_flat, any_str]; rfl
theorem in_dic {x : D} {k : Key} {m : Md} {kvs : List (Key × D)} {neg : Bool} (h : keyOf x = some k) : gInU neg x (.dic m kvs) = some (.bl (xor neg (dval kvs k).isSome)) := by
  show (keyOf x).map _ = _
  rw [h]; rfl
/-! ### texts as lists of codes -/
def codes (w : Str) : List Nat := w.cps.toList
theorem codes_inj {a b : Str} (h : codes a = codes b) : a = b := by
  cases a; cases b
  simp only [codes] at h
  simp only [Str.mk.injEq]
  exact Array.toList_inj.mp h
theorem codes_len {a : Str} : a.length = (codes a).length := by
  show a.cps.size = a.cps.toList.length
  simp
theorem codes_app {a b : Str} : codes (a ++ b) = codes a ++ codes b := by
  show (a.cps ++ b.cps).toList = _
  simp [codes]
theorem codes_one {c : Nat} : codes ⟨#[c]⟩ = [c] := rfl
theorem codes_cut {z : Str} {lo hi : Option Int} : codes (cutS z lo hi) = ((codes z).drop (HT.sIx (codes z).length 0 lo)).take (HT.sIx (codes z).length (codes z).length hi - HT.sIx (codes z).length 0 lo) := by
  unfold cutS
  rw [codes_len]
  simp [codes]
/-! ### tables -/
theorem dval_nil {k : Key} : dval [] k = none := rfl
theorem dval_pos {p : Key × D} {r : List (Key × D)} {k : Key} (e : p.1 = k) : dval (p :: r) k = some p.2 := by simp [dval, List.find?_cons, e]
theorem dval_neg {p : Key × D} {r : List (Key × D)} {k : Key} (e : ¬ p.1 = k) : dval (p :: r) k = dval r k := by simp [dval, List.find?_cons, e]
theorem dval_any (k : Key) : ∀ kvs : List (Key × D), (kvs.any fun kv => decide (kv.1 = k)) = (dval kvs k).isSome
  | [] => rfl
  | p :: r => by
    by_cases e : p.1 = k
    · rw [dval_pos e, List.any_cons]; simp [e]
    · rw [dval_neg e, List.any_cons, dval_any k r]; simp [e]
theorem dval_map (k j : Key) (y : D) : ∀ kvs : List (Key × D), dval (kvs.map fun kv => if kv.1 = k then (kv.1, y) else kv) j = (dval kvs j).map fun x => if j = k then y else x
  | [] => rfl
  | p :: r => by
    rw [List.map_cons]
    by_cases e : p.1 = j
    · subst e
      by_cases ek : p.1 = k
      · rw [if_pos ek, dval_pos rfl, dval_pos rfl]; simp [ek]
      · rw [if_neg ek, dval_pos rfl, dval_pos rfl]; simp [ek]
    · have : ¬ (if p.1 = k then (p.1, y) else p).1 = j := by split <;> exact e
      rw [dval_neg this, dval_neg e, dval_map k j y r]
theorem dval_snoc (k j : Key) (y : D) : ∀ kvs : List (Key × D), dval kvs k = none → dval (kvs ++ [(k, y)]) j = if j = k then some y else dval kvs j
  | [], _ => by
    by_cases e : j = k
    · subst e; simp [dval]
    · have : ¬ k = j := fun h => e h.symm
      simp [dval, e, this]
  | p :: r, h => by
    have hp : ¬ p.1 = k := fun e => by rw [dval_pos e] at h; cases h
    have hr : dval r k = none := by rw [dval_neg hp] at h; exact h
    rw [List.cons_append]
    by_cases e : p.1 = j
    · rw [dval_pos e, dval_pos e]
      have : ¬ j = k := fun h => hp (e.trans h)
      rw [if_neg this]
    · rw [dval_neg e, dval_neg e, dval_snoc k j y r hr]
theorem dval_put (kvs : List (Key × D)) (k j : Key) (y : D) : dval (dput kvs k y) j = if j = k then some y else dval kvs j := by
  unfold dput
  rw [dval_any]
  cases h : dval kvs k with
  | none => simp only [Option.isSome_none, Bool.false_eq_true, if_false]; exact dval_snoc k j y kvs h
  | some x =>
    simp only [Option.isSome_some, if_true]
    rw [dval_map]
    by_cases e : j = k
    · subst e; rw [h]; simp
    · simp [e]
theorem dput_len (kvs : List (Key × D)) (k : Key) (y : D) : (dput kvs k y).length ≤ kvs.length + 1 := by
  unfold dput
  split <;> simp
theorem set_dic {kvs : List (Key × D)} {d x : D} {k : Key} (hk : keyOf x = some k) (h : kvs.length < sizeLine) : setD (.dic .own kvs) d x = some (.dic .own (dput kvs k d)) := by
  show ((keyOf x).bind fun k => if kvs.length < sizeLine then some (D.dic .own (dput kvs k d)) else none) = _
  rw [hk]
  exact if_pos h
theorem ix_dic {kvs : List (Key × D)} {m : Md} {x d : D} {k : Key} (hk : keyOf x = some k) (h : dval kvs k = some d) (hi : isImm d = true) : gIxU (.dic m kvs) x = some d := by
  rw [g_ixd, hk]
  simp only [Option.bind_some, h, hi, if_true]
/-! ### ranges -/
theorem range_len {lo : Int} {n : Nat} : (rangeD lo n).length = n := by unfold rangeD; simp
theorem range_get {lo : Int} {n k : Nat} {d : D} (h : (rangeD lo n)[k]? = some d) : k < n ∧ d = .int (lo + k) := by
  have hk : k < n := by
    have := (List.getElem?_eq_some_iff.mp h).1
    rwa [range_len] at this
  refine ⟨hk, ?_⟩
  unfold rangeD at h
  rw [List.getElem?_map, List.getElem?_range hk] at h
  cases h; rfl
theorem enum_get {xs : List D} {k : Nat} {d : D} (h : (enumD xs)[k]? = some d) : ∃ x, xs[k]? = some x ∧ d = .tup [.int (k : Nat), x] := by
  have hk : k < xs.length := by
    have := (List.getElem?_eq_some_iff.mp h).1
    rwa [enumD_length] at this
  rw [enumD_get xs hk] at h
  cases h
  exact ⟨_, List.getElem?_eq_getElem hk, rfl⟩
theorem map_get {α : Type} {f : α → D} {xs : List α} {k : Nat} {d : D} (h : (xs.map f)[k]? = some d) : ∃ x, xs[k]? = some x ∧ d = f x := by
  rw [List.getElem?_map] at h
  obtain ⟨x, hx, e⟩ := Option.map_eq_some_iff.mp h
  exact ⟨x, hx, e.symm⟩
theorem cut_map {α : Type} {f : α → D} {xs : List α} {lo hi : Option Int} : cutD (xs.map f) lo hi = ((xs.drop (HT.sIx xs.length 0 lo)).take (HT.sIx xs.length xs.length hi - HT.sIx xs.length 0 lo)).map f := by
  unfold cutD
  rw [List.length_map, List.map_take, List.map_drop]
theorem sIx_pos {n d : Nat} {v : Int} (h : 0 ≤ v) : HT.sIx n d (some v) = min v.toNat n := by
  show (if v < 0 then _ else _) = _
  rw [if_neg (by omega)]
/-! ### names -/
structure IsName (w : Str) : Prop where
  pos : 1 ≤ (codes w).length
  le : (codes w).length ≤ 8
  az : ∀ c ∈ codes w, 97 ≤ c ∧ c ≤ 122
abbrev abc : Str := "abcdefghijklmnopqrstuvwxyz"
theorem abc_codes : codes abc = (List.range 26).map (97 + ·) := by decide +kernel
theorem abc_at {r : Int} (h0 : 0 ≤ r) (h : r < 26) : atI abc.cps.toList r = some (97 + r.toNat) := by
  have e : abc.cps.toList = (List.range 26).map (97 + ·) := abc_codes
  rw [at_get h0, e, List.getElem?_map, List.getElem?_range (by omega)]; rfl
theorem ix_abc {r : Int} (h0 : 0 ≤ r) (h : r < 26) : gIxU (.str abc) (.int r) = some (.str ⟨#[97 + r.toNat]⟩) := by
  rw [g_ixs, abc_at h0 h, if_pos (by decide +kernel)]; rfl
theorem nodup_le {α : Type} [DecidableEq α] : ∀ {l m : List α}, l.Nodup → (∀ x ∈ l, x ∈ m) → l.length ≤ m.length
  | [], m, _, _ => Nat.zero_le _
  | a :: l, m, nd, h => by
    have ha : a ∈ m := h a List.mem_cons_self
    have ih := nodup_le (l := l) (m := m.erase a) (List.nodup_cons.mp nd).2 fun x hx => (List.mem_erase_of_ne (show x ≠ a from fun e => (List.nodup_cons.mp nd).1 (by rw [← e]; exact hx))).mpr (h x (List.mem_cons_of_mem _ hx))
    have hl := List.length_erase_of_mem ha
    have hp : 0 < m.length := List.length_pos_of_mem ha
    rw [List.length_cons]
    omega
/-- two letters by a number -/
def twoL (j : Nat) : Str := ⟨#[97 + j % 26, 97 + j / 26]⟩
theorem twoL_inj {i j : Nat} (h : twoL i = twoL j) : i = j := by
  unfold twoL at h
  simp only [Str.mk.injEq] at h
  have h' := congrArg Array.toList h
  simp at h'
  omega
theorem twoL_name {j : Nat} (h : j < 676) : IsName (twoL j) := by
  refine ⟨by show 1 ≤ 2; decide, by show 2 ≤ 8; decide, fun c hc => ?_⟩
  have : codes (twoL j) = [97 + j % 26, 97 + j / 26] := rfl
  rw [this] at hc
  simp at hc
  omega
theorem twoL_le {ws : List Str} {t : Nat} (h : ∀ j < t, twoL j ∈ ws) : t ≤ ws.length := by
  have := nodup_le (l := (List.range t).map twoL) (m := ws) ?_ ?_
  · simpa using this
  · rw [List.nodup_iff_pairwise_ne, List.pairwise_map]
    exact List.Pairwise.imp (fun hne e => hne (twoL_inj e)) (List.nodup_iff_pairwise_ne.mp List.nodup_range)
  · intro x hx
    obtain ⟨j, hj, rfl⟩ := List.mem_map.mp hx
    exact h j (List.mem_range.mp hj)
theorem gsl_str {z : Str} {lo hi : Option Int} (h : z.length ≤ sizeLine) : gSl (.str z) lo hi = some (.str (cutS z lo hi)) := if_pos h
theorem gsl_tup {xs : List D} {lo hi : Option Int} : gSl (.tup xs) lo hi = some (.tup (cutD xs lo hi)) := rfl
theorem gsl_lst {m : Md} {xs : List D} {lo hi : Option Int} (h : isImms xs = true) : gSl (.lst m xs) lo hi = some (.lst .own (cutD xs lo hi)) := if_pos h
theorem mul_str {a : Str} {k : Int} (h0 : 0 ≤ k) (h1 : k ≤ 1000) (h2 : a.length ≤ 1000) : gMul1 (.str a) (.int k) = some (.str ⟨(List.replicate k.toNat a.cps.toList).flatten.toArray⟩) := if_pos ⟨h0, h1, h2⟩
theorem letter_name {r : Nat} (h : r < 26) : IsName ⟨#[97 + r]⟩ := by
  refine ⟨by show 1 ≤ 1; decide, by show 1 ≤ 8; decide, fun c hc => ?_⟩
  have : c = 97 + r := by simpa [codes] using hc
  omega
theorem ab_codes : ("ab" : Str).cps.toList = [97, 98] := by decide +kernel
theorem ab_at {r : Int} (h : r = 0 ∨ r = 1) : ∃ x : Nat, gIxU (.str "ab") (.int r) = some (.str ⟨#[x]⟩) ∧ 97 ≤ x ∧ x ≤ 122 := by
  have hl : ("ab" : Str).length ≤ sizeLine := by decide +kernel
  rcases h with rfl | rfl <;> rw [g_ixs, ab_codes, if_pos hl]
  · exact ⟨97, rfl, by decide, by decide⟩
  · exact ⟨98, rfl, by decide, by decide⟩
/-- letters only -/
def AZ (l : List Nat) : Prop := ∀ c ∈ l, 97 ≤ c ∧ c ≤ 122
theorem AZ.app {a b : List Nat} (h : AZ a) (g : AZ b) : AZ (a ++ b) := fun c hc => (List.mem_append.mp hc).elim (h c) (g c)
theorem AZ.sub {a b : List Nat} (h : AZ a) (g : ∀ c ∈ b, c ∈ a) : AZ b := fun c hc => h c (g c hc)
theorem AZ.cut {z : Str} {lo hi : Option Int} (h : AZ (codes z)) : AZ (codes (cutS z lo hi)) := by
  rw [codes_cut]
  exact h.sub fun c hc => List.mem_of_mem_drop (List.mem_of_mem_take hc)
theorem cut_len {z : Str} {lo hi : Option Int} : (codes (cutS z lo hi)).length ≤ (codes z).length := by
  rw [codes_cut, List.length_take, List.length_drop]
  omega
theorem cut8_name {z : Str} (h : 1 ≤ (codes z).length) (g : AZ (codes z)) : IsName (cutS z none (some 8)) := by
  refine ⟨?_, ?_, g.cut⟩
  · rw [codes_cut, List.length_take, List.length_drop]
    show 1 ≤ min (min 8 (codes z).length - 0) ((codes z).length - 0)
    omega
  · rw [codes_cut, List.length_take, List.length_drop]
    show min (min 8 (codes z).length - 0) ((codes z).length - 0) ≤ 8
    omega
theorem codes_rep {a : Str} {k : Nat} : codes ⟨(List.replicate k a.cps.toList).flatten.toArray⟩ = (List.replicate k (codes a)).flatten := by simp [codes]
/-! ### sorting texts -/
def leS (a b : Str) : Bool := decide (codes a ≤ codes b)
def sortS (ws : List Str) : List Str := ws.mergeSort leS
theorem leD_str {a b : Str} : leD (.str a) (.str b) = leS a b := by
  have := PySem.W.dataLe_str (fun x : Str => x)
  have e := congrFun (congrFun this a) b
  exact e
theorem leS_trans : ∀ a b c : Str, leS a b = true → leS b c = true → leS a c = true := fun a b c h1 h2 => by
  unfold leS at *
  simp only [decide_eq_true_eq] at *
  exact List.le_trans h1 h2
theorem leS_total : ∀ a b : Str, (leS a b || leS b a) = true := fun a b => by
  unfold leS
  rcases List.le_total (codes a) (codes b) with h | h <;> simp [h]
theorem leS_anti {a b : Str} (h1 : leS a b = true) (h2 : leS b a = true) : a = b := by
  unfold leS at *
  simp only [decide_eq_true_eq] at *
  exact codes_inj (List.le_antisymm h1 h2)
theorem sortS_perm (ws : List Str) : (sortS ws).Perm ws := List.mergeSort_perm ws leS
theorem sortS_pw (ws : List Str) : (sortS ws).Pairwise fun a b => leS a b = true := List.pairwise_mergeSort leS_trans leS_total ws
theorem sortS_len (ws : List Str) : (sortS ws).length = ws.length := (sortS_perm ws).length_eq
theorem sortS_mem {ws : List Str} {w : Str} : w ∈ sortS ws ↔ w ∈ ws := (sortS_perm ws).mem_iff
theorem sortS_nodup {ws : List Str} (h : ws.Nodup) : (sortS ws).Nodup := (sortS_perm ws).nodup_iff.mpr h
theorem srt_map {ws : List Str} : (ws.map D.str).mergeSort leD = (sortS ws).map D.str := by
  unfold sortS
  exact (List.map_mergeSort (r := leS) (s := leD) (f := D.str) (fun a _ b _ => leD_str.symm)).symm
theorem strOk_of {w : Str} (h : ∀ c ∈ codes w, c < 55296) : PyData.strOk w = true := by
  unfold PyData.strOk
  simp only [Array.all_eq_true_iff_forall_mem]
  intro c hc
  have := h c (by unfold codes; simpa using hc)
  simp; omega
theorem IsName.ok {w : Str} (h : IsName w) : PyData.strOk w = true := strOk_of fun c hc => by have := h.az c hc; omega
theorem srtOk_strs {ws : List Str} (h : ws.length ≤ sizeLine) (hs : ∀ w ∈ ws, PyData.strOk w = true) : srtOk (ws.map D.str) = true := by
  unfold srtOk
  have e1 : ((ws.map D.str).all (dOk 8)) = true := by simpa [dOk] using hs
  have e2 : ((ws.map D.str).all fun x => (ws.map D.str).all fun y => PySem.W.alike (toPy x) (toPy y)) = true := by simp [toPy, PySem.W.alike]
  have e3 : ((ws.map D.str).all fun x => noTup (toPy x)) = true := by simp [toPy, noTup]
  rw [e1, e2, e3, m_str']
  simpa using h
theorem sort_strs {ws : List Str} {m : Md} (h : ws.length ≤ sizeLine) (hs : ∀ w ∈ ws, PyData.strOk w = true) : gSort (.lst m (ws.map .str)) = some (.lst .own ((sortS ws).map .str)) := by
  show (if srtOk (ws.map D.str) = true then some (D.lst .own ((ws.map D.str).mergeSort leD)) else none) = _
  rw [if_pos (srtOk_strs h hs), srt_map]
end Vs

namespace Vs
open PySem L2
/-! ### equality of rows -/
def eqDs : List D → List D → Bool
  | [], [] => true
  | x :: xs, y :: ys => eqD x y && eqDs xs ys
  | _, _ => false
theorem eqAll_py : ∀ xs ys : List D, PyData.eqvAll (toPys xs) (toPys ys) = eqDs xs ys
  | [], [] => by unfold PyData.eqvAll; rfl
  | [], _ :: _ => by show PyData.eqvAll [] (_ :: _) = _; unfold PyData.eqvAll; rfl
  | _ :: _, [] => by show PyData.eqvAll (_ :: _) [] = _; unfold PyData.eqvAll; rfl
  | x :: xs, y :: ys => by
    show PyData.eqvAll (toPy x :: toPys xs) (toPy y :: toPys ys) = (eqD x y && eqDs xs ys)
    rw [← eqAll_py xs ys, PyData.eqvAll.eq_def]; rfl
theorem eq_tup {xs ys : List D} : eqD (.tup xs) (.tup ys) = eqDs xs ys := by
  show PyData.eqv (.tuple (toPys xs)) (.tuple (toPys ys)) = _
  rw [← eqAll_py, PyData.eqv.eq_def]
theorem eq_lst {m n : Md} {xs ys : List D} : eqD (.lst m xs) (.lst n ys) = eqDs xs ys := by
  show PyData.eqv (.list (toPys xs)) (.list (toPys ys)) = _
  rw [← eqAll_py, PyData.eqv.eq_def]
theorem gEq_of {x y : D} (h1 : dOk 60 x = true) (h2 : dOk 60 y = true) : gEq x y = some (.bl (eqD x y)) := if_pos (by rw [h1, h2]; simp)
theorem gNe_of {x y : D} (h1 : dOk 60 x = true) (h2 : dOk 60 y = true) : gNe x y = some (.bl (!eqD x y)) := if_pos (by rw [h1, h2]; simp)
theorem dk_tup {n : Nat} {xs : List D} (h : dOks n xs = true) : dOk (n + 1) (.tup xs) = true := by
  show (decide (0 < n + 1) && dOks n xs) = true
  rw [h]; simp
theorem dk_lst {n : Nat} {m : Md} {xs : List D} (h : dOks n xs = true) : dOk (n + 1) (.lst m xs) = true := by
  show (decide (0 < n + 1) && dOks n xs) = true
  rw [h]; simp
theorem dk_all {n : Nat} : ∀ {xs : List D}, (∀ x ∈ xs, dOk n x = true) → dOks n xs = true
  | [], _ => rfl
  | x :: xs, h => by
    show (dOk n x && dOks n xs) = true
    rw [h x List.mem_cons_self, dk_all fun y m => h y (List.mem_cons_of_mem _ m)]; rfl
theorem dk_ints {n : Nat} {ns : List Int} : dOks n (ns.map D.int) = true := dk_all fun x m => by
  obtain ⟨i, _, rfl⟩ := List.mem_map.mp m; rfl
theorem dk_strs {n : Nat} {ws : List Str} (h : ∀ w ∈ ws, PyData.strOk w = true) : dOks n (ws.map D.str) = true := dk_all fun x m => by
  obtain ⟨w, mw, rfl⟩ := List.mem_map.mp m
  exact h w mw
theorem ge_tup0 {xs : List D} (h : dOks 59 xs = true) : gEq (.tup xs) (.tup []) = some (.bl (decide (xs = []))) := by
  rw [gEq_of (dk_tup h) rfl, eq_tup]
  cases xs <;> rfl
theorem ne_lst0 {m n : Md} {xs : List D} (h : dOks 59 xs = true) : gNe (.lst m xs) (.lst n []) = some (.bl (!decide (xs = []))) := by
  rw [gNe_of (dk_lst h) rfl, eq_lst]
  cases xs <;> rfl
theorem ge_lst0 {m n : Md} {xs : List D} (h : dOks 59 xs = true) : gEq (.lst m xs) (.lst n []) = some (.bl (decide (xs = []))) := by
  rw [gEq_of (dk_lst h) rfl, eq_lst]
  cases xs <;> rfl
theorem eqDs_map {α : Type} {f : α → D} : ∀ {xs ys : List α}, (∀ x ∈ xs, ∀ y ∈ ys, eqD (f x) (f y) = true ↔ x = y) → (eqDs (xs.map f) (ys.map f) = true ↔ xs = ys)
  | [], [], _ => ⟨fun _ => rfl, fun _ => rfl⟩
  | [], _ :: _, _ => ⟨fun h => (nomatch (h : false = true)), fun h => nomatch h⟩
  | _ :: _, [], _ => ⟨fun h => (nomatch (h : false = true)), fun h => nomatch h⟩
  | x :: xs, y :: ys, h => by
    show (eqD (f x) (f y) && eqDs (xs.map f) (ys.map f)) = true ↔ _
    rw [Bool.and_eq_true, h x List.mem_cons_self y List.mem_cons_self, eqDs_map (xs := xs) (ys := ys) fun a ma b mb => h a (List.mem_cons_of_mem _ ma) b (List.mem_cons_of_mem _ mb)]
    exact ⟨fun ⟨a, b⟩ => by rw [a, b], fun e => by cases e; exact ⟨rfl, rfl⟩⟩
theorem eqDs_strs {xs ys : List Str} : eqDs (xs.map D.str) (ys.map D.str) = decide (xs = ys) := by
  have := eqDs_map (f := D.str) (xs := xs) (ys := ys) fun x _ y _ => by rw [eq_str]; simp
  by_cases e : xs = ys
  · rw [this.mpr e, decide_eq_true e]
  · rw [decide_eq_false e]
    exact Bool.eq_false_iff.mpr fun h => e (this.mp h)
theorem eqDs_ints {xs ys : List Int} : eqDs (xs.map D.int) (ys.map D.int) = decide (xs = ys) := by
  have := eqDs_map (f := D.int) (xs := xs) (ys := ys) fun x _ y _ => by rw [eq_int]; simp
  by_cases e : xs = ys
  · rw [this.mpr e, decide_eq_true e]
  · rw [decide_eq_false e]
    exact Bool.eq_false_iff.mpr fun h => e (this.mp h)
/-! ### comprehensions -/
def compF (o : Option (List D)) (e : SD) : R D := match o with
  | some ys => if ys.length ≤ sizeLine then .ok (.lst .own ys) e else .bad
  | none => .bad
def compK (vs : List Nat) (g : D → SD → Option SD) (tt : SD → R Bool) (te : SD → R D) (r : R (List D)) : R D := r.bind fun ds e => compF (compL vs g tt te e ds) e
theorem k_comp {vs : List Nat} {it : SD → R (List D)} {g : D → SD → Option SD} {tt : SD → R Bool} {te : SD → R D} {env : SD} : eComp vs it g tt te env = compK vs g tt te (it env) := by
  unfold eComp compK
  congr 1
theorem k_comp1 {vs : List Nat} {g : D → SD → Option SD} {tt : SD → R Bool} {te : SD → R D} {ds : List D} {e : SD} : compK vs g tt te (.ok ds e) = compF (compL vs g tt te e ds) e := rfl
theorem k_comp2 {ys : List D} {e : SD} : compF (some ys) e = if ys.length ≤ sizeLine then .ok (.lst .own ys) e else .bad := rfl
theorem k_yes {e : SD} : cYes e = .ok true e := rfl
theorem comp_map {α : Type} {f : α → D} {vs : List Nat} {g : D → SD → Option SD} {tt : SD → R Bool} {te : SD → R D} {e : SD} (t : α → Bool) (F : α → D) : ∀ {xs : List α}, (∀ x ∈ xs, ∃ e1, g (f x) (wipeD e vs) = some e1 ∧ (∃ e2, tt e1 = .ok (t x) e2) ∧ (t x = true → ∃ e3, te e1 = .ok (F x) e3 ∧ isImm (F x) = true)) →
    compL vs g tt te e (xs.map f) = some ((xs.filter t).map F)
  | [], _ => rfl
  | x :: xs, h => by
    obtain ⟨e1, h1, ⟨e2, h2⟩, h3⟩ := h x List.mem_cons_self
    have ih := comp_map (f := f) (vs := vs) (g := g) (tt := tt) (te := te) (e := e) t F (xs := xs) fun y m => h y (List.mem_cons_of_mem _ m)
    rw [List.map_cons]
    unfold compL
    rw [h1]
    simp only
    rw [h2]
    cases ht : t x with
    | true =>
      obtain ⟨e3, h4, h5⟩ := h3 ht
      simp only
      rw [h4]
      simp only
      rw [if_pos h5, ih, List.filter_cons_of_pos ht]; rfl
    | false =>
      simp only
      rw [ih, List.filter_cons_of_neg (by rw [ht]; exact Bool.false_ne_true)]
theorem comp_all {α : Type} {f : α → D} {vs : List Nat} {g : D → SD → Option SD} {te : SD → R D} {e : SD} (F : α → D) {xs : List α} (h : ∀ x ∈ xs, ∃ e1, g (f x) (wipeD e vs) = some e1 ∧ (∃ e3, te e1 = .ok (F x) e3 ∧ isImm (F x) = true)) :
    compL vs g cYes te e (xs.map f) = some (xs.map F) := by
  rw [comp_map (fun _ => true) F fun x m => by
    obtain ⟨e1, a, b⟩ := h x m
    exact ⟨e1, a, ⟨e1, rfl⟩, fun _ => b⟩]
  rw [List.filter_eq_self.mpr fun _ _ => rfl]
theorem rangeD_map {lo : Int} {n : Nat} : rangeD lo n = (List.range n).map fun i => .int (lo + (i : Nat)) := rfl
/-! ### the greatest, how often, methods -/
theorem g_max {m : Md} {ns : List Int} (h : ns ≠ []) : gMax (.lst m (ns.map D.int)) = some (.int (mxI ns)) := by
  show ((intsOf (ns.map D.int)).bind fun ns => if 0 < ns.length then some (D.int (mxI ns)) else none) = _
  rw [intsOf_ints]
  show (if 0 < ns.length then some (D.int (mxI ns)) else none) = _
  rw [if_pos (List.length_pos_iff.mpr h)]
theorem g_sum {m : Md} {ns : List Int} : gSum (.lst m (ns.map D.int)) = some (.int ns.sum) := by
  show (intsOf (ns.map D.int)).map (fun ns => D.int ns.sum) = _
  rw [intsOf_ints]; rfl
theorem g_count {m : Md} {ns : List Int} {k : Int} : gCount (.lst m (ns.map D.int)) (.int k) = some (.int (ns.count k : Nat)) := by
  show (intsOf (ns.map D.int)).map (fun ns => D.int (ns.count k : Nat)) = _
  rw [intsOf_ints]; rfl
theorem g_rev {m : Md} {xs : List D} : gRev (.lst m xs) = if isImms xs = true then some (.lst .own xs.reverse) else none := rfl
theorem g_notB {a b : Bool} : gNotB (.bl a) (.bl b) = some (.bl (!decide (a = b))) := rfl
theorem g_isB {a b : Bool} : gIsB (.bl a) (.bl b) = some (.bl (decide (a = b))) := rfl
def rmK (T : String) (g : D → List D → Option D) (r : R D) (evs : SD → R (List D)) : R D := r.bind fun d e1 => if isT T d = true then (evs e1).bind fun ds e2 => R.opt (g d ds) e2 else .bad
def rmK2 (g : D → List D → Option D) (d : D) (r : R (List D)) : R D := r.bind fun ds e2 => R.opt (g d ds) e2
theorem k_rm {T : String} {g : D → List D → Option D} {a : SD → R D} {evs : SD → R (List D)} {env : SD} : eRm T g a evs env = rmK T g (a env) evs := rfl
theorem k_rmL {g : D → List D → Option D} {m : Md} {xs : List D} {e : SD} {evs : SD → R (List D)} : rmK "list" g (.ok (.lst m xs) e) evs = rmK2 g (.lst m xs) (evs e) := rfl
theorem k_rmS {g : D → List D → Option D} {x : Str} {e : SD} {evs : SD → R (List D)} : rmK "str" g (.ok (.str x) e) evs = rmK2 g (.str x) (evs e) := rfl
theorem k_rm2 {g : D → List D → Option D} {d : D} {ds : List D} {e : SD} : rmK2 g d (.ok ds e) = R.opt (g d ds) e := rfl
theorem k_rg1 {g : D → D → Option D} {d x : D} : rg1 g d [x] = g d x := rfl
theorem k_ins {xs : List D} {i : Int} {y : D} : chIns xs [.int i, y] = if isImm y = true ∧ 0 ≤ i ∧ i < 2 ^ 63 ∧ xs.length < sizeLine then some (.non, xs.take i.toNat ++ [y] ++ xs.drop i.toNat) else none := rfl
theorem k_popAt {xs : List D} {i : Int} {k : Nat} {y : D} (hi : i = (k : Int)) (hy : xs[k]? = some y) (hl : xs.length ≤ sizeLine) : chPopAt xs [.int i] = some (y, xs.eraseIdx k) := by
  have hk : k < xs.length := (List.getElem?_eq_some_iff.mp hy).1
  show (match ixN xs.length i with
    | some k => if xs.length ≤ sizeLine then (xs[k]?).map fun y => (y, xs.eraseIdx k) else none
    | none => none) = _
  rw [ixN_nat hi hk]
  simp only
  rw [if_pos hl, hy]; rfl
theorem k_toImm {xs : List D} : toImm (.lst .own xs) = if isImms xs = true then some (.lst .imm xs) else none := rfl
theorem k_toImmI {xs : List D} : toImm (.lst .imm xs) = if isImms xs = true then some (.lst .imm xs) else none := rfl
theorem sort_dicS {m : Md} {kvs : List (Key × D)} {ws : List Str} (e : kvs.map (·.1) = ws.map Sum.inr) (h : ws.length ≤ sizeLine) (hs : ∀ w ∈ ws, PyData.strOk w = true) : gSortU (.dic m kvs) = some (.lst .own ((sortS ws).map .str)) := by
  have e2 : (kvs.map fun kv => keyD kv.1) = ws.map D.str := by
    have : (kvs.map fun kv => keyD kv.1) = (kvs.map (·.1)).map keyD := by simp
    rw [this, e]; simp [keyD]
  show srtList (kvs.map fun kv => keyD kv.1) = _
  rw [e2]
  show (if srtOk (ws.map D.str) = true then some (D.lst .own ((ws.map D.str).mergeSort leD)) else none) = _
  rw [if_pos (srtOk_strs h hs), srt_map]
theorem sort_lstS {m : Md} {ws : List Str} (h : ws.length ≤ sizeLine) (hs : ∀ w ∈ ws, PyData.strOk w = true) : gSortU (.lst m (ws.map .str)) = some (.lst .own ((sortS ws).map .str)) := by
  show (if srtOk (ws.map D.str) = true then some (D.lst .own ((ws.map D.str).mergeSort leD)) else none) = _
  rw [if_pos (srtOk_strs h hs), srt_map]
theorem sort_tupS {ws : List Str} (h : ws.length ≤ sizeLine) (hs : ∀ w ∈ ws, PyData.strOk w = true) : gSortU (.tup (ws.map .str)) = some (.lst .own ((sortS ws).map .str)) := by
  show (if srtOk (ws.map D.str) = true then some (D.lst .own ((ws.map D.str).mergeSort leD)) else none) = _
  rw [if_pos (srtOk_strs h hs), srt_map]
/-! ### pairs of a text and a number -/
def pairD (p : Str × Int) : D := .tup [.str p.1, .int p.2]
def bagD (ps : List (Str × Int)) : D := .tup (ps.map pairD)
theorem m_pairs {ps : List (Str × Int)} : isImms (ps.map pairD) = true := by
  induction ps with
  | nil => rfl
  | cons p ps ih => rw [List.map_cons, m_cons, ih]; rfl
theorem m_bag {ps : List (Str × Int)} : isImm (bagD ps) = true := m_pairs
theorem r_bag {ps : List (Str × Int)} : ro (bagD ps) = bagD ps := ro_imm m_bag
theorem n_bag {ps : List (Str × Int)} : noBor (bagD ps) = true := noBor_imm m_bag
theorem r_pairs {ps : List (Str × Int)} : ros (ps.map pairD) = ps.map pairD := ros_imm m_pairs
theorem n_pairs {ps : List (Str × Int)} : noBors (ps.map pairD) = true := noBors_imm m_pairs
end Vs

namespace Vs
open PySem L2
/-! ### tables from texts to numbers -/
abbrev Tab := List (Str × Int)
def kvP (p : Str × Int) : Key × D := (Sum.inr p.1, .int p.2)
def tabD (ps : Tab) : List (Key × D) := ps.map kvP
def keysP (ps : Tab) : List Str := ps.map (·.1)
def valP : Tab → Str → Option Int
  | [], _ => none
  | p :: ps, w => if p.1 = w then some p.2 else valP ps w
def putT : Tab → Str → Int → Tab
  | [], w, c => [(w, c)]
  | p :: ps, w, c => if p.1 = w then (p.1, c) :: ps else p :: putT ps w c
def sumP (ps : Tab) : Int := (ps.map (·.2)).sum
theorem key_inr {a b : Str} : (Sum.inr a : Key) = Sum.inr b ↔ a = b := ⟨fun h => by cases h; rfl, fun h => by rw [h]⟩
theorem dval_tab : ∀ (ps : Tab) (w : Str), dval (tabD ps) (Sum.inr w) = (valP ps w).map D.int
  | [], _ => rfl
  | p :: ps, w => by
    show dval (kvP p :: tabD ps) _ = ((if p.1 = w then some p.2 else valP ps w)).map D.int
    by_cases h : p.1 = w
    · rw [dval_pos (show (kvP p).1 = Sum.inr w from key_inr.mpr h), if_pos h]; rfl
    · rw [dval_neg (show ¬ (kvP p).1 = Sum.inr w from fun e => h (key_inr.mp e)), if_neg h, dval_tab ps w]
theorem valP_some {ps : Tab} {w : Str} : w ∈ keysP ps ↔ (valP ps w).isSome = true := by
  induction ps with
  | nil => exact ⟨fun h => (nomatch h), fun h => nomatch h⟩
  | cons p ps ih =>
    show w ∈ p.1 :: keysP ps ↔ (if p.1 = w then some p.2 else valP ps w).isSome = true
    by_cases h : p.1 = w
    · rw [if_pos h]; simp [h]
    · rw [if_neg h, ← ih, List.mem_cons]
      exact ⟨fun m => m.resolve_left fun e => h e.symm, .inr⟩
theorem valP_none {ps : Tab} {w : Str} (h : w ∉ keysP ps) : valP ps w = none := by
  cases e : valP ps w with
  | none => rfl
  | some c => exact (h (valP_some.mpr (by rw [e]; rfl))).elim
theorem map_id_if : ∀ (ps : Tab) (w : Str) (y : D), w ∉ keysP ps → ((tabD ps).map fun kv => if kv.1 = (Sum.inr w : Key) then (kv.1, y) else kv) = tabD ps
  | [], _, _, _ => rfl
  | p :: ps, w, y, h => by
    show (if (kvP p).1 = (Sum.inr w : Key) then ((kvP p).1, y) else kvP p) :: (tabD ps).map _ = kvP p :: tabD ps
    rw [if_neg fun e => h (by rw [← key_inr.mp e]; exact List.mem_cons_self), map_id_if ps w y fun m => h (List.mem_cons_of_mem _ m)]
theorem dput_tab {ps : Tab} (nd : (keysP ps).Nodup) {w : Str} {c : Int} : dput (tabD ps) (Sum.inr w) (.int c) = tabD (putT ps w c) := by
  unfold dput
  rw [dval_any, dval_tab]
  have key : ∀ (qs : Tab), (keysP qs).Nodup → (if (valP qs w).isSome = true then (tabD qs).map (fun kv => if kv.1 = (Sum.inr w : Key) then (kv.1, D.int c) else kv) else tabD qs ++ [(Sum.inr w, D.int c)]) = tabD (putT qs w c) := by
    intro qs
    induction qs with
    | nil => intro _; rfl
    | cons p qs ih =>
      intro nd
      have nd' : p.1 ∉ keysP qs ∧ (keysP qs).Nodup := List.nodup_cons.mp nd
      have ih := ih nd'.2
      by_cases h : p.1 = w
      · have e1 : valP (p :: qs) w = some p.2 := if_pos h
        have e2 : putT (p :: qs) w c = (p.1, c) :: qs := if_pos h
        rw [e1, e2]
        simp only [Option.isSome_some, if_true]
        show (if (kvP p).1 = (Sum.inr w : Key) then ((kvP p).1, D.int c) else kvP p) :: (tabD qs).map _ = kvP (p.1, c) :: tabD qs
        rw [if_pos (show (kvP p).1 = Sum.inr w from key_inr.mpr h), map_id_if qs w _ (by rw [← h]; exact nd'.1)]; rfl
      · have e1 : valP (p :: qs) w = valP qs w := if_neg h
        have e2 : putT (p :: qs) w c = p :: putT qs w c := if_neg h
        rw [e1, e2]
        show _ = kvP p :: tabD (putT qs w c)
        rw [← ih]
        have hk : ¬ (kvP p).1 = (Sum.inr w : Key) := fun e => h (key_inr.mp e)
        split
        · show (if (kvP p).1 = (Sum.inr w : Key) then ((kvP p).1, D.int c) else kvP p) :: (tabD qs).map _ = _
          rw [if_neg hk]
        · rfl
  have := key ps nd
  rw [← this]
  cases valP ps w <;> rfl
theorem valP_put (ps : Tab) (w : Str) (c : Int) (v : Str) : valP (putT ps w c) v = if w = v then some c else valP ps v := by
  induction ps with
  | nil => rfl
  | cons p ps ih =>
    by_cases h : p.1 = w
    · have e2 : putT (p :: ps) w c = (p.1, c) :: ps := if_pos h
      rw [e2]
      show (if p.1 = v then some c else valP ps v) = if w = v then some c else if p.1 = v then some p.2 else valP ps v
      subst h
      split <;> rfl
    · have e2 : putT (p :: ps) w c = p :: putT ps w c := if_neg h
      rw [e2]
      show (if p.1 = v then some p.2 else valP (putT ps w c) v) = if w = v then some c else if p.1 = v then some p.2 else valP ps v
      rw [ih]
      by_cases hv : p.1 = v
      · have : ¬ w = v := fun e => h (hv.trans e.symm)
        rw [if_pos hv, if_neg this, if_pos hv]
      · rw [if_neg hv, if_neg hv]
theorem keys_put (ps : Tab) (w : Str) (c : Int) : keysP (putT ps w c) = if w ∈ keysP ps then keysP ps else keysP ps ++ [w] := by
  induction ps with
  | nil => rfl
  | cons p ps ih =>
    by_cases h : p.1 = w
    · have e2 : putT (p :: ps) w c = (p.1, c) :: ps := if_pos h
      rw [e2]
      have : w ∈ keysP (p :: ps) := by rw [← h]; exact List.mem_cons_self
      rw [if_pos this]; rfl
    · have e2 : putT (p :: ps) w c = p :: putT ps w c := if_neg h
      rw [e2]
      show p.1 :: keysP (putT ps w c) = if w ∈ p.1 :: keysP ps then p.1 :: keysP ps else p.1 :: keysP ps ++ [w]
      rw [ih]
      by_cases m : w ∈ keysP ps
      · rw [if_pos m, if_pos (List.mem_cons_of_mem _ m)]
      · have : w ∉ p.1 :: keysP ps := fun q => (List.mem_cons.mp q).elim (fun e => h e.symm) m
        rw [if_neg m, if_neg this]; rfl
theorem nodup_put {ps : Tab} {w : Str} {c : Int} (nd : (keysP ps).Nodup) : (keysP (putT ps w c)).Nodup := by
  rw [keys_put]
  split
  · exact nd
  · rename_i m
    rw [List.nodup_append]
    refine ⟨nd, by simp, fun a ha b hb e => ?_⟩
    have : b = w := by simpa using hb
    rw [e, this] at ha
    exact m ha
theorem len_put (ps : Tab) (w : Str) (c : Int) : (putT ps w c).length ≤ ps.length + 1 := by
  have h : ∀ qs : Tab, (keysP qs).length = qs.length := fun qs => List.length_map _
  rw [← h, ← h, keys_put]
  split <;> simp
theorem sum_put (ps : Tab) (w : Str) (c : Int) : sumP (putT ps w c) = sumP ps - (valP ps w).getD 0 + c := by
  induction ps with
  | nil => show (c + 0) = 0 - 0 + c; omega
  | cons p ps ih =>
    by_cases h : p.1 = w
    · have e2 : putT (p :: ps) w c = (p.1, c) :: ps := if_pos h
      have e1 : valP (p :: ps) w = some p.2 := if_pos h
      rw [e2, e1]
      show c + sumP ps = p.2 + sumP ps - p.2 + c
      omega
    · have e2 : putT (p :: ps) w c = p :: putT ps w c := if_neg h
      have e1 : valP (p :: ps) w = valP ps w := if_neg h
      rw [e2, e1]
      show p.2 + sumP (putT ps w c) = p.2 + sumP ps - _ + c
      rw [ih]; omega
theorem mem_put {ps : Tab} {w : Str} {c : Int} {p : Str × Int} (m : p ∈ putT ps w c) : p ∈ ps ∨ p = (w, c) := by
  induction ps with
  | nil => exact .inr (by simpa [putT] using m)
  | cons q ps ih =>
    by_cases h : q.1 = w
    · have e2 : putT (q :: ps) w c = (q.1, c) :: ps := if_pos h
      rw [e2] at m
      rcases List.mem_cons.mp m with m | m
      · exact .inr (by rw [m, h])
      · exact .inl (List.mem_cons_of_mem _ m)
    · have e2 : putT (q :: ps) w c = q :: putT ps w c := if_neg h
      rw [e2] at m
      rcases List.mem_cons.mp m with m | m
      · exact .inl (by rw [m]; exact List.mem_cons_self)
      · exact (ih m).imp (List.mem_cons_of_mem _) id
theorem valP_mem {ps : Tab} {w : Str} {c : Int} (h : valP ps w = some c) : (w, c) ∈ ps := by
  induction ps with
  | nil => cases h
  | cons p ps ih =>
    by_cases e : p.1 = w
    · have e1 : valP (p :: ps) w = some p.2 := if_pos e
      rw [e1] at h
      cases h
      rw [← e]; exact List.mem_cons_self
    · have e1 : valP (p :: ps) w = valP ps w := if_neg e
      rw [e1] at h
      exact List.mem_cons_of_mem _ (ih h)
theorem valP_of {ps : Tab} (nd : (keysP ps).Nodup) {p : Str × Int} (m : p ∈ ps) : valP ps p.1 = some p.2 := by
  induction ps with
  | nil => cases m
  | cons q ps ih =>
    have nd' : q.1 ∉ keysP ps ∧ (keysP ps).Nodup := List.nodup_cons.mp nd
    rcases List.mem_cons.mp m with rfl | m
    · exact if_pos rfl
    · have : ¬ q.1 = p.1 := fun e => nd'.1 (by rw [e]; exact List.mem_map_of_mem m)
      rw [show valP (q :: ps) p.1 = valP ps p.1 from if_neg this]
      exact ih nd'.2 m
theorem keys_tab (ps : Tab) : (tabD ps).map (·.1) = (keysP ps).map Sum.inr := by simp [tabD, keysP, kvP]
/-- the table in the order of its names -/
def sortT (ps : Tab) : Tab := (sortS (keysP ps)).map fun w => (w, (valP ps w).getD 0)
theorem sortT_keys (ps : Tab) : keysP (sortT ps) = sortS (keysP ps) := by
  unfold keysP sortT
  rw [List.map_map]
  exact List.map_id _
theorem sortT_perm {ps : Tab} (nd : (keysP ps).Nodup) : (sortT ps).Perm ps := by
  have h1 : (sortT ps).Perm ((keysP ps).map fun w => (w, (valP ps w).getD 0)) := (sortS_perm _).map _
  refine h1.trans ?_
  have : ((keysP ps).map fun w => (w, (valP ps w).getD 0)) = ps := by
    unfold keysP
    rw [List.map_map]
    conv => rhs; rw [← List.map_id ps]
    refine List.map_congr_left fun p m => ?_
    show (p.1, (valP ps p.1).getD 0) = p
    rw [valP_of nd m]; rfl
  rw [this]
theorem sum_perm {ps qs : Tab} (h : ps.Perm qs) : sumP ps = sumP qs := by
  induction h with
  | nil => rfl
  | cons x _ ih => show x.2 + sumP _ = x.2 + sumP _; rw [ih]
  | swap x y l => show y.2 + (x.2 + sumP l) = x.2 + (y.2 + sumP l); omega
  | trans _ _ h1 h2 => exact h1.trans h2
end Vs

namespace Vs
open PySem L2
theorem g_ixA {m : Md} {xs : List D} {i : Int} : gIxA (.lst m xs) (.int i) = atI xs i := rfl
theorem g_ixAt {xs : List D} {i : Int} : gIxA (.tup xs) (.int i) = atI xs i := rfl
def st2K (s c : Nat) (d : D) (e : SD) (r : R D) : Option SD := match r with
  | .ok di _ => (match e[s]? with
    | some (some x) => (setD2 x d di c).map fun x' => e.set s (some x')
    | _ => none)
  | _ => none
def st2K2 (s c : Nat) (d di : D) (e : SD) (o : Option (Option D)) : Option SD := match o with
    | some (some x) => (setD2 x d di c).map fun x' => e.set s (some x')
    | _ => none
theorem k_gtS2 {s c : Nat} {evi : SD → R D} {d : D} {e : SD} : gtSet2 s c evi d e = st2K s c d e (evi e) := rfl
theorem k_gtS21 {s c : Nat} {d di : D} {e e' : SD} : st2K s c d e (.ok di e') = st2K2 s c d di e e[s]? := rfl
theorem k_gtS22 {s c : Nat} {d di x : D} {e : SD} : st2K2 s c d di e (some (some x)) = (setD2 x d di c).map fun x' => e.set s (some x') := rfl
theorem k_setD2 {y d di : D} {r : List D} : setD2 (.lst .own (y :: r)) d di 0 = (setD y d di).map fun y' => .lst .own (y' :: r) := rfl
theorem k_lstH {d : D} {r : List D} : gLstH (d :: r) = if isImms r = true ∧ r.length < sizeLine then some (.lst .own (d :: r)) else none := rfl
/-! ### comprehensions that write -/
def compEF (e : SD) (vs : List Nat) (r : R (List D)) : R D := (noX r).bind fun ys e' => .ok (.lst .own ys) (unwipe e e' vs)
def compEK (vs : List Nat) (g : D → SD → Option SD) (tt : SD → R Bool) (te : SD → R D) (r : R (List D)) : R D := r.bind fun ds e => compEF e vs (compE vs g tt te ds [] e)
theorem k_compE {vs : List Nat} {it : SD → R (List D)} {g : D → SD → Option SD} {tt : SD → R Bool} {te : SD → R D} {env : SD} : eCompE vs it g tt te env = compEK vs g tt te (it env) := rfl
theorem k_compE1 {vs : List Nat} {g : D → SD → Option SD} {tt : SD → R Bool} {te : SD → R D} {ds : List D} {e : SD} : compEK vs g tt te (.ok ds e) = compEF e vs (compE vs g tt te ds [] e) := rfl
theorem k_compE2 {e e' : SD} {vs : List Nat} {ys : List D} : compEF e vs (.ok ys e') = .ok (.lst .own ys) (unwipe e e' vs) := rfl
theorem ens_compE {vs : List Nat} {g : D → SD → Option SD} {tt : SD → R Bool} {te : SD → R D} {Q : List D → SD → Prop} (ds : List D) (I : Nat → List D → SD → Prop) {env : SD} (h0 : I 0 [] env)
    (step : ∀ k d acc e, ds[k]? = some d → I k acc e → ∃ e1, g d (wipeD e vs) = some e1 ∧ Ens (tt e1) (fun b e2 => if b = true then Ens (te e2) (fun y e3 => (isImm y = true ∧ acc.length < sizeLine) ∧ I (k + 1) (acc ++ [y]) e3) else I (k + 1) acc e2))
    (fin : ∀ acc e, I ds.length acc e → Q acc e) : Ens (compE vs g tt te ds [] env) Q := by
  have main : ∀ (r : List D) (k : Nat) (acc : List D) (e : SD), ds.drop k = r → k ≤ ds.length → I k acc e → Ens (compE vs g tt te r acc e) Q := by
    intro r
    induction r with
    | nil =>
      intro k acc e hr hk hi
      have : k = ds.length := by
        have := congrArg List.length hr
        rw [List.length_drop] at this
        simp at this
        omega
      subst this
      exact fin acc e hi
    | cons d r ih =>
      intro k acc e hr hk hi
      have hd : ds[k]? = some d := by
        have := congrArg (fun l => l[0]?) hr
        simpa [List.getElem?_drop] using this
      obtain ⟨e1, hg, hb⟩ := step k d acc e hd hi
      have hlt : k < ds.length := (List.getElem?_eq_some_iff.mp hd).1
      have hr' : ds.drop (k + 1) = r := by
        have := List.drop_eq_getElem_cons hlt
        rw [hr] at this
        exact (List.cons.inj this).2.symm
      show Ens ((R.opt (g d (wipeD e vs)) e).bind fun e1 _ => (tt e1).bind fun b e2 => if b = true then (te e2).bind fun y e3 => if isImm y = true ∧ acc.length < sizeLine then compE vs g tt te r (acc ++ [y]) e3 else .bad else compE vs g tt te r acc e2) Q
      rw [hg]
      simp only [R.opt_some, R.bind_ok]
      rw [ens_bind]
      refine ens_mono hb fun b e2 q => ?_
      cases b with
      | false => exact ih (k + 1) acc e2 hr' hlt q
      | true =>
        simp only [if_true] at q ⊢
        rw [ens_bind]
        refine ens_mono q fun y e3 q2 => ?_
        rw [if_pos q2.1]
        exact ih (k + 1) _ e3 hr' hlt q2.2
  exact main ds 0 [] env rfl (Nat.zero_le _) h0
/-! ### xs[i] += e -/
def augIK2 (s : Nat) (g : D → D → Option D) (evv : SD → R D) (di : D) (e : SD) (o : Option (Option D)) : R Fl := match di, o with
  | .int i, some (some (.lst .own xs)) => (match ixN xs.length i with
    | some j => (match xs[j]? with
      | some x => if isImms xs = true then (evv e).bind fun y _ => (R.opt (g x y) e).bind fun z e => if isImm z = true then .ok .nx (e.set s (some (.lst .own (xs.set j z)))) else .bad else .bad
      | none => .bad)
    | none => .bad)
  | _, _ => .bad
def augIK (s : Nat) (g : D → D → Option D) (evv : SD → R D) (r : R D) : R Fl := r.bind fun di e => augIK2 s g evv di e e[s]?
def augI0 (s : Nat) (g : D → D → Option D) (evi evv : SD → R D) (r : R D) : R Fl := r.bind fun _ env => augIK s g evv (evi env)
theorem k_augI {s : Nat} {g : D → D → Option D} {evi evv : SD → R D} {env : SD} : sAugIx s g evi evv env = augI0 s g evi evv (eVar s env) := rfl
theorem k_augI0 {s : Nat} {g : D → D → Option D} {evi evv : SD → R D} {d : D} {env : SD} : augI0 s g evi evv (.ok d env) = augIK s g evv (evi env) := rfl
theorem k_augI1 {s : Nat} {g : D → D → Option D} {evv : SD → R D} {di : D} {e : SD} : augIK s g evv (.ok di e) = augIK2 s g evv di e e[s]? := rfl
theorem k_augI2 {s : Nat} {g : D → D → Option D} {evv : SD → R D} {i : Int} {e e' : SD} {xs : List D} {j : Nat} {x y z : D} (hi : i = (j : Int)) (hx : xs[j]? = some x) (him : isImms xs = true) (hy : evv e = .ok y e') (hz : g x y = some z) (hiz : isImm z = true) : augIK2 s g evv (.int i) e (some (some (.lst .own xs))) = .ok .nx (e.set s (some (.lst .own (xs.set j z)))) := by
  have hk : j < xs.length := (List.getElem?_eq_some_iff.mp hx).1
  unfold augIK2
  simp only [ixN_nat hi hk, hx, if_pos him, hy, R.bind_ok, hz, R.opt_some, if_pos hiz]
/-! ### walks of two -/
def zipK (r : R D) (b : SD → R D) : R (List D) := r.bind fun x e1 => (b e1).bind fun y e2 => orR (R.opt ((listOf x).bind fun xs => (listOf y).map (zipD xs)) e2) (R.opt ((tupOf x).bind fun xs => (tupOf y).map (zipD xs)) e2)
def zipK2 (x : D) (r : R D) : R (List D) := r.bind fun y e2 => orR (R.opt ((listOf x).bind fun xs => (listOf y).map (zipD xs)) e2) (R.opt ((tupOf x).bind fun xs => (tupOf y).map (zipD xs)) e2)
theorem k_zip {a b : SD → R D} {env : SD} : itZipS a b env = zipK (a env) b := rfl
theorem k_zip1 {x : D} {b : SD → R D} {e : SD} : zipK (.ok x e) b = zipK2 x (b e) := rfl
theorem k_zipT {xs ys : List D} {e : SD} : zipK2 (.tup xs) (.ok (.tup ys) e) = .ok (zipD xs ys) e := rfl
theorem k_zipL {xs ys : List D} {e : SD} : zipK2 (.lst .imm xs) (.ok (.lst .imm ys) e) = .ok (zipD xs ys) e := rfl
/-! ### d.get(k, x) -/
def get2K3 (d k : D) (r : R D) : R D := r.bind fun x e3 => R.opt (gGet2 d k x) e3
def get2K2 (d : D) (r : R D) (c : SD → R D) : R D := r.bind fun k e2 => get2K3 d k (c e2)
def get2K (r : R D) (b c : SD → R D) : R D := r.bind fun d e1 => if isDic d = true then get2K2 d (b e1) c else .bad
theorem k_get2 {a b c : SD → R D} {env : SD} : eGet2 a b c env = get2K (a env) b c := rfl
theorem k_get21 {m : Md} {kvs : List (Key × D)} {b c : SD → R D} {e : SD} : get2K (.ok (.dic m kvs) e) b c = get2K2 (.dic m kvs) (b e) c := rfl
theorem k_get22 {d k : D} {c : SD → R D} {e : SD} : get2K2 d (.ok k e) c = get2K3 d k (c e) := rfl
theorem k_get23 {d k x : D} {e : SD} : get2K3 d k (.ok x e) = R.opt (gGet2 d k x) e := rfl
theorem get2_tab {m : Md} {ps : Tab} {w : Str} {c : Int} : gGet2 (.dic m (tabD ps)) (.str w) (.int c) = some (.int ((valP ps w).getD c)) := by
  show ((keyOf (.str w)).bind fun k => match dval (tabD ps) k with
    | some y => if isImm y = true then some y else none
    | none => if isImm (.int c) = true then some (.int c) else none) = _
  show (match dval (tabD ps) (Sum.inr w) with
    | some y => if isImm y = true then some y else none
    | none => if isImm (.int c) = true then some (.int c) else none) = _
  rw [dval_tab]
  cases valP ps w <;> rfl
/-! ### texts joined -/
theorem g_join {m : Md} {a : Str} {ys : List Str} (h : (ys.map (·.length)).sum + ys.length * a.length ≤ 16777216) : gJoin (.str a) (.lst m (ys.map D.str)) = some (.str (Txt.join a ys)) := by
  show ((strsOf (ys.map D.str)).bind fun ys => if (ys.map (·.length)).sum + ys.length * a.length ≤ 16777216 then some (D.str (Txt.join a ys)) else none) = _
  rw [strsOf_strs]
  exact if_pos h
/-! ### freezing -/
def fzK (o : Option (Option D)) (i : Nat) (env : SD) : R Fl := match o with
  | some (some (.lst .own xs)) => if isImms xs = true then .ok .nx (env.set i (some (.lst .imm xs))) else .ok .nx env
  | _ => .ok .nx env
theorem k_fz {i : Nat} {env : SD} : sFz i env = fzK env[i]? i env := rfl
theorem k_fz1 {i : Nat} {env : SD} {xs : List D} : fzK (some (some (.lst .own xs))) i env = if isImms xs = true then .ok .nx (env.set i (some (.lst .imm xs))) else .ok .nx env := rfl
theorem sum_set : ∀ {cs : List Int} {j : Nat} (h : j < cs.length) (v : Int), (cs.set j v).sum = cs.sum - cs[j] + v
  | c :: cs, 0, _, v => by show v + cs.sum = c + cs.sum - c + v; omega
  | c :: cs, j + 1, h, v => by
    have hj : j < cs.length := by simpa using h
    have := sum_set hj v
    show c + (cs.set j v).sum = c + cs.sum - cs[j] + v
    omega
theorem zip_pairs {ws : List Str} {cs : List Int} : zipD (ws.map D.str) (cs.map D.int) = (ws.zip cs).map pairD := by
  unfold zipD
  rw [List.zip_map, List.map_map]
  rfl
theorem g_lzip {m n : Md} {xs ys : List D} (hx : isImms xs = true) (hy : isImms ys = true) : gLZip (.lst m xs) (.lst n ys) = some (.lst .own (zipD xs ys)) := by
  show ((if isImms xs = true then some xs else none).bind fun xs => (if isImms ys = true then some ys else none).map fun ys => D.lst .own (zipD xs ys)) = _
  rw [if_pos hx, if_pos hy]; rfl
end Vs

namespace Vs
open PySem L2
/-! ### pairs sorted -/
def leP (p q : Str × Int) : Bool := leD (pairD p) (pairD q)
theorem alike_str (a b : Str) : PySem.W.alike (.str a) (.str b) = true := by simp [PySem.W.alike]
theorem alike_int (a b : Int) : PySem.W.alike (.int a) (.int b) = true := by simp [PySem.W.alike]
theorem leP_iff {p q : Str × Int} : leP p q = true ↔ codes p.1 < codes q.1 ∨ (p.1 = q.1 ∧ p.2 ≤ q.2) := by
  have e0 : leP p q = !PySem.W.dataLt (.tuple [.str q.1, .int q.2]) (.tuple [.str p.1, .int p.2]) := by
    show PySem.W.dataLe false toPy (pairD p) (pairD q) = _
    rw [PySem.W.dataLe_eq]; rfl
  have e1 : PyData.eqv (.str q.1) (.str p.1) = decide (q.1 = p.1) := eq_str
  have e2 : PyData.eqv (.int q.2) (.int p.2) = decide (q.2 = p.2) := eq_int
  rw [e0, PySem.W.dataLt_pair (alike_str _ _) (alike_int _ _), e1, e2, PySem.W.dataLt_str, PySem.W.dataLt_int]
  by_cases h : q.1 = p.1
  · have h' : ¬ codes p.1 < codes q.1 := by rw [h]; exact List.lt_irrefl _
    simp only [h, decide_true, if_true]
    by_cases h2 : q.2 = p.2
    · simp [h2]
    · simp only [h2, decide_false, Bool.false_eq_true, if_false]
      simp [List.lt_irrefl]
  · have hne : ¬ p.1 = q.1 := fun e => h e.symm
    simp only [h, decide_false, Bool.false_eq_true, if_false, hne, false_and, or_false]
    show (!decide (codes q.1 < codes p.1)) = true ↔ _
    simp only [Bool.not_eq_true', decide_eq_false_iff_not]
    constructor
    · intro hn
      rcases List.le_total (codes p.1) (codes q.1) with hh | hh
      · rcases Classical.em (codes p.1 < codes q.1) with h1 | h1
        · exact h1
        · exact (hne (codes_inj (List.le_antisymm hh h1))).elim
      · exact (hne (codes_inj (List.le_antisymm hn hh))).elim
    · exact fun h1 h2 => List.lt_irrefl _ (List.lt_trans h1 h2)
theorem leP_trans (a b c : Str × Int) (h1 : leP a b = true) (h2 : leP b c = true) : leP a c = true := by
  rw [leP_iff] at *
  rcases h1 with h1 | ⟨h1, h1'⟩
  · rcases h2 with h2 | ⟨h2, _⟩
    · exact .inl (List.lt_trans h1 h2)
    · exact .inl (by rw [← h2]; exact h1)
  · rcases h2 with h2 | ⟨h2, h2'⟩
    · exact .inl (by rw [h1]; exact h2)
    · exact .inr ⟨h1.trans h2, Int.le_trans h1' h2'⟩
theorem leP_total (a b : Str × Int) : (leP a b || leP b a) = true := by
  rw [Bool.or_eq_true, leP_iff, leP_iff]
  by_cases e : a.1 = b.1
  · rcases Int.le_total a.2 b.2 with h | h
    · exact .inl (.inr ⟨e, h⟩)
    · exact .inr (.inr ⟨e.symm, h⟩)
  · rcases List.le_total (codes a.1) (codes b.1) with h | h
    · rcases Classical.em (codes a.1 < codes b.1) with h1 | h1
      · exact .inl (.inl h1)
      · exact (e (codes_inj (List.le_antisymm h h1))).elim
    · rcases Classical.em (codes b.1 < codes a.1) with h1 | h1
      · exact .inr (.inl h1)
      · exact (e (codes_inj (List.le_antisymm h1 h))).elim
theorem leP_anti {a b : Str × Int} (h1 : leP a b = true) (h2 : leP b a = true) : a = b := by
  rw [leP_iff] at *
  rcases h1 with h1 | ⟨h1, h1'⟩
  · rcases h2 with h2 | ⟨h2, _⟩
    · exact (List.lt_irrefl _ (List.lt_trans h1 h2)).elim
    · rw [h2] at h1; exact (List.lt_irrefl _ h1).elim
  · rcases h2 with h2 | ⟨_, h2'⟩
    · rw [h1] at h2; exact (List.lt_irrefl _ h2).elim
    · exact Prod.ext h1 (Int.le_antisymm h1' h2')
theorem srtOk_pairs {ps : Tab} (h : ps.length ≤ sizeLine) (hs : ∀ w ∈ keysP ps, PyData.strOk w = true) : srtOk (ps.map pairD) = true := by
  unfold srtOk
  have e1 : ((ps.map pairD).all (dOk 8)) = true := by
    rw [List.all_eq_true]
    intro x m
    obtain ⟨p, mp, rfl⟩ := List.mem_map.mp m
    have := hs p.1 (List.mem_map_of_mem mp)
    show (decide (0 < 8) && (PyData.strOk p.1 && (true && true))) = true
    rw [this]; rfl
  have e2 : ((ps.map pairD).all fun x => (ps.map pairD).all fun y => PySem.W.alike (toPy x) (toPy y)) = true := by
    rw [List.all_eq_true]
    intro x m
    obtain ⟨p, mp, rfl⟩ := List.mem_map.mp m
    rw [List.all_eq_true]
    intro y m
    obtain ⟨q, mq, rfl⟩ := List.mem_map.mp m
    show PySem.W.alike (.tuple [.str p.1, .int p.2]) (.tuple [.str q.1, .int q.2]) = true
    simp [PySem.W.alike, PySem.W.alikeAll]
  have e3 : ((ps.map pairD).all fun x => isTupC (toPy x)) = true := by
    rw [List.all_eq_true]
    intro x m
    obtain ⟨p, mp, rfl⟩ := List.mem_map.mp m
    rfl
  rw [e1, e2, e3, m_pairs]
  simpa using h
/-- a table's items in order are the bag -/
theorem sort_items {m : Md} {t ps : Tab} (hp : t.Perm ps) (hs : (keysP ps).Pairwise (fun a b => leS a b = true)) (nd : (keysP ps).Nodup) (hl : ps.length ≤ sizeLine) (hok : ∀ w ∈ keysP ps, PyData.strOk w = true) : gSortIt (.dic m (tabD t)) = some (.lst .own (ps.map pairD)) := by
  have e1 : ((tabD t).map fun kv => D.tup [keyD kv.1, kv.2]) = t.map pairD := by
    unfold tabD; rw [List.map_map]; rfl
  have hkp : (keysP t).Perm (keysP ps) := hp.map _
  have h1 : t.mergeSort leP = ps := by
    refine List.Perm.eq_of_pairwise (le := fun a b => leP a b = true) (fun a b _ _ h1 h2 => leP_anti h1 h2) (List.pairwise_mergeSort leP_trans leP_total t) ?_ ((List.mergeSort_perm t leP).trans hp)
    have hpw : (keysP ps).Pairwise (fun a b => leS a b = true ∧ a ≠ b) := hs.and (List.nodup_iff_pairwise_ne.mp nd)
    refine (List.pairwise_map.mp hpw).imp fun {p q} h => leP_iff.mpr (.inl ?_)
    have h1 : codes p.1 ≤ codes q.1 := of_decide_eq_true h.1
    rcases Classical.em (codes p.1 < codes q.1) with h2 | h2
    · exact h2
    · exact (h.2 (codes_inj (List.le_antisymm h1 h2))).elim
  show srtList ((tabD t).map fun kv => .tup [keyD kv.1, kv.2]) = _
  rw [e1]
  show (if srtOk (t.map pairD) = true then some (D.lst .own ((t.map pairD).mergeSort leD)) else none) = _
  rw [if_pos (srtOk_pairs (by rw [hp.length_eq]; exact hl) fun w m => hok w (hkp.mem_iff.mp m))]
  have e2 : (t.map pairD).mergeSort leD = (t.mergeSort leP).map pairD := (List.map_mergeSort (r := leP) (s := leD) (f := pairD) (fun a _ b _ => rfl)).symm
  rw [e2, h1]
/-- how often each name is there -/
def cntT : List Str → Tab → Tab
  | [], t => t
  | w :: ws, t => cntT ws (putT t w ((valP t w).getD 0 + 1))
theorem cntT_nd : ∀ (ws : List Str) {t : Tab}, (keysP t).Nodup → (keysP (cntT ws t)).Nodup
  | [], _, h => h
  | _ :: ws, _, h => cntT_nd ws (nodup_put h)
theorem cntT_val : ∀ (ws : List Str) (t : Tab) (v : Str), (valP (cntT ws t) v).getD 0 = (valP t v).getD 0 + (ws.count v : Nat)
  | [], t, v => by show _ = _ + ((0 : Nat) : Int); simp [cntT]
  | w :: ws, t, v => by
    show (valP (cntT ws (putT t w _)) v).getD 0 = _
    rw [cntT_val ws, valP_put]
    by_cases h : w = v
    · subst h
      rw [if_pos rfl, List.count_cons_self]
      show (valP t w).getD 0 + 1 + _ = _
      omega
    · rw [if_neg h, List.count_cons_of_ne h]
theorem cntT_pos : ∀ (ws : List Str) (t : Tab), (∀ p ∈ t, 1 ≤ p.2) → ∀ p ∈ cntT ws t, 1 ≤ p.2
  | [], _, h => h
  | w :: ws, t, h => cntT_pos ws _ fun p m => by
    rcases mem_put m with m | rfl
    · exact h p m
    · show 1 ≤ (valP t w).getD 0 + 1
      cases hv : valP t w with
      | none => show 1 ≤ (0 : Int) + 1; omega
      | some c => have := h _ (valP_mem hv); show 1 ≤ c + 1; simp at this; omega
theorem cntT_len : ∀ (ws : List Str) (t : Tab), (cntT ws t).length ≤ t.length + ws.length
  | [], _ => by simp [cntT]
  | w :: ws, t => by
    show (cntT ws (putT t w _)).length ≤ _
    have h1 := cntT_len ws (putT t w ((valP t w).getD 0 + 1))
    have h2 := len_put t w ((valP t w).getD 0 + 1)
    simp only [List.length_cons]; omega
theorem tab_ext {t u : Tab} (h1 : (keysP t).Nodup) (h2 : (keysP u).Nodup) (p1 : ∀ p ∈ t, 1 ≤ p.2) (p2 : ∀ p ∈ u, 1 ≤ p.2) (h : ∀ v, (valP t v).getD 0 = (valP u v).getD 0) : t.Perm u := by
  have nt : t.Nodup := List.Pairwise.of_map (fun p : Str × Int => p.1) (fun a b hne e => hne (by rw [e])) (List.nodup_iff_pairwise_ne.mp h1)
  have nu : u.Nodup := List.Pairwise.of_map (fun p : Str × Int => p.1) (fun a b hne e => hne (by rw [e])) (List.nodup_iff_pairwise_ne.mp h2)
  have key : ∀ {a b : Tab}, (keysP a).Nodup → (∀ p ∈ a, 1 ≤ p.2) → (∀ v, (valP a v).getD 0 = (valP b v).getD 0) → ∀ p ∈ a, p ∈ b := by
    intro a b na pa hab p m
    have e1 := valP_of na m
    have e2 := hab p.1
    rw [e1] at e2
    have := pa p m
    cases hv : valP b p.1 with
    | none => rw [hv] at e2; simp at e2; omega
    | some c =>
      rw [hv] at e2
      have e3 : p.2 = c := e2
      have := valP_mem hv
      rw [← e3] at this
      exact this
  exact (List.perm_ext_iff_of_nodup nt nu).mpr fun p => ⟨key h1 p1 h p, key h2 p2 (fun v => (h v).symm) p⟩
end Vs

/-! sums, binomials, runs of likes: plain numbers -/
namespace Vs
/-! ### how many ways to choose -/
def ch : Nat → Nat → Nat
  | _, 0 => 1
  | 0, _ + 1 => 0
  | n + 1, k + 1 => ch n k + ch n (k + 1)
theorem ch_zero : ∀ n : Nat, ch n 0 = 1
  | 0 => rfl
  | _ + 1 => rfl
theorem ch_ss (n k : Nat) : ch (n + 1) (k + 1) = ch n k + ch n (k + 1) := rfl
theorem ch_gt : ∀ {n k : Nat}, n < k → ch n k = 0
  | 0, k + 1, _ => rfl
  | n + 1, k + 1, h => by
    show ch n k + ch n (k + 1) = 0
    rw [ch_gt (by omega), ch_gt (by omega)]
theorem ch_self : ∀ n : Nat, ch n n = 1
  | 0 => rfl
  | n + 1 => by
    show ch n n + ch n (n + 1) = 1
    rw [ch_self n, ch_gt (by omega)]
/-! ### sums -/
def sm : Nat → (Nat → Int) → Int
  | 0, _ => 0
  | n + 1, f => sm n f + f n
theorem sm_succ {n : Nat} {f : Nat → Int} : sm (n + 1) f = sm n f + f n := rfl
theorem sm_congr {n : Nat} {f g : Nat → Int} (h : ∀ i, i < n → f i = g i) : sm n f = sm n g := by
  induction n with
  | zero => rfl
  | succ n ih => show sm n f + f n = sm n g + g n; rw [ih fun i hi => h i (by omega), h n (by omega)]
theorem sm_zero {n : Nat} {f : Nat → Int} (h : ∀ i, i < n → f i = 0) : sm n f = 0 := by
  induction n with
  | zero => rfl
  | succ n ih => show sm n f + f n = 0; rw [ih fun i hi => h i (by omega), h n (by omega)]; rfl
theorem sm_add {n : Nat} {f g : Nat → Int} : sm n (fun i => f i + g i) = sm n f + sm n g := by
  induction n with
  | zero => rfl
  | succ n ih => show sm n _ + (f n + g n) = sm n f + f n + (sm n g + g n); rw [ih]; omega
theorem sm_neg {n : Nat} {f : Nat → Int} : sm n (fun i => - f i) = - sm n f := by
  induction n with
  | zero => rfl
  | succ n ih => show sm n _ + (- f n) = - (sm n f + f n); rw [ih]; omega
theorem sm_mul {n : Nat} {f : Nat → Int} {c : Int} : sm n (fun i => c * f i) = c * sm n f := by
  induction n with
  | zero => show (0 : Int) = c * 0; rw [Int.mul_zero]
  | succ n ih => show sm n _ + c * f n = c * (sm n f + f n); rw [ih, Int.mul_add]
theorem sm_mulr {n : Nat} {f : Nat → Int} {c : Int} : sm n (fun i => f i * c) = sm n f * c := by
  rw [Int.mul_comm, ← sm_mul]
  exact sm_congr fun i _ => Int.mul_comm _ _
theorem sm_swap {n m : Nat} {f : Nat → Nat → Int} : sm n (fun i => sm m (f i)) = sm m (fun j => sm n fun i => f i j) := by
  induction n with
  | zero => exact (sm_zero fun _ _ => rfl).symm
  | succ n ih =>
    show sm n (fun i => sm m (f i)) + sm m (f n) = sm m (fun j => sm n (fun i => f i j) + f n j)
    rw [ih, sm_add]
theorem sm_head {n : Nat} {f : Nat → Int} : sm (n + 1) f = f 0 + sm n fun i => f (i + 1) := by
  induction n with
  | zero => show (0 : Int) + f 0 = f 0 + 0; omega
  | succ n ih =>
    show sm (n + 1) f + f (n + 1) = f 0 + (sm n (fun i => f (i + 1)) + f (n + 1))
    rw [ih]; omega
theorem sm_more {n m : Nat} {f : Nat → Int} (hnm : n ≤ m) (h : ∀ i, n ≤ i → i < m → f i = 0) : sm m f = sm n f := by
  induction m with
  | zero => rw [show n = 0 by omega]
  | succ m ih =>
    by_cases e : n = m + 1
    · rw [e]
    · show sm m f + f m = _
      rw [ih (by omega) fun i h1 h2 => h i h1 (by omega), h m (by omega) (by omega)]; omega
theorem sm_rev {n : Nat} {f : Nat → Int} : sm n (fun i => f (n - 1 - i)) = sm n f := by
  induction n with
  | zero => rfl
  | succ n ih =>
    rw [sm_head]
    show f (n + 1 - 1 - 0) + sm n (fun i => f (n + 1 - 1 - (i + 1))) = sm n f + f n
    have : sm n (fun i => f (n + 1 - 1 - (i + 1))) = sm n (fun i => f (n - 1 - i)) := sm_congr fun i hi => by congr 1; omega
    rw [this, ih, show n + 1 - 1 - 0 = n by omega]; omega
theorem sm_nonneg {n : Nat} {f : Nat → Int} (h : ∀ i, i < n → 0 ≤ f i) : 0 ≤ sm n f := by
  induction n with
  | zero => exact Int.le_refl _
  | succ n ih =>
    have := ih fun i hi => h i (by omega)
    have := h n (by omega)
    show 0 ≤ sm n f + f n
    omega
theorem sm_one {n j : Nat} {f : Nat → Int} (hj : j < n) (h : ∀ i, i < n → i ≠ j → f i = 0) : sm n f = f j := by
  induction n with
  | zero => omega
  | succ n ih =>
    show sm n f + f n = f j
    by_cases e : j = n
    · subst e
      rw [sm_zero fun i hi => h i (by omega) (by omega)]; omega
    · rw [ih (by omega) fun i hi => h i (by omega), h n (by omega) (by omega)]; omega
theorem sm_sub {n : Nat} {f g : Nat → Int} : sm n (fun i => f i - g i) = sm n f - sm n g := by
  have := sm_add (n := n) (f := f) (g := fun i => - g i)
  rw [sm_neg] at this
  have e : sm n (fun i => f i - g i) = sm n (fun i => f i + - g i) := sm_congr fun i _ => by omega
  omega
theorem sm_append {n m : Nat} {f : Nat → Int} : sm (n + m) f = sm n f + sm m fun i => f (n + i) := by
  induction m with
  | zero => show sm n f = sm n f + 0; omega
  | succ m ih =>
    show sm (n + m) f + f (n + m) = sm n f + (sm m (fun i => f (n + i)) + f (n + m))
    rw [ih]; omega
/-! ### likes in so many runs -/
def cmp : Nat → Nat → Int
  | 0, 0 => 1
  | 0, _ + 1 => 0
  | _ + 1, 0 => 0
  | m + 1, r + 1 => (ch m r : Int)
theorem cmp_pas : ∀ m r : Nat, (ch m r : Int) = cmp m (r + 1) + cmp m r
  | 0, 0 => rfl
  | 0, r + 1 => rfl
  | m + 1, 0 => by show (ch (m + 1) 0 : Int) = (ch m 0 : Int) + 0; rw [ch_zero, ch_zero]; rfl
  | m + 1, r + 1 => by show (ch (m + 1) (r + 1) : Int) = (ch m (r + 1) : Int) + (ch m r : Int); rw [ch_ss]; omega
theorem cmp_sum (r : Nat) : ∀ m : Nat, cmp m (r + 1) = sm m fun t => cmp t r
  | 0 => rfl
  | m + 1 => by
    show (ch m r : Int) = sm m (fun t => cmp t r) + cmp m r
    rw [cmp_pas, cmp_sum r m]
theorem cmp_gt : ∀ {m r : Nat}, m < r → cmp m r = 0
  | 0, r + 1, _ => rfl
  | m + 1, r + 1, h => by show (ch m r : Int) = 0; rw [ch_gt (by omega)]; rfl
theorem cmp_zero : ∀ m : Nat, cmp m 0 = if m = 0 then 1 else 0
  | 0 => rfl
  | m + 1 => rfl
theorem cmp_self : ∀ m : Nat, cmp m m = 1
  | 0 => rfl
  | m + 1 => by show (ch m m : Int) = 1; rw [ch_self]; rfl
/-- a bag in so many runs, likes joined within them -/
def WR : List Nat → Nat → Int
  | [], s => if s = 0 then 1 else 0
  | m :: c, s => sm (s + 1) fun r => WR c (s - r) * cmp m r * (ch s r : Int)
def RR : List Nat → Nat → Int
  | [], _ => 0
  | m :: c, s => sm m (fun t => WR (t :: c) s) + sm (s + 1) fun r => RR c (s - r) * cmp m r * (ch s r : Int)
theorem WR_cons (m : Nat) (c : List Nat) (s : Nat) : WR (m :: c) s = sm (s + 1) fun r => WR c (s - r) * cmp m r * (ch s r : Int) := rfl
theorem WR_second (m : Nat) (c : List Nat) (s : Nat) : (sm (s + 1) fun r => WR c (s - r) * cmp m (r + 1) * (ch s r : Int)) = sm m fun t => WR (t :: c) s := by
  have : (sm m fun t => WR (t :: c) s) = sm (s + 1) fun r => sm m fun t => WR c (s - r) * cmp t r * (ch s r : Int) := by
    rw [← sm_swap]
    exact sm_congr fun t _ => rfl
  rw [this]
  refine sm_congr fun r _ => ?_
  rw [cmp_sum, sm_mulr, sm_mul]
theorem WR_step : ∀ (c : List Nat) (s : Nat), WR c (s + 1) = RR c s
  | [], s => rfl
  | m :: c, s => by
    rw [WR_cons, sm_head]
    have e0 : WR c (s + 1 - 0) * cmp m 0 * (ch (s + 1) 0 : Int) = RR c (s - 0) * cmp m 0 * (ch s 0 : Int) := by
      rw [ch_zero, ch_zero, show s + 1 - 0 = s + 1 from rfl, WR_step c s]; rfl
    have e1 : (sm (s + 1) fun i => WR c (s + 1 - (i + 1)) * cmp m (i + 1) * (ch (s + 1) (i + 1) : Int)) = (sm (s + 1) fun i => WR c (s - i) * cmp m (i + 1) * (ch s i : Int)) + sm s fun i => RR c (s - (i + 1)) * cmp m (i + 1) * (ch s (i + 1) : Int) := by
      have : (sm (s + 1) fun i => WR c (s + 1 - (i + 1)) * cmp m (i + 1) * (ch (s + 1) (i + 1) : Int)) = sm (s + 1) fun i => WR c (s - i) * cmp m (i + 1) * (ch s i : Int) + WR c (s - i) * cmp m (i + 1) * (ch s (i + 1) : Int) := by
        refine sm_congr fun i _ => ?_
        rw [show s + 1 - (i + 1) = s - i by omega, ch_ss, Int.natCast_add, Int.mul_add]
      rw [this, sm_add]
      congr 1
      show sm s _ + WR c (s - s) * cmp m (s + 1) * (ch s (s + 1) : Int) = _
      rw [ch_gt (by omega : s < s + 1)]
      have : (sm s fun i => WR c (s - i) * cmp m (i + 1) * (ch s (i + 1) : Int)) = sm s fun i => RR c (s - (i + 1)) * cmp m (i + 1) * (ch s (i + 1) : Int) := by
        refine sm_congr fun i hi => ?_
        rw [show s - i = (s - (i + 1)) + 1 by omega, WR_step c]
      rw [this]
      simp
    rw [e0, e1, WR_second]
    show _ = sm m (fun t => WR (t :: c) s) + sm (s + 1) fun r => RR c (s - r) * cmp m r * (ch s r : Int)
    rw [sm_head (f := fun r => RR c (s - r) * cmp m r * (ch s r : Int))]
    omega
theorem WR_many : ∀ (c : List Nat) {s : Nat}, c.sum < s → WR c s = 0
  | [], s, h => by show (if s = 0 then (1 : Int) else 0) = 0; rw [if_neg]; simp at h; omega
  | m :: c, s, h => by
    rw [WR_cons]
    refine sm_zero fun r hr => ?_
    rw [List.sum_cons] at h
    by_cases h1 : m < r
    · rw [cmp_gt h1]; simp
    · rw [WR_many c (by omega)]; simp
theorem WR_nought : ∀ c : List Nat, WR c 0 = if c.sum = 0 then 1 else 0
  | [] => rfl
  | m :: c => by
    rw [WR_cons]
    show (0 : Int) + WR c (0 - 0) * cmp m 0 * (ch 0 0 : Int) = _
    rw [show 0 - 0 = 0 from rfl, WR_nought c, cmp_zero, List.sum_cons, ch_zero]
    by_cases h1 : m = 0 <;> by_cases h2 : c.sum = 0 <;> simp [h1, h2]
theorem RR_index : ∀ (c : List Nat) (s : Nat), RR c s = sm c.length fun i => sm (c.getD i 0) fun u => WR (c.set i u) s
  | [], s => rfl
  | m :: c, s => by
    show _ = sm (c.length + 1) _
    rw [sm_head]
    show sm m (fun t => WR (t :: c) s) + sm (s + 1) (fun r => RR c (s - r) * cmp m r * (ch s r : Int)) = sm m (fun u => WR (u :: c) s) + sm c.length fun i => sm (c.getD i 0) fun u => WR (m :: c.set i u) s
    congr 1
    have : (sm c.length fun i => sm (c.getD i 0) fun u => WR (m :: c.set i u) s) = sm c.length fun i => sm (s + 1) fun r => sm (c.getD i 0) fun u => WR (c.set i u) (s - r) * cmp m r * (ch s r : Int) := by
      refine sm_congr fun i _ => ?_
      rw [← sm_swap]
      exact sm_congr fun u _ => rfl
    rw [this, sm_swap]
    refine sm_congr fun r _ => ?_
    rw [RR_index c (s - r), ← sm_mulr, ← sm_mulr]
    refine sm_congr fun i _ => ?_
    rw [← sm_mulr, ← sm_mulr]
/-! ### rows, name by name -/
def dec (c : List Nat) (i : Nat) : List Nat := c.set i (c.getD i 0 - 1)
theorem dec_len (c : List Nat) (i : Nat) : (dec c i).length = c.length := by unfold dec; simp
theorem sum_setN : ∀ {c : List Nat} {i v : Nat}, i < c.length → (c.set i v).sum + c.getD i 0 = c.sum + v
  | m :: c, 0, v, _ => by simp; omega
  | m :: c, i + 1, v, h => by
    have := sum_setN (c := c) (i := i) (v := v) (by simpa using h)
    simp at this ⊢
    omega
theorem dec_sum {c : List Nat} {i : Nat} (h : 0 < c.getD i 0) : (dec c i).sum + 1 = c.sum := by
  have hi : i < c.length := by
    rcases Nat.lt_or_ge i c.length with h1 | h1
    · exact h1
    · rw [List.getD_eq_getElem?_getD, List.getElem?_eq_none h1] at h; simp at h
  have := sum_setN (c := c) (i := i) (v := c.getD i 0 - 1) hi
  unfold dec
  omega
theorem getD_set {c : List Nat} {i j v : Nat} (hi : i < c.length) : (c.set i v).getD j 0 = if i = j then v else c.getD j 0 := by
  simp only [List.getD_eq_getElem?_getD, List.getElem?_set]
  by_cases h : i = j
  · subst h; simp [hi]
  · simp [h]
/-- the sum over the rows of so many pairs of likes chosen of those that touch, behind a last name -/
def Bm : Nat → Nat → List Nat → Nat → Int
  | 0, _, _, k => if k = 0 then 1 else 0
  | n + 1, last, c, k => sm c.length fun i => if 0 < c.getD i 0 then Bm n i (dec c i) k + (if i = last ∧ 0 < k then Bm n i (dec c i) (k - 1) else 0) else 0
theorem Bm_last {n : Nat} {last : Nat} {c : List Nat} {k : Nat} (hl : last < c.length) : Bm (n + 1) last c k = Bm (n + 1) c.length c k + (if 0 < c.getD last 0 ∧ 0 < k then Bm n last (dec c last) (k - 1) else 0) := by
  show (sm c.length fun i => if 0 < c.getD i 0 then Bm n i (dec c i) k + (if i = last ∧ 0 < k then Bm n i (dec c i) (k - 1) else 0) else 0) = (sm c.length fun i => if 0 < c.getD i 0 then Bm n i (dec c i) k + (if i = c.length ∧ 0 < k then Bm n i (dec c i) (k - 1) else 0) else 0) + _
  have e1 : (sm c.length fun i => if 0 < c.getD i 0 then Bm n i (dec c i) k + (if i = last ∧ 0 < k then Bm n i (dec c i) (k - 1) else 0) else 0) = (sm c.length fun i => (if 0 < c.getD i 0 then Bm n i (dec c i) k + (if i = c.length ∧ 0 < k then Bm n i (dec c i) (k - 1) else 0) else 0) + (if i = last then (if 0 < c.getD last 0 ∧ 0 < k then Bm n last (dec c last) (k - 1) else 0) else 0)) := by
    refine sm_congr fun i hi => ?_
    have hne : ¬ (i = c.length ∧ 0 < k) := fun h => by omega
    by_cases h1 : 0 < c.getD i 0
    · rw [if_pos h1, if_pos h1, if_neg hne]
      by_cases h2 : i = last
      · subst h2
        simp only [h1, true_and, if_true]
        omega
      · have h3 : ¬ (i = last ∧ 0 < k) := fun h => h2 h.1
        rw [if_neg h3, if_neg h2]; omega
    · rw [if_neg h1, if_neg h1]
      by_cases h2 : i = last
      · subst h2
        rw [if_pos rfl, if_neg (fun h => h1 h.1)]; rfl
      · rw [if_neg h2]; rfl
  rw [e1, sm_add]
  congr 1
  rw [sm_one hl (fun i _ hne => if_neg hne)]
  rw [if_pos rfl]
/-- rows behind a last name, by how many of it follow at once -/
theorem Bm_runs : ∀ (m : Nat) {n last : Nat} {c : List Nat} {k : Nat}, last < c.length → c.getD last 0 = m → c.sum = n → Bm n last c k = sm (m + 1) fun t => if t ≤ k then Bm (n - t) c.length (c.set last (m - t)) (k - t) else 0 := by
  intro m
  induction m with
  | zero =>
    intro n last c k hl hm hs
    show _ = 0 + (if 0 ≤ k then Bm (n - 0) c.length (c.set last (0 - 0)) (k - 0) else 0)
    rw [if_pos (Nat.zero_le _), Int.zero_add]
    have e : c.set last 0 = c := by
      apply List.ext_getElem?
      intro i
      rw [List.getElem?_set]
      by_cases h : last = i
      · subst h
        rw [List.getD_eq_getElem?_getD, List.getElem?_eq_getElem hl] at hm
        simp [hl] at hm ⊢
        exact hm.symm
      · rw [if_neg h]
    show _ = Bm n c.length (c.set last 0) k
    rw [e]
    cases n with
    | zero => rfl
    | succ n =>
      rw [Bm_last hl, if_neg (by omega)]; omega
  | succ m ih =>
    intro n last c k hl hm hs
    obtain ⟨n, rfl⟩ : ∃ n', n = n' + 1 := ⟨n - 1, by have := dec_sum (c := c) (i := last) (by omega); omega⟩
    rw [Bm_last hl, sm_head]
    have e0 : (if 0 ≤ k then Bm (n + 1 - 0) c.length (c.set last (m + 1 - 0)) (k - 0) else 0) = Bm (n + 1) c.length c k := by
      rw [if_pos (Nat.zero_le _)]
      have e : c.set last (m + 1) = c := by
        apply List.ext_getElem?
        intro i
        rw [List.getElem?_set]
        by_cases h : last = i
        · subst h
          rw [List.getD_eq_getElem?_getD, List.getElem?_eq_getElem hl] at hm
          simp [hl] at hm ⊢
          exact hm.symm
        · rw [if_neg h]
      show Bm (n + 1) c.length (c.set last (m + 1)) k = _
      rw [e]
    rw [e0]
    congr 1
    by_cases hk : 0 < k
    · rw [if_pos ⟨by omega, hk⟩]
      have hd := dec_sum (c := c) (i := last) (by omega)
      rw [ih (n := n) (last := last) (c := dec c last) (k := k - 1) (by rw [dec_len]; exact hl) (by unfold dec; rw [getD_set hl, if_pos rfl]; omega) (by omega)]
      refine sm_congr fun t ht => ?_
      have e1 : (dec c last).set last (m - t) = c.set last (m + 1 - (t + 1)) := by
        unfold dec
        rw [List.set_set, show m + 1 - (t + 1) = m - t by omega]
      rw [e1, dec_len, show n + 1 - (t + 1) = n - t by omega, show k - (t + 1) = k - 1 - t by omega]
      by_cases h : t + 1 ≤ k
      · rw [if_pos h, if_pos (by omega)]
      · rw [if_neg h, if_neg (by omega)]
    · rw [if_neg (fun h => hk h.2)]
      exact (sm_zero fun t _ => if_neg (by omega)).symm
theorem Bm_eq : ∀ (n : Nat) {c : List Nat} {k : Nat}, c.sum = n → Bm n c.length c k = if k ≤ n then WR c (n - k) else 0 := by
  intro n
  induction n using Nat.strongRecOn with
  | _ n ih =>
    intro c k hs
    cases n with
    | zero =>
      show (if k = 0 then (1 : Int) else 0) = _
      by_cases h : k = 0
      · subst h
        rw [if_pos rfl, if_pos (Nat.le_refl _), WR_nought, if_pos hs]
      · rw [if_neg h, if_neg (by omega)]
    | succ n =>
      have e1 : Bm (n + 1) c.length c k = sm c.length fun i => sm (c.getD i 0) fun t => if t ≤ k then Bm (n - t) c.length (c.set i (c.getD i 0 - 1 - t)) (k - t) else 0 := by
        show (sm c.length fun i => if 0 < c.getD i 0 then Bm n i (dec c i) k + (if i = c.length ∧ 0 < k then Bm n i (dec c i) (k - 1) else 0) else 0) = _
        refine sm_congr fun i hi => ?_
        by_cases h : 0 < c.getD i 0
        · rw [if_pos h, if_neg (fun z => by omega), Int.add_zero]
          have hd := dec_sum h
          rw [Bm_runs (c.getD i 0 - 1) (n := n) (last := i) (c := dec c i) (by rw [dec_len]; exact hi) (by unfold dec; rw [getD_set hi, if_pos rfl]) (by omega)]
          rw [show c.getD i 0 - 1 + 1 = c.getD i 0 by omega]
          refine sm_congr fun t ht => ?_
          have e2 : (dec c i).set i (c.getD i 0 - 1 - t) = c.set i (c.getD i 0 - 1 - t) := by unfold dec; rw [List.set_set]
          rw [e2, dec_len]
        · rw [if_neg h, show c.getD i 0 = 0 by omega]; rfl
      rw [e1]
      have key : ∀ i t, i < c.length → t < c.getD i 0 → (if t ≤ k then Bm (n - t) c.length (c.set i (c.getD i 0 - 1 - t)) (k - t) else 0) = if k ≤ n then WR (c.set i (c.getD i 0 - 1 - t)) (n - k) else 0 := by
        intro i t hi ht
        have hsum := sum_setN (c := c) (i := i) (v := c.getD i 0 - 1 - t) hi
        have hlen : (c.set i (c.getD i 0 - 1 - t)).length = c.length := List.length_set
        by_cases h : t ≤ k
        · rw [if_pos h]
          have := ih (n - t) (by omega) (c := c.set i (c.getD i 0 - 1 - t)) (k := k - t) (by omega)
          rw [hlen] at this
          rw [this]
          by_cases h2 : k ≤ n
          · rw [if_pos h2, if_pos (by omega), show n - t - (k - t) = n - k by omega]
          · rw [if_neg h2, if_neg (by omega)]
        · rw [if_neg h]
          by_cases h2 : k ≤ n
          · rw [if_pos h2, WR_many _ (by omega)]
          · rw [if_neg h2]
      have e3 : (sm c.length fun i => sm (c.getD i 0) fun t => if t ≤ k then Bm (n - t) c.length (c.set i (c.getD i 0 - 1 - t)) (k - t) else 0) = sm c.length fun i => sm (c.getD i 0) fun u => if k ≤ n then WR (c.set i u) (n - k) else 0 := by
        refine sm_congr fun i hi => ?_
        rw [← sm_rev (f := fun u => if k ≤ n then WR (c.set i u) (n - k) else 0)]
        exact sm_congr fun t ht => key i t hi ht
      rw [e3]
      by_cases h2 : k ≤ n
      · simp only [h2, if_true, show k ≤ n + 1 by omega]
        rw [show n + 1 - k = n - k + 1 by omega, WR_step, RR_index]
      · simp only [h2, if_false]
        rw [sm_zero fun i _ => sm_zero fun _ _ => rfl]
        by_cases h3 : k ≤ n + 1
        · rw [if_pos h3, show n + 1 - k = 0 by omega, WR_nought, if_neg (by omega)]
        · rw [if_neg h3]
end Vs

namespace Vs
/-! ### signs, and counts from sums of choices -/
def sg (n : Nat) : Int := 1 - 2 * ((n : Int) % 2)
theorem sg_zero : sg 0 = 1 := rfl
theorem sg_succ (n : Nat) : sg (n + 1) = - sg n := by unfold sg; omega
theorem sg_add (n m : Nat) : sg (n + m) = sg n * sg m := by
  induction m with
  | zero => rw [Nat.add_zero, sg_zero, Int.mul_one]
  | succ m ih => rw [← Nat.add_assoc, sg_succ, sg_succ, ih, Int.mul_neg]
theorem sg_two (n : Nat) : sg (n + n) = 1 := by unfold sg; omega
theorem sg_sub {n m : Nat} (h : m ≤ n) : sg (n - m) = sg (n + m) := by
  unfold sg
  omega
theorem ch_inv : ∀ (i j M : Nat), i < M → (sm M fun k => sg (k + j) * (ch i k : Int) * (ch k j : Int)) = if i = j then 1 else 0 := by
  intro i
  induction i with
  | zero =>
    intro j M hM
    obtain ⟨M, rfl⟩ : ∃ M', M = M' + 1 := ⟨M - 1, by omega⟩
    rw [sm_head, sm_zero (fun k _ => by rw [ch_gt (by omega : 0 < k + 1)]; simp)]
    cases j with
    | zero => rfl
    | succ j => rw [ch_gt (by omega : 0 < j + 1)]; simp
  | succ i ih =>
    intro j M hM
    obtain ⟨M, rfl⟩ : ∃ M', M = M' + 1 := ⟨M - 1, by omega⟩
    -- split by Pascal in the upper place
    have e1 : (sm (M + 1) fun k => sg (k + j) * (ch (i + 1) k : Int) * (ch k j : Int)) = (sm (M + 1) fun k => sg (k + j) * (ch i k : Int) * (ch k j : Int)) + sm M fun k => sg (k + 1 + j) * (ch i k : Int) * (ch (k + 1) j : Int) := by
      rw [sm_head, sm_head (f := fun k => sg (k + j) * (ch i k : Int) * (ch k j : Int)), ch_zero, ch_zero]
      have : (sm M fun k => sg (k + 1 + j) * (ch (i + 1) (k + 1) : Int) * (ch (k + 1) j : Int)) = (sm M fun k => sg (k + 1 + j) * (ch i (k + 1) : Int) * (ch (k + 1) j : Int) + sg (k + 1 + j) * (ch i k : Int) * (ch (k + 1) j : Int)) := by
        refine sm_congr fun k _ => ?_
        rw [ch_ss, Int.natCast_add, Int.mul_add, Int.add_mul]; omega
      rw [this, sm_add]; omega
    rw [e1, ih j (M + 1) (by omega)]
    cases j with
    | zero =>
      have e2 : (sm M fun k => sg (k + 1 + 0) * (ch i k : Int) * (ch (k + 1) 0 : Int)) = sm M fun k => - (sg (k + 0) * (ch i k : Int) * (ch k 0 : Int)) := by
        refine sm_congr fun k _ => ?_
        rw [ch_zero, ch_zero, show k + 1 + 0 = (k + 0) + 1 from rfl, sg_succ, Int.neg_mul, Int.neg_mul]; rfl
      rw [e2, sm_neg, ih 0 M (by omega)]
      simp; omega
    | succ j =>
      have e2 : (sm M fun k => sg (k + 1 + (j + 1)) * (ch i k : Int) * (ch (k + 1) (j + 1) : Int)) = sm M fun k => (sg (k + j) * (ch i k : Int) * (ch k j : Int)) + - (sg (k + (j + 1)) * (ch i k : Int) * (ch k (j + 1) : Int)) := by
        refine sm_congr fun k _ => ?_
        have s1 : sg (k + 1 + (j + 1)) = sg (k + j) := by unfold sg; omega
        have s2 : sg (k + (j + 1)) = - sg (k + j) := by unfold sg; omega
        rw [ch_ss, s1, s2, Int.natCast_add, Int.mul_add]
        simp [Int.neg_mul]
      rw [e2, sm_add, sm_neg, ih j M (by omega), ih (j + 1) M (by omega)]
      by_cases hij : i = j
      · subst hij; simp
      · rw [if_neg hij, if_neg (show ¬ i + 1 = j + 1 by omega)]; omega
/-- what is counted by choices tells what is counted -/
theorem count_inv {L : Nat} {F B : Nat → Int} (h : ∀ k, k < L → B k = sm L fun j => (ch j k : Int) * F j) (j : Nat) (hj : j < L) : (sm L fun k => sg (k + j) * (ch k j : Int) * B k) = F j := by
  have e1 : (sm L fun k => sg (k + j) * (ch k j : Int) * B k) = sm L fun k => sm L fun i => sg (k + j) * (ch i k : Int) * (ch k j : Int) * F i := by
    refine sm_congr fun k hk => ?_
    rw [h k hk, ← sm_mul]
    refine sm_congr fun i _ => ?_
    grind
  rw [e1, sm_swap]
  have e2 : (sm L fun i => sm L fun k => sg (k + j) * (ch i k : Int) * (ch k j : Int) * F i) = sm L fun i => (if i = j then 1 else 0) * F i := by
    refine sm_congr fun i hi => ?_
    rw [sm_mulr, ch_inv i j L hi]
  rw [e2, sm_one hj (fun i _ hne => by rw [if_neg hne]; simp)]
  simp
/-! ### factorials -/
def fac : Nat → Nat
  | 0 => 1
  | n + 1 => (n + 1) * fac n
theorem fac_pos : ∀ n, 0 < fac n
  | 0 => Nat.one_pos
  | n + 1 => Nat.mul_pos (by omega) (fac_pos n)
theorem ch_fac : ∀ (n k : Nat), ch (n + k) k * (fac k * fac n) = fac (n + k)
  | n, 0 => by rw [ch_zero]; simp [fac]
  | 0, k + 1 => by rw [Nat.zero_add, ch_self]; simp [fac]
  | n + 1, k + 1 => by
    have h1 := ch_fac (n + 1) k
    have h2 := ch_fac n (k + 1)
    show ch ((n + 1 + k) + 1) (k + 1) * _ = (n + 1 + k + 1) * fac (n + 1 + k)
    rw [ch_ss, Nat.add_mul]
    have e1 : fac (k + 1) = (k + 1) * fac k := rfl
    have e2 : fac (n + 1) = (n + 1) * fac n := rfl
    have e3 : n + (k + 1) = n + 1 + k := by omega
    rw [e3] at h2
    have a1 : ch (n + 1 + k) k * (fac (k + 1) * fac (n + 1)) = (k + 1) * fac (n + 1 + k) := by
      rw [← h1, e1]; grind
    have a2 : ch (n + 1 + k) (k + 1) * (fac (k + 1) * fac (n + 1)) = (n + 1) * fac (n + 1 + k) := by
      rw [← h2, e2]; grind
    rw [a1, a2]; grind
theorem ch_fac' {n k : Nat} (h : k ≤ n) : ch n k * (fac k * fac (n - k)) = fac n := by
  have := ch_fac (n - k) k
  rwa [show n - k + k = n by omega] at this
/-- three parts chosen in either order -/
theorem ch_tri {n a b : Nat} (h : a + b ≤ n) : ch n a * ch (n - a) b = ch n b * ch (n - b) a := by
  have h1 := ch_fac' (n := n) (k := a) (by omega)
  have h2 := ch_fac' (n := n - a) (k := b) (by omega)
  have h3 := ch_fac' (n := n) (k := b) (by omega)
  have h4 := ch_fac' (n := n - b) (k := a) (by omega)
  have e : n - b - a = n - a - b := by omega
  rw [e] at h4
  have p1 := fac_pos a
  have p2 := fac_pos b
  have p3 := fac_pos (n - a - b)
  have p : 0 < fac a * fac b * fac (n - a - b) := Nat.mul_pos (Nat.mul_pos p1 p2) p3
  apply Nat.eq_of_mul_eq_mul_right p
  have l : ch n a * ch (n - a) b * (fac a * fac b * fac (n - a - b)) = fac n := by rw [← h1, ← h2]; grind
  have r : ch n b * ch (n - b) a * (fac a * fac b * fac (n - a - b)) = fac n := by rw [← h3, ← h4]; grind
  rw [l, r]
theorem ch_sym {n k : Nat} (h : k ≤ n) : ch n k = ch n (n - k) := by
  have := ch_tri (n := n) (a := k) (b := n - k) (by omega)
  rw [ch_self, Nat.mul_one] at this
  rw [this, show n - (n - k) = k by omega, ch_self, Nat.mul_one]
/-- Vandermonde -/
theorem ch_van : ∀ (a b r : Nat), (sm (r + 1) fun t => (ch a t : Int) * (ch b (r - t) : Int)) = (ch (a + b) r : Int)
  | 0, b, r => by
    rw [sm_head, sm_zero (fun t _ => by rw [ch_gt (by omega : 0 < t + 1)]; simp), ch_zero]
    simp
  | a + 1, b, 0 => by show (0 : Int) + (ch (a + 1) 0 : Int) * (ch b (0 - 0) : Int) = _; rw [ch_zero, ch_zero, ch_zero]; rfl
  | a + 1, b, r + 1 => by
    have i1 := ch_van a b (r + 1)
    have i2 := ch_van a b r
    rw [sm_head] at i1
    rw [sm_head]
    have e : (sm (r + 1) fun t => (ch (a + 1) (t + 1) : Int) * (ch b (r + 1 - (t + 1)) : Int)) = (sm (r + 1) fun t => (ch a t : Int) * (ch b (r - t) : Int)) + sm (r + 1) fun t => (ch a (t + 1) : Int) * (ch b (r + 1 - (t + 1)) : Int) := by
      rw [← sm_add]
      refine sm_congr fun t _ => ?_
      rw [ch_ss, Int.natCast_add, Int.add_mul, show r + 1 - (t + 1) = r - t by omega]
    rw [e, i2, show a + 1 + b = (a + b) + 1 by omega, ch_ss, Int.natCast_add, ← i1, ch_zero, ch_zero]
    omega
/-! ### the order of a bag's names doesn't matter -/
/-- a sum over a triangle in either order -/
theorem sm_tri {s : Nat} {f : Nat → Nat → Int} : (sm (s + 1) fun a => sm (s - a + 1) (f a)) = sm (s + 1) fun b => sm (s - b + 1) fun a => f a b := by
  have l : (sm (s + 1) fun a => sm (s - a + 1) (f a)) = sm (s + 1) fun a => sm (s + 1) fun b => if a + b ≤ s then f a b else 0 := by
    refine sm_congr fun a ha => ?_
    rw [sm_more (n := s - a + 1) (m := s + 1) (by omega) (fun i h1 _ => if_neg (by omega))]
    exact sm_congr fun b hb => (if_pos (by omega)).symm
  have r : (sm (s + 1) fun b => sm (s - b + 1) fun a => f a b) = sm (s + 1) fun b => sm (s + 1) fun a => if a + b ≤ s then f a b else 0 := by
    refine sm_congr fun b hb => ?_
    rw [sm_more (n := s - b + 1) (m := s + 1) (by omega) (fun i h1 _ => if_neg (by omega))]
    exact sm_congr fun a ha => (if_pos (by omega)).symm
  rw [l, r, sm_swap]
theorem WR_swap (m m' : Nat) (c : List Nat) (s : Nat) : WR (m :: m' :: c) s = WR (m' :: m :: c) s := by
  have e : ∀ m m' : Nat, WR (m :: m' :: c) s = sm (s + 1) fun r => sm (s - r + 1) fun r' => WR c (s - r - r') * cmp m' r' * (ch (s - r) r' : Int) * cmp m r * (ch s r : Int) := by
    intro m m'
    rw [WR_cons]
    refine sm_congr fun r _ => ?_
    rw [WR_cons, ← sm_mulr, ← sm_mulr]
  rw [e, e, sm_tri]
  refine sm_congr fun r hr => sm_congr fun r' hr' => ?_
  have h := ch_tri (n := s) (a := r) (b := r') (by omega)
  have h' : (ch s r : Int) * (ch (s - r) r' : Int) = (ch s r' : Int) * (ch (s - r') r : Int) := by exact_mod_cast h
  rw [show s - r' - r = s - r - r' by omega]
  grind
theorem WR_perm {c c' : List Nat} (h : c.Perm c') : ∀ s, WR c s = WR c' s := by
  induction h with
  | nil => intro s; rfl
  | cons m _ ih => intro s; rw [WR_cons, WR_cons]; exact sm_congr fun r _ => by rw [ih]
  | swap m m' c => intro s; exact WR_swap _ _ _ _
  | trans _ _ i1 i2 => intro s; rw [i1, i2]
theorem WR_few : ∀ (c : List Nat) {s : Nat}, (∀ m ∈ c, 0 < m) → s < c.length → WR c s = 0
  | [], s, _, h => by simp at h
  | m :: c, s, hp, h => by
    rw [WR_cons]
    refine sm_zero fun r hr => ?_
    have hm := hp m List.mem_cons_self
    cases r with
    | zero => rw [cmp_zero, if_neg (by omega)]; simp
    | succ r =>
      rw [WR_few c (fun m h => hp m (List.mem_cons_of_mem _ h)) (by simp at h; omega)]; simp
/-! ### how many rows have just so many touches, name by name -/
def Nt : Nat → Nat → List Nat → Nat → Int
  | 0, _, _, j => if j = 0 then 1 else 0
  | n + 1, last, c, j => sm c.length fun i => if 0 < c.getD i 0 then (if i = last then (if 0 < j then Nt n i (dec c i) (j - 1) else 0) else Nt n i (dec c i) j) else 0
theorem Nt_many : ∀ (n last : Nat) (c : List Nat) {j : Nat}, n < j → Nt n last c j = 0
  | 0, _, _, j, h => if_neg (by omega)
  | n + 1, last, c, j, h => by
    refine sm_zero fun i _ => ?_
    by_cases h1 : 0 < c.getD i 0
    · rw [if_pos h1]
      by_cases h2 : i = last
      · rw [if_pos h2, if_pos (by omega), Nt_many n _ _ (by omega)]
      · rw [if_neg h2, Nt_many n _ _ (by omega)]
    · rw [if_neg h1]
theorem Nt_pos : ∀ (n last : Nat) (c : List Nat) (j : Nat), 0 ≤ Nt n last c j
  | 0, _, _, j => by show 0 ≤ (if j = 0 then (1 : Int) else 0); split <;> omega
  | n + 1, last, c, j => by
    refine sm_nonneg fun i _ => ?_
    have h1 := Nt_pos n i (dec c i) (j - 1)
    have h2 := Nt_pos n i (dec c i) j
    split
    · split
      · split
        · exact h1
        · omega
      · exact h2
    · omega
theorem Bm_Nt : ∀ (n last : Nat) (c : List Nat) (k L : Nat), n < L → Bm n last c k = sm L fun j => (ch j k : Int) * Nt n last c j
  | 0, last, c, k, L, hL => by
    obtain ⟨L, rfl⟩ : ∃ L', L = L' + 1 := ⟨L - 1, by omega⟩
    rw [sm_head, sm_zero (fun j _ => by rw [Nt_many 0 _ _ (by omega)]; simp)]
    show (if k = 0 then (1 : Int) else 0) = (ch 0 k : Int) * (if 0 = 0 then 1 else 0) + 0
    cases k with
    | zero => rfl
    | succ k => rw [ch_gt (by omega : 0 < k + 1)]; rfl
  | n + 1, last, c, k, L, hL => by
    have e : (sm L fun j => (ch j k : Int) * Nt (n + 1) last c j) = sm c.length fun i => sm L fun j => (ch j k : Int) * (if 0 < c.getD i 0 then (if i = last then (if 0 < j then Nt n i (dec c i) (j - 1) else 0) else Nt n i (dec c i) j) else 0) := by
      rw [← sm_swap]
      refine sm_congr fun j _ => ?_
      rw [sm_mul]; rfl
    rw [e]
    refine sm_congr fun i hi => ?_
    by_cases h1 : 0 < c.getD i 0
    · simp only [h1, if_true]
      by_cases h2 : i = last
      · simp only [h2, if_true, true_and]
        obtain ⟨L, rfl⟩ : ∃ L', L = L' + 1 := ⟨L - 1, by omega⟩
        have e2 : (sm (L + 1) fun j => (ch j k : Int) * (if 0 < j then Nt n last (dec c last) (j - 1) else 0)) = sm L fun j => (ch (j + 1) k : Int) * Nt n last (dec c last) j := by
          rw [sm_head]
          simp
        rw [e2]
        have ih1 := Bm_Nt n last (dec c last) k L (by omega)
        by_cases h3 : 0 < k
        · obtain ⟨k, rfl⟩ : ∃ k', k = k' + 1 := ⟨k - 1, by omega⟩
          have ih2 := Bm_Nt n last (dec c last) k L (by omega)
          rw [if_pos h3, show k + 1 - 1 = k from rfl, ih1, ih2, ← sm_add]
          refine sm_congr fun j _ => ?_
          rw [ch_ss, Int.natCast_add, Int.add_mul]; omega
        · have : k = 0 := by omega
          subst this
          rw [if_neg h3, ih1, Int.add_zero]
          refine sm_congr fun j _ => ?_
          rw [ch_zero, ch_zero]
      · have h3 : ¬ (i = last ∧ 0 < k) := fun h => h2 h.1
        rw [if_neg h3, Int.add_zero]
        simp only [h2, if_false]
        exact Bm_Nt n i (dec c i) k L (by omega)
    · simp only [h1, if_false]
      exact (sm_zero fun j _ => by simp).symm
/-- the program's way of counting: by runs, with signs -/
theorem Nt_runs {c : List Nat} {n : Nat} (hs : c.sum = n) (j : Nat) (hj : j ≤ n) : Nt n c.length c j = sm (n + 1) fun k => sg (k + j) * (ch k j : Int) * WR c (n - k) := by
  have h := count_inv (L := n + 1) (F := Nt n c.length c) (B := Bm n c.length c) (fun k _ => Bm_Nt n c.length c k (n + 1) (by omega)) j (by omega)
  rw [← h]
  refine sm_congr fun k hk => ?_
  rw [Bm_eq n hs, if_pos (by omega)]
end Vs

namespace Vs
/-! ### all rows of a bag, in order -/
def rowsOf : Nat → List Nat → List (List Nat)
  | 0, _ => [[]]
  | n + 1, c => (List.range c.length).flatMap fun i => if 0 < c.getD i 0 then (rowsOf n (dec c i)).map (i :: ·) else []
/-- touches behind a last name -/
def tch : Nat → List Nat → Nat
  | _, [] => 0
  | last, i :: r => (if i = last then 1 else 0) + tch i r
theorem countP_range {α : Type} (p : α → Bool) (f : Nat → List α) : ∀ n : Nat, ((((List.range n).flatMap f).countP p : Nat) : Int) = sm n fun i => ((f i).countP p : Int)
  | 0 => rfl
  | n + 1 => by
    rw [List.range_succ, List.flatMap_append, List.countP_append, Int.natCast_add, countP_range p f n]
    show _ = sm n _ + _
    simp
theorem rows_Nt : ∀ (n last : Nat) (c : List Nat) (j : Nat), (((rowsOf n c).countP fun r => decide (tch last r = j) : Nat) : Int) = Nt n last c j
  | 0, last, c, j => by
    show ((List.countP _ [[]] : Nat) : Int) = if j = 0 then 1 else 0
    by_cases h : j = 0
    · subst h; simp [tch]
    · have : ¬ (0 = j) := fun e => h e.symm
      simp [tch, h, this]
  | n + 1, last, c, j => by
    show ((((List.range c.length).flatMap _).countP _ : Nat) : Int) = _
    rw [countP_range]
    refine sm_congr fun i hi => ?_
    by_cases h1 : 0 < c.getD i 0
    · rw [if_pos h1, if_pos h1, List.countP_map]
      by_cases h2 : i = last
      · subst h2
        rw [if_pos rfl]
        by_cases h3 : 0 < j
        · rw [if_pos h3, ← rows_Nt n i (dec c i) (j - 1)]
          congr 1
          refine List.countP_congr fun r _ => ?_
          show decide (tch i (i :: r) = j) = true ↔ _
          simp only [tch, if_true, decide_eq_true_eq]
          omega
        · rw [if_neg h3]
          have : List.countP ((fun r => decide (tch i r = j)) ∘ fun x => i :: x) (rowsOf n (dec c i)) = 0 := by
            rw [List.countP_eq_zero]
            intro r _
            show ¬ decide (tch i (i :: r) = j) = true
            simp only [tch, if_true, decide_eq_true_eq]
            omega
          rw [this]; rfl
      · rw [if_neg h2, ← rows_Nt n i (dec c i) j]
        congr 1
        refine List.countP_congr fun r _ => ?_
        show decide (tch last (i :: r) = j) = true ↔ _
        simp only [tch, h2, if_false, decide_eq_true_eq, Nat.zero_add]
    · rw [if_neg h1, if_neg h1]; rfl
/-! ### laid place by place -/
def stepR (x : List Nat × List Nat) : List (List Nat × List Nat) := (List.range x.2.length).flatMap fun i => if 0 < x.2.getD i 0 then [(x.1 ++ [i], dec x.2 i)] else []
def layR : Nat → List (List Nat × List Nat) → List (List Nat × List Nat)
  | 0, f => f
  | n + 1, f => (layR n f).flatMap stepR
theorem layR_succ' : ∀ (n : Nat) (f : List (List Nat × List Nat)), layR (n + 1) f = layR n (f.flatMap stepR)
  | 0, f => rfl
  | n + 1, f => by
    show (layR (n + 1) f).flatMap stepR = (layR n (f.flatMap stepR)).flatMap stepR
    rw [layR_succ' n f]
theorem layR_append : ∀ (n : Nat) (f g : List (List Nat × List Nat)), layR n (f ++ g) = layR n f ++ layR n g
  | 0, f, g => rfl
  | n + 1, f, g => by
    show (layR n (f ++ g)).flatMap stepR = (layR n f).flatMap stepR ++ (layR n g).flatMap stepR
    rw [layR_append n f g, List.flatMap_append]
theorem layR_nil : ∀ n : Nat, layR n [] = []
  | 0 => rfl
  | n + 1 => by show (layR n []).flatMap stepR = []; rw [layR_nil n]; rfl
theorem layR_flat (n : Nat) {α : Type} (f : α → List (List Nat × List Nat)) : ∀ l : List α, layR n (l.flatMap f) = l.flatMap fun x => layR n (f x)
  | [] => layR_nil n
  | x :: l => by rw [List.flatMap_cons, List.flatMap_cons, layR_append, layR_flat n f l]
theorem layR_rows : ∀ (n : Nat) (r c : List Nat), (layR n [(r, c)]).map (·.1) = (rowsOf n c).map (r ++ ·)
  | 0, r, c => by show [r] = [r ++ []]; rw [List.append_nil]
  | n + 1, r, c => by
    rw [layR_succ']
    show (layR n (stepR (r, c) ++ [])).map (·.1) = _
    rw [List.append_nil]
    unfold stepR
    rw [layR_flat, List.map_flatMap]
    show _ = ((List.range c.length).flatMap fun i => if 0 < c.getD i 0 then (rowsOf n (dec c i)).map (i :: ·) else []).map (r ++ ·)
    rw [List.map_flatMap]
    congr 1
    funext i
    by_cases h : 0 < c.getD i 0
    · rw [if_pos h, if_pos h, layR_rows n (r ++ [i]) (dec c i), List.map_map]
      congr 1
      funext s
      simp
    · rw [if_neg h, if_neg h, layR_nil]; rfl
/-- what is laid is part of the bag -/
theorem layR_inv (P : List Nat × List Nat → Prop) (hstep : ∀ x y, P x → y ∈ stepR x → P y) : ∀ (n : Nat) (f : List (List Nat × List Nat)), (∀ x ∈ f, P x) → ∀ x ∈ layR n f, P x
  | 0, f, h => h
  | n + 1, f, h => by
    intro x hx
    obtain ⟨y, hy, hxy⟩ := List.mem_flatMap.mp hx
    exact hstep y x (layR_inv P hstep n f h y hy) hxy
theorem stepR_mem {x y : List Nat × List Nat} : y ∈ stepR x ↔ ∃ i, i < x.2.length ∧ 0 < x.2.getD i 0 ∧ y = (x.1 ++ [i], dec x.2 i) := by
  unfold stepR
  rw [List.mem_flatMap]
  constructor
  · rintro ⟨i, hi, hy⟩
    by_cases h : 0 < x.2.getD i 0
    · rw [if_pos h] at hy
      exact ⟨i, List.mem_range.mp hi, h, List.mem_singleton.mp hy⟩
    · rw [if_neg h] at hy; cases hy
  · rintro ⟨i, hi, h, e⟩
    refine ⟨i, List.mem_range.mpr hi, ?_⟩
    rw [if_pos h]
    exact List.mem_singleton.mpr e
theorem rows_len : ∀ (n : Nat) (c : List Nat), ∀ r ∈ rowsOf n c, r.length = n
  | 0, c, r, h => by rw [List.mem_singleton.mp h]; rfl
  | n + 1, c, r, h => by
    obtain ⟨i, _, hi⟩ := List.mem_flatMap.mp h
    by_cases h1 : 0 < c.getD i 0
    · rw [if_pos h1] at hi
      obtain ⟨s, hs, rfl⟩ := List.mem_map.mp hi
      rw [List.length_cons, rows_len n _ s hs]
    · rw [if_neg h1] at hi; cases hi
theorem rows_lt : ∀ (n : Nat) (c : List Nat), ∀ r ∈ rowsOf n c, ∀ i ∈ r, i < c.length
  | 0, c, r, h => by rw [List.mem_singleton.mp h]; simp
  | n + 1, c, r, h => by
    obtain ⟨i, hlt, hi⟩ := List.mem_flatMap.mp h
    by_cases h1 : 0 < c.getD i 0
    · rw [if_pos h1] at hi
      obtain ⟨s, hs, rfl⟩ := List.mem_map.mp hi
      intro j hj
      rcases List.mem_cons.mp hj with rfl | hj
      · exact List.mem_range.mp hlt
      · have := rows_lt n _ s hs j hj
        rwa [dec_len] at this
    · rw [if_neg h1] at hi; cases hi
/-- how many of each name a row has -/
theorem rows_count : ∀ (n : Nat) (c : List Nat), ∀ r ∈ rowsOf n c, ∀ i, r.count i ≤ c.getD i 0
  | 0, c, r, h => by rw [List.mem_singleton.mp h]; simp
  | n + 1, c, r, h => by
    obtain ⟨j, hlt, hi⟩ := List.mem_flatMap.mp h
    by_cases h1 : 0 < c.getD j 0
    · rw [if_pos h1] at hi
      obtain ⟨s, hs, rfl⟩ := List.mem_map.mp hi
      intro i
      have := rows_count n _ s hs i
      unfold dec at this
      rw [getD_set (List.mem_range.mp hlt)] at this
      by_cases h2 : j = i
      · subst h2
        rw [if_pos rfl] at this
        rw [List.count_cons_self]; omega
      · rw [if_neg h2] at this
        rw [List.count_cons_of_ne h2]; exact this
    · rw [if_neg h1] at hi; cases hi
/-! ### the most touches -/
theorem Nt_over {c : List Nat} {n : Nat} (hs : c.sum = n) (hp : ∀ m ∈ c, 0 < m) {j : Nat} (hj : n < j + c.length) : Nt n c.length c j = 0 := by
  by_cases h : j ≤ n
  · rw [Nt_runs hs j h]
    refine sm_zero fun k hk => ?_
    by_cases h2 : k < j
    · rw [ch_gt h2]; simp
    · rw [WR_few c hp (by omega)]; simp
  · exact Nt_many _ _ _ (by omega)
end Vs

namespace Vs
/-! ### likes put in, in runs, into rows of the names ahead -/
theorem ch_tri' (n a b : Nat) : (ch n a : Int) * (ch (n - a) b : Int) = (ch n b : Int) * (ch (n - b) a : Int) := by
  by_cases h : a + b ≤ n
  · exact_mod_cast ch_tri h
  · have l : ch n a * ch (n - a) b = 0 := by
      by_cases h1 : n < a
      · rw [ch_gt h1, Nat.zero_mul]
      · rw [ch_gt (n := n - a) (by omega), Nat.mul_zero]
    have r : ch n b * ch (n - b) a = 0 := by
      by_cases h1 : n < b
      · rw [ch_gt h1, Nat.zero_mul]
      · rw [ch_gt (n := n - b) (by omega), Nat.mul_zero]
    have : ch n a * ch (n - a) b = ch n b * ch (n - b) a := by rw [l, r]
    exact_mod_cast this
theorem put_a {j n m r k : Nat} (hj : j ≤ n) : (sm (r + 1) fun t => (ch j t : Int) * (ch (n + 1 - j) (r - t) : Int) * (ch (j - t + (m - r)) k : Int)) = sm (k + 1) fun u => (ch j u : Int) * (ch (n + 1 - u) r : Int) * (ch (m - r) (k - u) : Int) := by
  have e1 : (sm (r + 1) fun t => (ch j t : Int) * (ch (n + 1 - j) (r - t) : Int) * (ch (j - t + (m - r)) k : Int)) = sm (r + 1) fun t => sm (k + 1) fun u => (ch j u : Int) * (ch (m - r) (k - u) : Int) * ((ch (j - u) t : Int) * (ch (n + 1 - j) (r - t) : Int)) := by
    refine sm_congr fun t _ => ?_
    rw [← ch_van (j - t) (m - r) k, ← sm_mul]
    refine sm_congr fun u _ => ?_
    have := ch_tri' j t u
    grind
  rw [e1, sm_swap]
  refine sm_congr fun u _ => ?_
  rw [sm_mul, ch_van]
  by_cases h : u ≤ j
  · rw [show j - u + (n + 1 - j) = n + 1 - u by omega]; grind
  · rw [ch_gt (by omega : j < u)]; simp
theorem put_b {A B : Nat} {M : Nat} (hM : A < M) : (sm M fun r => (ch A r : Int) * (ch B (r + 1) : Int)) = (ch (A + B) (A + 1) : Int) := by
  rw [sm_more (n := A + 1) (by omega) (fun i h1 _ => by rw [ch_gt (by omega : A < i)]; simp), ← ch_van A B (A + 1)]
  have e0 : (sm (A + 1 + 1) fun t => (ch A t : Int) * (ch B (A + 1 - t) : Int)) = sm (A + 1) fun t => (ch A t : Int) * (ch B (A + 1 - t) : Int) := sm_more (by omega) fun t h1 _ => by rw [ch_gt (by omega : A < t)]; simp
  rw [e0]
  rw [← sm_rev (f := fun t => (ch A t : Int) * (ch B (A + 1 - t) : Int))]
  refine sm_congr fun i hi => ?_
  rw [show A + 1 - 1 - i = A - i by omega, ← ch_sym (by omega : i ≤ A), show A + 1 - (A - i) = i + 1 by omega]
theorem cmp_v {m v : Nat} (h : v < m) : cmp m (m - v) = (ch (m - 1) v : Int) := by
  obtain ⟨m, rfl⟩ : ∃ m', m = m' + 1 := ⟨m - 1, by omega⟩
  rw [show m + 1 - v = (m - v) + 1 by omega]
  show (ch m (m - v) : Int) = _
  rw [← ch_sym (by omega : v ≤ m)]; rfl
/-- what one row with j touches gives, counted by choices of k touches -/
def pik (n m j k : Nat) : Int := sm m fun r => (ch (m - 1) r : Int) * sm (r + 1 + 1) fun t => (ch j t : Int) * (ch (n + 1 - j) (r + 1 - t) : Int) * (ch (j - t + (m - (r + 1))) k : Int)
theorem pik_eq {n m j k : Nat} (hj : j ≤ n) (hk : k ≤ n + m) : pik n m j k = sm m fun v => (if v ≤ k then (ch j (k - v) : Int) else 0) * cmp m (m - v) * (ch (n + m - k) (m - v) : Int) := by
  unfold pik
  have e1 : (sm m fun r => (ch (m - 1) r : Int) * sm (r + 1 + 1) fun t => (ch j t : Int) * (ch (n + 1 - j) (r + 1 - t) : Int) * (ch (j - t + (m - (r + 1))) k : Int)) = sm m fun r => sm (k + 1) fun u => (ch j u : Int) * ((ch (m - 1) r : Int) * (ch (m - 1 - r) (k - u) : Int) * (ch (n + 1 - u) (r + 1) : Int)) := by
    refine sm_congr fun r hr => ?_
    rw [put_a hj, ← sm_mul]
    refine sm_congr fun u _ => ?_
    rw [show m - (r + 1) = m - 1 - r by omega]
    grind
  rw [e1, sm_swap]
  have e2 : ∀ u, u < k + 1 → (sm m fun r => (ch j u : Int) * ((ch (m - 1) r : Int) * (ch (m - 1 - r) (k - u) : Int) * (ch (n + 1 - u) (r + 1) : Int))) = (ch j u : Int) * (if k - u < m then cmp m (m - (k - u)) * (ch (n + m - k) (m - (k - u)) : Int) else 0) := by
    intro u hu
    rw [sm_mul]
    by_cases huj : u ≤ j
    · congr 1
      have e3 : (sm m fun r => (ch (m - 1) r : Int) * (ch (m - 1 - r) (k - u) : Int) * (ch (n + 1 - u) (r + 1) : Int)) = sm m fun r => (ch (m - 1) (k - u) : Int) * ((ch (m - 1 - (k - u)) r : Int) * (ch (n + 1 - u) (r + 1) : Int)) := by
        refine sm_congr fun r _ => ?_
        rw [ch_tri']; grind
      rw [e3, sm_mul]
      by_cases hv : k - u < m
      · rw [if_pos hv, put_b (by omega), cmp_v hv]
        rw [show m - 1 - (k - u) + (n + 1 - u) = n + m - k by omega, show m - 1 - (k - u) + 1 = m - (k - u) by omega]
      · rw [if_neg hv]
        by_cases hm : m = 0
        · subst hm; simp [sm]
        · rw [ch_gt (by omega : m - 1 < k - u)]; simp
    · rw [ch_gt (by omega : j < u)]; simp
  have e4 : (sm (k + 1) fun u => sm m fun r => (ch j u : Int) * ((ch (m - 1) r : Int) * (ch (m - 1 - r) (k - u) : Int) * (ch (n + 1 - u) (r + 1) : Int))) = sm (k + 1) fun u => (ch j u : Int) * (if k - u < m then cmp m (m - (k - u)) * (ch (n + m - k) (m - (k - u)) : Int) else 0) := sm_congr e2
  rw [e4, ← sm_rev]
  have e5 : (sm (k + 1) fun i => (ch j (k + 1 - 1 - i) : Int) * (if k - (k + 1 - 1 - i) < m then cmp m (m - (k - (k + 1 - 1 - i))) * (ch (n + m - k) (m - (k - (k + 1 - 1 - i))) : Int) else 0)) = sm (k + 1) fun v => if v < m then (if v ≤ k then (ch j (k - v) : Int) else 0) * cmp m (m - v) * (ch (n + m - k) (m - v) : Int) else 0 := by
    refine sm_congr fun v hv => ?_
    rw [show k + 1 - 1 - v = k - v by omega, show k - (k - v) = v by omega, if_pos (show v ≤ k by omega)]
    by_cases h : v < m
    · rw [if_pos h, if_pos h]; grind
    · rw [if_neg h, if_neg h, Int.mul_zero]
  rw [e5]
  have l : (sm (k + 1) fun v => if v < m then (if v ≤ k then (ch j (k - v) : Int) else 0) * cmp m (m - v) * (ch (n + m - k) (m - v) : Int) else 0) = sm (k + 1 + m) fun v => if v < m then (if v ≤ k then (ch j (k - v) : Int) else 0) * cmp m (m - v) * (ch (n + m - k) (m - v) : Int) else 0 := by
    symm
    refine sm_more (by omega) fun v h1 _ => ?_
    split
    · rw [if_neg (show ¬ v ≤ k by omega)]; simp
    · rfl
  rw [l, sm_more (n := m) (by omega) (fun v h1 _ => if_neg (by omega))]
  exact sm_congr fun v hv => if_pos hv
theorem WR_v {m : Nat} (hm : 0 < m) (c : List Nat) (s : Nat) : WR (m :: c) s = sm m fun v => WR c (s - (m - v)) * cmp m (m - v) * (ch s (m - v) : Int) := by
  rw [WR_cons]
  have e1 : (sm (s + 1) fun r => WR c (s - r) * cmp m r * (ch s r : Int)) = sm (s + 1 + m) fun r => WR c (s - r) * cmp m r * (ch s r : Int) := by
    symm
    exact sm_more (by omega) fun r h1 _ => by rw [ch_gt (by omega : s < r)]; simp
  have e2 : (sm (s + 1 + m) fun r => WR c (s - r) * cmp m r * (ch s r : Int)) = sm (m + 1) fun r => WR c (s - r) * cmp m r * (ch s r : Int) := sm_more (by omega) fun r h1 _ => by rw [cmp_gt (by omega : m < r)]; simp
  rw [e1, e2, sm_head, cmp_zero, if_neg (by omega), ← sm_rev]
  simp only [Int.mul_zero, Int.zero_mul, Int.zero_add]
  refine sm_congr fun v hv => ?_
  rw [show m - 1 - v + 1 = m - v by omega]
/-- the moments of rows of one name more -/
theorem put_in {c : List Nat} {n m : Nat} (hs : c.sum = n) (hm : 0 < m) {F : Nat → Int} (hF : ∀ k, k ≤ n → (sm (n + 1) fun j => (ch j k : Int) * F j) = WR c (n - k)) {k : Nat} (hk : k ≤ n + m) : (sm (n + 1) fun j => F j * pik n m j k) = WR (m :: c) (n + m - k) := by
  have e1 : (sm (n + 1) fun j => F j * pik n m j k) = sm (n + 1) fun j => sm m fun v => (if v ≤ k then (ch j (k - v) : Int) * F j else 0) * (cmp m (m - v) * (ch (n + m - k) (m - v) : Int)) := by
    refine sm_congr fun j hj => ?_
    rw [pik_eq (by omega) hk, ← sm_mul]
    refine sm_congr fun v _ => ?_
    split <;> grind
  rw [e1, sm_swap, WR_v hm]
  refine sm_congr fun v hv => ?_
  rw [sm_mulr, Int.mul_assoc]
  by_cases h1 : m - v ≤ n + m - k
  · by_cases h2 : v ≤ k
    · simp only [h2, if_true]
      rw [hF (k - v) (by omega), show n + m - k - (m - v) = n - (k - v) by omega]
    · simp only [h2, if_false]
      rw [sm_zero (fun _ _ => rfl), WR_many c (by omega)]
  · rw [ch_gt (by omega : n + m - k < m - v)]; simp
/-! ### a list of counts, by choices -/
def mom (k : Nat) (l : List Int) : Int := sm l.length fun j => (ch j k : Int) * l.getD j 0
def bump (l : List Int) (i : Nat) (v : Int) : List Int := l.set i (l.getD i 0 + v)
theorem bump_len {l : List Int} {i : Nat} {v : Int} : (bump l i v).length = l.length := by unfold bump; rw [List.length_set]
theorem bump_get {l : List Int} {i j : Nat} {v : Int} (h : i < l.length) : (bump l i v).getD j 0 = l.getD j 0 + if i = j then v else 0 := by
  unfold bump
  simp only [List.getD_eq_getElem?_getD, List.getElem?_set]
  by_cases e : i = j
  · subst e; simp [h]
  · simp [e]
theorem mom_bump {k : Nat} {l : List Int} {i : Nat} {v : Int} (h : i < l.length) : mom k (bump l i v) = mom k l + (ch i k : Int) * v := by
  unfold mom
  rw [bump_len]
  have : (sm l.length fun j => (ch j k : Int) * (bump l i v).getD j 0) = (sm l.length fun j => (ch j k : Int) * l.getD j 0 + (ch j k : Int) * if i = j then v else 0) := by
    refine sm_congr fun j _ => ?_
    rw [bump_get h, Int.mul_add]
  rw [this, sm_add]
  congr 1
  rw [sm_one (j := i) h (fun j _ hne => by rw [if_neg (fun e => hne e.symm)]; simp), if_pos rfl]
theorem mom_nil (k n : Nat) : mom k (List.replicate n 0) = 0 := by
  unfold mom
  refine sm_zero fun j _ => ?_
  simp [List.getD_eq_getElem?_getD, List.getElem?_replicate]
  split <;> simp
end Vs

namespace Vs
/-! ### rows without touches, by runs with signs -/
theorem WR_nul (c : List Nat) (s : Nat) : WR (0 :: c) s = WR c s := by
  rw [WR_cons, sm_head, sm_zero (fun r _ => by show WR c (s - (r + 1)) * cmp 0 (r + 1) * _ = 0; rw [show cmp 0 (r + 1) = 0 from rfl]; simp)]
  show WR c (s - 0) * cmp 0 0 * (ch s 0 : Int) + 0 = _
  rw [ch_zero, show cmp 0 0 = 1 from rfl]; simp
theorem WR_pos : ∀ (c : List Nat) (s : Nat), WR (c.filter fun m => decide (0 < m)) s = WR c s
  | [], s => rfl
  | m :: c, s => by
    by_cases h : 0 < m
    · rw [List.filter_cons_of_pos (by simpa using h), WR_cons, WR_cons]
      exact sm_congr fun r _ => by rw [WR_pos c]
    · have : m = 0 := by omega
      subst this
      rw [List.filter_cons_of_neg (by simp), WR_nul]
      exact WR_pos c s
theorem sum_pos : ∀ c : List Nat, (c.filter fun m => decide (0 < m)).sum = c.sum
  | [] => rfl
  | m :: c => by
    by_cases h : 0 < m
    · rw [List.filter_cons_of_pos (by simpa using h), List.sum_cons, List.sum_cons, sum_pos c]
    · have : m = 0 := by omega
      subst this
      rw [List.filter_cons_of_neg (by simp), List.sum_cons, sum_pos c]; omega
/-- how many rows have no touches -/
def NA (c : List Nat) : Int := sm (c.sum + 1) fun s => sg (c.sum - s) * WR c s
theorem NA_Nt (c : List Nat) : Nt c.sum c.length c 0 = NA c := by
  rw [Nt_runs rfl 0 (Nat.zero_le _)]
  unfold NA
  rw [← sm_rev]
  refine sm_congr fun s hs => ?_
  rw [ch_zero, show c.sum + 1 - 1 - s = c.sum - s by omega, show c.sum - (c.sum - s) = s by omega, Nat.add_zero]
  simp
theorem NA_perm {c c' : List Nat} (h : c.Perm c') : NA c = NA c' := by
  unfold NA
  rw [h.sum_nat]
  exact sm_congr fun s _ => by rw [WR_perm h]
theorem NA_pos (c : List Nat) : NA (c.filter fun m => decide (0 < m)) = NA c := by
  unfold NA
  rw [sum_pos]
  exact sm_congr fun s _ => by rw [WR_pos]
theorem sum_inv {c : List Nat} {n : Nat} {last : Nat} : Nt n last c 0 = sm (n + 1) fun k => sg k * Bm n last c k := by
  have h := count_inv (L := n + 1) (F := Nt n last c) (B := Bm n last c) (fun k _ => Bm_Nt n last c k (n + 1) (by omega)) 0 (by omega)
  rw [← h]
  refine sm_congr fun k _ => ?_
  rw [ch_zero, Nat.add_zero]; simp
/-- behind a last name: all, less those that begin with it -/
theorem Nt_behind {c : List Nat} {n last : Nat} (hl : last < c.length) (hs : c.sum = n) : Nt n last c 0 = sm (c.getD last 0 + 1) fun t => sg t * NA (c.set last (c.getD last 0 - t)) := by
  rw [sum_inv]
  have e1 : (sm (n + 1) fun k => sg k * Bm n last c k) = sm (n + 1) fun k => sm (c.getD last 0 + 1) fun t => if t ≤ k then sg k * Bm (n - t) c.length (c.set last (c.getD last 0 - t)) (k - t) else 0 := by
    refine sm_congr fun k _ => ?_
    rw [Bm_runs _ hl rfl hs, ← sm_mul]
    refine sm_congr fun t _ => ?_
    split <;> simp
  rw [e1, sm_swap]
  refine sm_congr fun t ht => ?_
  have hsum := sum_setN (c := c) (i := last) (v := c.getD last 0 - t) hl
  have hst : (c.set last (c.getD last 0 - t)).sum = n - t := by omega
  have htn : t ≤ n := by
    have := sum_setN (c := c) (i := last) (v := 0) hl
    omega
  have e2 : n + 1 = t + (n - t + 1) := by omega
  rw [e2, sm_append, sm_zero (n := t) (fun k hk => if_neg (by omega)), Int.zero_add, ← NA_Nt, hst]
  have := sum_inv (c := c.set last (c.getD last 0 - t)) (n := n - t) (last := (c.set last (c.getD last 0 - t)).length)
  rw [this, ← sm_mul]
  refine sm_congr fun k _ => ?_
  rw [if_pos (by omega), List.length_set, show t + k - t = k by omega, sg_add, Int.mul_assoc]
/-! ### the program's way -/
/-- likes in runs, with signs -/
def RL (m : Nat) : List Int := 0 :: (List.range m).map fun r => sg (m - (1 + r)) * (ch (m - 1) r : Int)
theorem RL_len (m : Nat) : (RL m).length = m + 1 := by unfold RL; simp
theorem RL_get {m : Nat} (hm : 0 < m) (r : Nat) : (RL m).getD r 0 = sg (m - r) * cmp m r := by
  cases r with
  | zero => show (0 : Int) = _; rw [cmp_zero, if_neg (by omega)]; simp
  | succ r =>
    show ((List.range m).map fun r => sg (m - (1 + r)) * (ch (m - 1) r : Int)).getD r 0 = _
    obtain ⟨m, rfl⟩ : ∃ m', m = m' + 1 := ⟨m - 1, by omega⟩
    rw [List.getD_eq_getElem?_getD, List.getElem?_map]
    by_cases h : r < m + 1
    · rw [List.getElem?_range h]
      show sg (m + 1 - (1 + r)) * (ch m r : Int) = sg (m + 1 - (r + 1)) * (ch m r : Int)
      rw [Nat.add_comm 1 r]
    · rw [List.getElem?_eq_none (by simp; omega), cmp_gt (by omega)]; simp
/-- two kinds laid into one another -/
def wvI (one other : List Int) (a : Nat) (N : Nat) (l : List Int) : List Int := (List.range N).foldl (fun l b => bump l (a + b) (one.getD a 0 * other.getD b 0 * (ch (a + b) a : Int))) l
def wv (one other : List Int) (N : Nat) : List Int := (List.range N).foldl (fun l a => wvI one other a other.length l) (List.replicate (one.length + other.length - 1) 0)
theorem wvI_succ {one other : List Int} {a N : Nat} {l : List Int} : wvI one other a (N + 1) l = bump (wvI one other a N l) (a + N) (one.getD a 0 * other.getD N 0 * (ch (a + N) a : Int)) := by
  unfold wvI; rw [List.range_succ, List.foldl_append]; rfl
theorem wv_succ {one other : List Int} {N : Nat} : wv one other (N + 1) = wvI one other N other.length (wv one other N) := by
  unfold wv; rw [List.range_succ, List.foldl_append]; rfl
theorem wvI_len {one other : List Int} {a : Nat} {l : List Int} : ∀ N, (wvI one other a N l).length = l.length
  | 0 => rfl
  | N + 1 => by rw [wvI_succ, bump_len, wvI_len N]
theorem wv_len {one other : List Int} : ∀ N, (wv one other N).length = one.length + other.length - 1
  | 0 => List.length_replicate
  | N + 1 => by rw [wv_succ, wvI_len, wv_len N]
theorem wvI_get {one other : List Int} {a : Nat} {l : List Int} (j : Nat) : ∀ N, a + N ≤ l.length → (wvI one other a N l).getD j 0 = l.getD j 0 + sm N fun b => if a + b = j then one.getD a 0 * other.getD b 0 * (ch j a : Int) else 0
  | 0, _ => by show l.getD j 0 = l.getD j 0 + 0; omega
  | N + 1, h => by
    rw [wvI_succ, bump_get (by rw [wvI_len]; omega), wvI_get j N (by omega), sm_succ]
    have : (if a + N = j then one.getD a 0 * other.getD N 0 * (ch (a + N) a : Int) else 0) = if a + N = j then one.getD a 0 * other.getD N 0 * (ch j a : Int) else 0 := by
      by_cases e : a + N = j
      · rw [if_pos e, if_pos e, e]
      · rw [if_neg e, if_neg e]
    rw [this]; omega
theorem wv_get {one other : List Int} (ho : 0 < other.length) (j : Nat) : ∀ N, N ≤ one.length → (wv one other N).getD j 0 = sm N fun a => sm other.length fun b => if a + b = j then one.getD a 0 * other.getD b 0 * (ch j a : Int) else 0
  | 0, _ => by
    show (List.replicate (one.length + other.length - 1) (0 : Int)).getD j 0 = 0
    rw [List.getD_eq_getElem?_getD, List.getElem?_replicate]
    split <;> rfl
  | N + 1, h => by
    rw [wv_succ, wvI_get j _ (by rw [wv_len]; omega), wv_get ho j N (by omega), sm_succ]
/-- a sum over a diagonal -/
theorem sm_diag {A B j : Nat} {f : Nat → Nat → Int} (hA : ∀ a b, A ≤ a → f a b = 0) (hB : ∀ a b, B ≤ b → f a b = 0) : (sm A fun a => sm B fun b => if a + b = j then f a b else 0) = sm (j + 1) fun b => f (j - b) b := by
  have e1 : (sm A fun a => sm B fun b => if a + b = j then f a b else 0) = sm (A + j + 1) fun a => sm (B + j + 1) fun b => if a + b = j then f a b else 0 := by
    rw [sm_more (n := A) (m := A + j + 1) (by omega) (fun a h1 _ => sm_zero fun b _ => by split; exact hA a b h1; rfl)]
    refine sm_congr fun a _ => ?_
    rw [sm_more (n := B) (m := B + j + 1) (by omega) (fun b h1 _ => by split; exact hB a b h1; rfl)]
  rw [e1, sm_swap]
  rw [sm_more (n := j + 1) (m := B + j + 1) (by omega) (fun b h1 _ => sm_zero fun a _ => if_neg (by omega))]
  refine sm_congr fun b hb => ?_
  rw [sm_one (j := j - b) (by omega) (fun a _ hne => if_neg (by omega)), if_pos (by omega)]
theorem getD_ge {l : List Int} {i : Nat} (h : l.length ≤ i) : l.getD i 0 = 0 := by
  rw [List.getD_eq_getElem?_getD, List.getElem?_eq_none h]; rfl
/-- one name more, told by signs; W any way of counting by runs -/
theorem wv_step {found : List Int} {W : Nat → Int} {n m : Nat} (hm : 0 < m) (hl : found.length = n + 1) (h : ∀ s, s ≤ n → found.getD s 0 = sg (n - s) * W s) (hW : ∀ s, n < s → W s = 0) :
    (wv found (RL m) found.length).length = n + m + 1 ∧ ∀ s, s ≤ n + m → (wv found (RL m) found.length).getD s 0 = sg (n + m - s) * sm (s + 1) fun r => W (s - r) * cmp m r * (ch s r : Int) := by
  refine ⟨by rw [wv_len, RL_len]; omega, fun s hs => ?_⟩
  rw [wv_get (by rw [RL_len]; omega) s _ (Nat.le_refl _)]
  rw [sm_diag (f := fun a b => found.getD a 0 * (RL m).getD b 0 * (ch s a : Int)) (fun a b ha => by simp only [getD_ge ha]; simp) (fun a b hb => by simp only [getD_ge hb]; simp), ← sm_mul]
  refine sm_congr fun b hb => ?_
  rw [RL_get hm]
  by_cases h1 : n < s - b
  · rw [getD_ge (by omega), hW _ h1]; simp
  · rw [h _ (by omega)]
    by_cases h2 : m < b
    · rw [cmp_gt h2]; simp
    · have hsg : sg (n - (s - b)) * sg (m - b) = sg (n + m - s) := by rw [← sg_add]; congr 1; omega
      rw [ch_sym (by omega : s - b ≤ s), show s - (s - b) = b by omega, ← hsg]
      grind
/-- all names of a bag -/
def wvs (found : List Int) (c : List Nat) : List Int := c.foldl (fun f m => wv f (RL m) f.length) found
theorem wvs_all : ∀ (cs : List Nat) (found : List Int) (W : List Nat → Nat → Int) (c : List Nat) (n : Nat), (∀ m ∈ cs, 0 < m) → found.length = n + 1 → (∀ s, s ≤ n → found.getD s 0 = sg (n - s) * W c s) → (∀ s, n < s → W c s = 0) →
    (∀ m c s, W (m :: c) s = sm (s + 1) fun r => W c (s - r) * cmp m r * (ch s r : Int)) →
    (wvs found cs).length = n + cs.sum + 1 ∧ ∀ s, s ≤ n + cs.sum → (wvs found cs).getD s 0 = sg (n + cs.sum - s) * W (cs.reverse ++ c) s
  | [], found, W, c, n, _, hl, h, _, _ => ⟨hl, h⟩
  | m :: cs, found, W, c, n, hp, hl, h, h0, hc => by
    obtain ⟨h1, h2⟩ := wv_step (hp m List.mem_cons_self) hl h h0
    have := wvs_all cs (wv found (RL m) found.length) W (m :: c) (n + m) (fun x hx => hp x (List.mem_cons_of_mem _ hx)) h1 (fun s hs => by rw [h2 s hs, hc]) (fun s hs => by
      rw [hc]
      refine sm_zero fun r hr => ?_
      by_cases hmr : m < r
      · rw [cmp_gt hmr]; simp
      · rw [h0 (s - r) (by omega)]; simp) hc
    rw [List.sum_cons, List.reverse_cons, List.append_assoc, ← Nat.add_assoc]
    exact this
theorem list_sum {l : List Int} : l.sum = sm l.length fun i => l.getD i 0 := by
  induction l with
  | nil => rfl
  | cons x l ih => rw [List.length_cons, sm_head, List.sum_cons, ih]; rfl
/-- how many rows without touches there are: the program's sum -/
theorem wvs_NA {cs : List Nat} (hp : ∀ m ∈ cs, 0 < m) : (wvs [1] cs).sum = NA cs := by
  have := wvs_all cs [1] WR [] 0 hp rfl (fun s hs => by
    have : s = 0 := by omega
    subst this; rfl) (fun s hs => if_neg (by omega)) (fun m c s => WR_cons m c s)
  obtain ⟨h1, h2⟩ := this
  rw [Nat.zero_add] at h1 h2
  rw [list_sum, h1, List.append_nil] at *
  unfold NA
  refine sm_congr fun s hs => ?_
  rw [h2 s (by omega), WR_perm (List.reverse_perm cs)]
/-- one run of the name behind which it goes on stands first -/
def VR (m : Nat) : List Nat → Nat → Int
  | [], s => cmp m (s + 1)
  | m' :: c, s => sm (s + 1) fun r => VR m c (s - r) * cmp m' r * (ch s r : Int)
theorem VR_eq (m : Nat) : ∀ (c : List Nat) (s : Nat), VR m c s = sm (s + 1) fun r => WR c (s - r) * cmp m (r + 1) * (ch s r : Int)
  | [], s => by
    rw [sm_one (j := s) (by omega) (fun r hr hne => by show (if s - r = 0 then (1 : Int) else 0) * _ * _ = 0; rw [if_neg (by omega)]; simp)]
    show cmp m (s + 1) = (if s - s = 0 then (1 : Int) else 0) * _ * _
    rw [if_pos (by omega), ch_self]; simp
  | m' :: c, s => by
    have l : VR m (m' :: c) s = sm (s + 1) fun r => sm (s - r + 1) fun r' => WR c (s - r - r') * cmp m (r' + 1) * (ch (s - r) r' : Int) * cmp m' r * (ch s r : Int) := by
      show (sm (s + 1) fun r => VR m c (s - r) * cmp m' r * (ch s r : Int)) = _
      refine sm_congr fun r _ => ?_
      rw [VR_eq m c, ← sm_mulr, ← sm_mulr]
    have r : (sm (s + 1) fun r => WR (m' :: c) (s - r) * cmp m (r + 1) * (ch s r : Int)) = sm (s + 1) fun r' => sm (s - r' + 1) fun r => WR c (s - r' - r) * cmp m' r * (ch (s - r') r : Int) * cmp m (r' + 1) * (ch s r' : Int) := by
      refine sm_congr fun r' _ => ?_
      rw [WR_cons, ← sm_mulr, ← sm_mulr]
    rw [l, r, sm_tri]
    refine sm_congr fun r' hr' => sm_congr fun r hr => ?_
    have h := ch_tri (n := s) (a := r) (b := r') (by omega)
    have h' : (ch s r : Int) * (ch (s - r) r' : Int) = (ch s r' : Int) * (ch (s - r') r : Int) := by exact_mod_cast h
    rw [show s - r' - r = s - r - r' by omega]
    grind
theorem wvs_begun {cs : List Nat} {m : Nat} (hm : 0 < m) (hp : ∀ x ∈ cs, 0 < x) : (wvs ((RL m).drop 1) cs).sum = sm m fun t => sg (m - 1 - t) * NA (t :: cs) := by
  have hfl : ((RL m).drop 1).length = m - 1 + 1 := by rw [List.length_drop, RL_len]; omega
  have hfg : ∀ s, ((RL m).drop 1).getD s 0 = (RL m).getD (s + 1) 0 := fun s => by
    rw [List.getD_eq_getElem?_getD, List.getElem?_drop, List.getD_eq_getElem?_getD, Nat.add_comm]
  have := wvs_all cs ((RL m).drop 1) (VR m) [] (m - 1) hp hfl (fun s hs => by
    rw [hfg, RL_get hm, show m - (s + 1) = m - 1 - s by omega]; rfl) (fun s hs => cmp_gt (by omega)) (fun m' c s => rfl)
  obtain ⟨h1, h2⟩ := this
  rw [list_sum, h1, List.append_nil] at *
  have e1 : (sm (m - 1 + cs.sum + 1) fun s => (wvs ((RL m).drop 1) cs).getD s 0) = sm (m - 1 + cs.sum + 1) fun s => sm m fun t => sg (m - 1 + cs.sum - s) * WR (t :: cs) s := by
    refine sm_congr fun s hs => ?_
    rw [h2 s (by omega), VR_eq, sm_mul]
    congr 1
    rw [← WR_second]
    refine sm_congr fun r _ => ?_
    rw [WR_perm (List.reverse_perm cs)]
  rw [e1, sm_swap]
  refine sm_congr fun t ht => ?_
  unfold NA
  rw [← sm_mul, List.sum_cons]
  rw [sm_more (n := t + cs.sum + 1) (m := m - 1 + cs.sum + 1) (by omega) (fun s h3 _ => by rw [WR_many (t :: cs) (by rw [List.sum_cons]; omega)]; simp)]
  refine sm_congr fun s hs => ?_
  have : sg (m - 1 + cs.sum - s) = sg (m - 1 - t) * sg (t + cs.sum - s) := by rw [← sg_add]; congr 1; omega
  rw [this]; grind
/-- what is left, the last name ahead, the others behind -/
theorem set_erase : ∀ {c : List Nat} {i v : Nat}, i < c.length → (c.set i v).Perm (v :: c.eraseIdx i)
  | x :: c, 0, v, _ => .refl _
  | x :: c, i + 1, v, h => by
    show (x :: c.set i v).Perm (v :: x :: c.eraseIdx i)
    exact ((set_erase (c := c) (i := i) (v := v) (by simpa using h)).cons x).trans (.swap v x _)
theorem behind_NA {c : List Nat} {n last : Nat} (hl : last < c.length) (hs : c.sum = n) : Nt n last c 0 = (wvs ((RL (c.getD last 0 + 1)).drop 1) ((c.eraseIdx last).filter fun m => decide (0 < m))).sum := by
  rw [wvs_begun (by omega) (fun x hx => by simpa using (List.mem_filter.mp hx).2), Nt_behind hl hs, ← sm_rev]
  refine sm_congr fun t ht => ?_
  rw [show c.getD last 0 + 1 - 1 - t = c.getD last 0 - t by omega, show c.getD last 0 - (c.getD last 0 - t) = t by omega]
  congr 1
  rw [NA_perm (set_erase hl)]
  unfold NA
  rw [List.sum_cons, List.sum_cons, sum_pos]
  refine sm_congr fun s _ => ?_
  congr 1
  rw [WR_cons, WR_cons]
  exact sm_congr fun r _ => by rw [WR_pos]
end Vs

namespace Vs
/-! ### rows without touches, in order -/
def rows0 : Nat → Nat → List Nat → List (List Nat)
  | 0, _, _ => [[]]
  | n + 1, last, c => (List.range c.length).flatMap fun i => if 0 < c.getD i 0 ∧ i ≠ last then (rows0 n i (dec c i)).map (i :: ·) else []
theorem len_range {α : Type} (f : Nat → List α) : ∀ n : Nat, ((((List.range n).flatMap f).length : Nat) : Int) = sm n fun i => ((f i).length : Int)
  | 0 => rfl
  | n + 1 => by
    rw [List.range_succ, List.flatMap_append, List.length_append, Int.natCast_add, len_range f n]
    show _ = sm n _ + _
    simp
theorem rows0_len : ∀ (n last : Nat) (c : List Nat), ((rows0 n last c).length : Int) = Nt n last c 0
  | 0, _, _ => rfl
  | n + 1, last, c => by
    show ((((List.range c.length).flatMap _).length : Nat) : Int) = _
    rw [len_range]
    refine sm_congr fun i hi => ?_
    by_cases h1 : 0 < c.getD i 0
    · by_cases h2 : i = last
      · rw [if_neg (fun h => h.2 h2), if_pos h1, if_pos h2]; rfl
      · rw [if_pos ⟨h1, h2⟩, if_pos h1, if_neg h2, List.length_map, rows0_len n]
    · rw [if_neg (fun h => h1 h.1), if_neg h1]; rfl
theorem rows0_rlen : ∀ (n last : Nat) (c : List Nat), ∀ r ∈ rows0 n last c, r.length = n
  | 0, _, c, r, h => by rw [List.mem_singleton.mp h]; rfl
  | n + 1, last, c, r, h => by
    obtain ⟨i, _, hi⟩ := List.mem_flatMap.mp h
    by_cases h1 : 0 < c.getD i 0 ∧ i ≠ last
    · rw [if_pos h1] at hi
      obtain ⟨s, hs, rfl⟩ := List.mem_map.mp hi
      rw [List.length_cons, rows0_rlen n _ _ s hs]
    · rw [if_neg h1] at hi; cases hi
theorem rows0_lt : ∀ (n last : Nat) (c : List Nat), ∀ r ∈ rows0 n last c, ∀ i ∈ r, i < c.length
  | 0, _, c, r, h => by rw [List.mem_singleton.mp h]; simp
  | n + 1, last, c, r, h => by
    obtain ⟨i, hlt, hi⟩ := List.mem_flatMap.mp h
    by_cases h1 : 0 < c.getD i 0 ∧ i ≠ last
    · rw [if_pos h1] at hi
      obtain ⟨s, hs, rfl⟩ := List.mem_map.mp hi
      intro j hj
      rcases List.mem_cons.mp hj with rfl | hj
      · exact List.mem_range.mp hlt
      · have := rows0_lt n _ _ s hs j hj
        rwa [dec_len] at this
    · rw [if_neg h1] at hi; cases hi
/-! ### how many begin so -/
def begC : Nat → List Nat → List Nat → Int
  | last, c, [] => Nt c.sum last c 0
  | last, c, i :: b => if 0 < c.getD i 0 ∧ i ≠ last then begC i (dec c i) b else 0
theorem getD_lt {c : List Nat} {i : Nat} (h : 0 < c.getD i 0) : i < c.length := by
  rcases Nat.lt_or_ge i c.length with h1 | h1
  · exact h1
  · rw [List.getD_eq_getElem?_getD, List.getElem?_eq_none h1] at h; simp at h
theorem rows0_begin : ∀ (n last : Nat) (c b : List Nat), c.sum = n → (((rows0 n last c).countP fun r => decide (r.take b.length = b) : Nat) : Int) = begC last c b
  | n, last, c, [], hs => by
    have : (rows0 n last c).countP (fun r => decide (r.take ([] : List Nat).length = [])) = (rows0 n last c).length := by
      rw [List.countP_eq_length]
      intro r _
      simp
    rw [this, rows0_len]
    show _ = Nt c.sum last c 0
    rw [hs]
  | 0, last, c, i :: b, hs => by
    have hz : ¬ 0 < c.getD i 0 := fun h => by have := dec_sum h; omega
    show ((List.countP _ [[]] : Nat) : Int) = if 0 < c.getD i 0 ∧ i ≠ last then _ else 0
    rw [if_neg (fun h => hz h.1)]
    simp
  | n + 1, last, c, i :: b, hs => by
    show ((((List.range c.length).flatMap _).countP _ : Nat) : Int) = if 0 < c.getD i 0 ∧ i ≠ last then begC i (dec c i) b else 0
    rw [countP_range]
    have other : ∀ j, j ≠ i → ((List.countP (fun r => decide (r.take (i :: b).length = i :: b)) (if 0 < c.getD j 0 ∧ j ≠ last then (rows0 n j (dec c j)).map (j :: ·) else []) : Nat) : Int) = 0 := by
      intro j hj
      by_cases h1 : 0 < c.getD j 0 ∧ j ≠ last
      · rw [if_pos h1, List.countP_map]
        have : List.countP ((fun r => decide (r.take (i :: b).length = i :: b)) ∘ (fun x => j :: x)) (rows0 n j (dec c j)) = 0 := by
          rw [List.countP_eq_zero]
          intro r _
          show ¬ decide ((j :: r).take (i :: b).length = i :: b) = true
          simp [hj]
        rw [this]; rfl
      · rw [if_neg h1]; rfl
    by_cases h1 : 0 < c.getD i 0 ∧ i ≠ last
    · rw [if_pos h1, sm_one (getD_lt h1.1) (fun j _ hj => other j hj), if_pos h1, List.countP_map]
      have ih := rows0_begin n i (dec c i) b (by have := dec_sum h1.1; omega)
      rw [← ih]
      congr 1
      refine List.countP_congr fun r _ => ?_
      show decide ((i :: r).take (i :: b).length = i :: b) = true ↔ _
      simp
    · rw [if_neg h1]
      refine sm_zero fun j _ => ?_
      by_cases hj : j = i
      · subst hj
        rw [if_neg h1]; rfl
      · exact other j hj
/-! ### laid place by place -/
def lastD (L : Nat) (r : List Nat) : Nat := r.getLast?.getD L
def stepA (L : Nat) (x : List Nat × List Nat) : List (List Nat × List Nat) := (List.range x.2.length).flatMap fun i => if 0 < x.2.getD i 0 ∧ i ≠ lastD L x.1 then [(x.1 ++ [i], dec x.2 i)] else []
def layA (L : Nat) : Nat → List (List Nat × List Nat) → List (List Nat × List Nat)
  | 0, f => f
  | n + 1, f => (layA L n f).flatMap (stepA L)
theorem layA_succ' (L : Nat) : ∀ (n : Nat) (f : List (List Nat × List Nat)), layA L (n + 1) f = layA L n (f.flatMap (stepA L))
  | 0, f => rfl
  | n + 1, f => by
    show (layA L (n + 1) f).flatMap (stepA L) = (layA L n (f.flatMap (stepA L))).flatMap (stepA L)
    rw [layA_succ' L n f]
theorem layA_append (L : Nat) : ∀ (n : Nat) (f g : List (List Nat × List Nat)), layA L n (f ++ g) = layA L n f ++ layA L n g
  | 0, f, g => rfl
  | n + 1, f, g => by
    show (layA L n (f ++ g)).flatMap (stepA L) = (layA L n f).flatMap (stepA L) ++ (layA L n g).flatMap (stepA L)
    rw [layA_append L n f g, List.flatMap_append]
theorem layA_nil (L : Nat) : ∀ n : Nat, layA L n [] = []
  | 0 => rfl
  | n + 1 => by show (layA L n []).flatMap (stepA L) = []; rw [layA_nil L n]; rfl
theorem layA_flat (L n : Nat) {α : Type} (f : α → List (List Nat × List Nat)) : ∀ l : List α, layA L n (l.flatMap f) = l.flatMap fun x => layA L n (f x)
  | [] => layA_nil L n
  | x :: l => by rw [List.flatMap_cons, List.flatMap_cons, layA_append, layA_flat L n f l]
theorem lastD_snoc (L : Nat) (r : List Nat) (i : Nat) : lastD L (r ++ [i]) = i := by unfold lastD; simp
theorem layA_rows (L : Nat) : ∀ (n : Nat) (r c : List Nat), (layA L n [(r, c)]).map (·.1) = (rows0 n (lastD L r) c).map (r ++ ·)
  | 0, r, c => by show [r] = [r ++ []]; rw [List.append_nil]
  | n + 1, r, c => by
    rw [layA_succ']
    show (layA L n (stepA L (r, c) ++ [])).map (·.1) = _
    rw [List.append_nil]
    unfold stepA
    rw [layA_flat, List.map_flatMap]
    show _ = ((List.range c.length).flatMap fun i => if 0 < c.getD i 0 ∧ i ≠ lastD L r then (rows0 n i (dec c i)).map (i :: ·) else []).map (r ++ ·)
    rw [List.map_flatMap]
    congr 1
    funext i
    by_cases h : 0 < c.getD i 0 ∧ i ≠ lastD L r
    · rw [if_pos h, if_pos h, layA_rows L n (r ++ [i]) (dec c i), lastD_snoc, List.map_map]
      congr 1
      funext s
      simp
    · rw [if_neg h, if_neg h, layA_nil]; rfl
theorem stepA_mem {L : Nat} {x y : List Nat × List Nat} : y ∈ stepA L x ↔ ∃ i, i < x.2.length ∧ (0 < x.2.getD i 0 ∧ i ≠ lastD L x.1) ∧ y = (x.1 ++ [i], dec x.2 i) := by
  unfold stepA
  rw [List.mem_flatMap]
  constructor
  · rintro ⟨i, hi, hy⟩
    by_cases h : 0 < x.2.getD i 0 ∧ i ≠ lastD L x.1
    · rw [if_pos h] at hy
      exact ⟨i, List.mem_range.mp hi, h, List.mem_singleton.mp hy⟩
    · rw [if_neg h] at hy; cases hy
  · rintro ⟨i, hi, h, e⟩
    refine ⟨i, List.mem_range.mpr hi, ?_⟩
    rw [if_pos h]
    exact List.mem_singleton.mpr e
theorem layA_inv {L : Nat} (P : Nat → List Nat × List Nat → Prop) (hstep : ∀ t x y, P t x → y ∈ stepA L x → P (t + 1) y) : ∀ (n : Nat) (f : List (List Nat × List Nat)), (∀ x ∈ f, P 0 x) → ∀ x ∈ layA L n f, P n x
  | 0, f, h => h
  | n + 1, f, h => by
    intro x hx
    obtain ⟨y, hy, hxy⟩ := List.mem_flatMap.mp hx
    exact hstep n y x (layA_inv P hstep n f h y hy) hxy
theorem layA_left {L : Nat} {c : List Nat} (t : Nat) : ∀ x ∈ layA L t [([], c)], x.2.length = c.length ∧ (∀ i ∈ x.1, i < c.length) ∧ x.1.length = t := by
  refine layA_inv (fun t x => x.2.length = c.length ∧ (∀ i ∈ x.1, i < c.length) ∧ x.1.length = t) (fun t x y hx hy => ?_) t _ (fun x hx => ?_)
  · obtain ⟨i, hi, _, rfl⟩ := stepA_mem.mp hy
    refine ⟨by show (dec x.2 i).length = _; rw [dec_len]; exact hx.1, fun j hj => ?_, by show (x.1 ++ [i]).length = _; rw [List.length_append, hx.2.2]; rfl⟩
    rcases List.mem_append.mp hj with hj | hj
    · exact hx.2.1 j hj
    · rw [List.mem_singleton.mp hj, ← hx.1]; exact hi
  · rw [List.mem_singleton.mp hx]
    exact ⟨rfl, (fun _ h => nomatch h), rfl⟩
def stepAT (L : Nat) (x : List Nat × List Nat) (n : Nat) : List (List Nat × List Nat) := (List.range n).flatMap fun i => if 0 < x.2.getD i 0 ∧ i ≠ lastD L x.1 then [(x.1 ++ [i], dec x.2 i)] else []
theorem stepAT_succ (L : Nat) (x : List Nat × List Nat) (n : Nat) : stepAT L x (n + 1) = stepAT L x n ++ if 0 < x.2.getD n 0 ∧ n ≠ lastD L x.1 then [(x.1 ++ [n], dec x.2 n)] else [] := by
  unfold stepAT
  rw [List.range_succ, List.flatMap_append]
  simp
theorem stepAT_len (L : Nat) (x : List Nat × List Nat) : ∀ n : Nat, (stepAT L x n).length ≤ n
  | 0 => Nat.le_refl _
  | n + 1 => by
    rw [stepAT_succ, List.length_append]
    have := stepAT_len L x n
    split <;> simp <;> omega
/-! ### where there is a row without touches -/
/-- no name is there more often than all others and one; behind a last name that one not more often than all others -/
def Fit (last : Nat) (c : List Nat) : Prop := ∀ i, i < c.length → 2 * c.getD i 0 ≤ c.sum + (if i = last then 0 else 1)
end Vs

namespace Vs
/-! ### the fewest touches -/
def flT (last : Nat) (c : List Nat) (N : Nat) : Nat := (List.range N).foldl (fun m i => max m (2 * c.getD i 0 - c.sum - (if i = last then 0 else 1))) 0
/-- the fewest touches of what is left behind a last name -/
def fl (last : Nat) (c : List Nat) : Nat := flT last c c.length
theorem flT_succ (last : Nat) (c : List Nat) (N : Nat) : flT last c (N + 1) = max (flT last c N) (2 * c.getD N 0 - c.sum - (if N = last then 0 else 1)) := by
  unfold flT; rw [List.range_succ, List.foldl_append]; rfl
theorem flT_le {last : Nat} {c : List Nat} {m : Nat} : ∀ N, flT last c N ≤ m ↔ ∀ i, i < N → 2 * c.getD i 0 ≤ c.sum + m + (if i = last then 0 else 1)
  | 0 => ⟨fun _ i h => by omega, fun _ => Nat.zero_le _⟩
  | N + 1 => by
    rw [flT_succ, Nat.max_le, flT_le N]
    constructor
    · rintro ⟨h1, h2⟩ i hi
      by_cases e : i = N
      · subst e; omega
      · exact h1 i (by omega)
    · intro h
      exact ⟨fun i hi => h i (by omega), by have := h N (by omega); omega⟩
theorem fl_le {last : Nat} {c : List Nat} {m : Nat} : fl last c ≤ m ↔ ∀ i, i < c.length → 2 * c.getD i 0 ≤ c.sum + m + (if i = last then 0 else 1) := flT_le c.length
theorem dec_get {c : List Nat} {i j : Nat} (hi : i < c.length) : (dec c i).getD j 0 = if i = j then c.getD i 0 - 1 else c.getD j 0 := by
  unfold dec
  rw [getD_set hi]
theorem fl_lower {last : Nat} {c : List Nat} {i : Nat} (h : 0 < c.getD i 0) : fl last c ≤ (if i = last then 1 else 0) + fl i (dec c i) := by
  have hi := getD_lt h
  have hs := dec_sum h
  have h0 := (fl_le (last := i) (c := dec c i) (m := fl i (dec c i))).mp (Nat.le_refl _)
  rw [fl_le]
  intro j hj
  have h1 := h0 j (by rw [dec_len]; exact hj)
  rw [dec_get hi] at h1
  by_cases e : i = j
  · subst e
    rw [if_pos rfl, if_pos rfl] at h1
    by_cases e2 : i = last
    · rw [if_pos e2, if_pos e2]; omega
    · rw [if_neg e2, if_neg e2]; omega
  · rw [if_neg e, if_neg (fun z => e z.symm)] at h1
    have : 0 ≤ (if j = last then 0 else 1) := Nat.zero_le _
    omega
theorem le_sum : ∀ {c : List Nat} {i : Nat}, c.getD i 0 ≤ c.sum
  | [], i => by simp
  | x :: c, 0 => by simp
  | x :: c, i + 1 => by
    have := le_sum (c := c) (i := i)
    simp at this ⊢; omega
theorem two_sum : ∀ {c : List Nat} {i j : Nat}, i ≠ j → c.getD i 0 + c.getD j 0 ≤ c.sum
  | [], i, j, _ => by simp
  | x :: c, 0, 0, h => (h rfl).elim
  | x :: c, 0, j + 1, _ => by have := le_sum (c := c) (i := j); simp at this ⊢; omega
  | x :: c, i + 1, 0, _ => by have := le_sum (c := c) (i := i); simp at this ⊢; omega
  | x :: c, i + 1, j + 1, h => by have := two_sum (c := c) (i := i) (j := j) (by omega); simp at this ⊢; omega
theorem some_pos : ∀ {c : List Nat}, 0 < c.sum → ∃ i, 0 < c.getD i 0
  | [], h => by simp at h
  | x :: c, h => by
    by_cases hx : 0 < x
    · exact ⟨0, by simpa using hx⟩
    · rw [List.sum_cons] at h
      obtain ⟨i, hi⟩ := some_pos (c := c) (by omega)
      exact ⟨i + 1, by simpa using hi⟩
theorem only_one : ∀ {c : List Nat} {l : Nat}, (∀ i, i ≠ l → c.getD i 0 = 0) → c.sum = c.getD l 0
  | [], l, _ => by simp
  | x :: c, 0, h => by
    have : c.sum = 0 := by
      rcases Nat.eq_zero_or_pos c.sum with h1 | h1
      · exact h1
      · obtain ⟨i, hi⟩ := some_pos h1
        have := h (i + 1) (by omega)
        simp at this hi
        omega
    simp [this]
  | x :: c, l + 1, h => by
    have hx : x = 0 := by simpa using h 0 (by omega)
    have := only_one (c := c) (l := l) (fun i hi => by simpa using h (i + 1) (by omega))
    simp [hx, this]
theorem fl_good {last : Nat} {c : List Nat} (hs : 0 < c.sum) : ∃ i, 0 < c.getD i 0 ∧ fl last c = (if i = last then 1 else 0) + fl i (dec c i) := by
  have h0 := (fl_le (last := last) (c := c) (m := fl last c)).mp (Nat.le_refl _)
  obtain ⟨m, hm⟩ : ∃ m, m = fl last c := ⟨_, rfl⟩
  rw [← hm] at h0
  have hout : ∀ k, c.length ≤ k → c.getD k 0 = 0 := fun k hk => by rw [List.getD_eq_getElem?_getD, List.getElem?_eq_none hk]; rfl
  have key : ∀ i, 0 < c.getD i 0 → (i = last → 1 ≤ m) → (∀ k, k < c.length → k ≠ i → 2 * c.getD k 0 + (if i = last then 1 else 0) ≤ c.sum + m) → 0 < c.getD i 0 ∧ fl last c = (if i = last then 1 else 0) + fl i (dec c i) := by
    intro i hi hl h
    have hil := getD_lt hi
    have hds := dec_sum hi
    refine ⟨hi, Nat.le_antisymm (fl_lower hi) ?_⟩
    rw [← hm]
    have : fl i (dec c i) ≤ m - (if i = last then 1 else 0) := by
      rw [fl_le]
      intro k hk
      rw [dec_len] at hk
      rw [dec_get hil]
      by_cases e : i = k
      · subst e
        rw [if_pos rfl, if_pos rfl]
        have := h0 i hil
        by_cases e2 : i = last
        · have := hl e2
          rw [if_pos e2] at *; omega
        · rw [if_neg e2] at *; omega
      · rw [if_neg e, if_neg (show ¬ k = i from fun z => e z.symm)]
        have h2 := h k hk (fun z => e z.symm)
        by_cases e2 : i = last
        · have := hl e2
          rw [if_pos e2] at *; omega
        · rw [if_neg e2] at *; omega
    by_cases e2 : i = last
    · have := hl e2
      rw [if_pos e2] at *; omega
    · rw [if_neg e2] at *; omega
  by_cases ht : ∃ k, k < c.length ∧ k ≠ last ∧ c.sum + m < 2 * c.getD k 0
  · obtain ⟨k, hk, hkl, hk2⟩ := ht
    have hk3 := h0 k hk
    rw [if_neg hkl] at hk3
    refine ⟨k, key k (by omega) (fun e => (hkl e).elim) fun j hj hjk => ?_⟩
    have := two_sum (c := c) (i := j) (j := k) hjk
    rw [if_neg hkl]; omega
  · have ht' : ∀ k, k < c.length → k ≠ last → 2 * c.getD k 0 ≤ c.sum + m := fun k hk hkl => by
      rcases Nat.lt_or_ge (c.sum + m) (2 * c.getD k 0) with h | h
      · exact (ht ⟨k, hk, hkl, h⟩).elim
      · exact h
    by_cases hn : ∃ i, i ≠ last ∧ 0 < c.getD i 0
    · obtain ⟨i, hil, hi⟩ := hn
      refine ⟨i, key i hi (fun e => (hil e).elim) fun k hk hki => ?_⟩
      rw [if_neg hil]
      by_cases e : k = last
      · subst e
        have := h0 k hk
        rw [if_pos rfl] at this; omega
      · have := ht' k hk e; omega
    · have hz : ∀ i, i ≠ last → c.getD i 0 = 0 := fun i hi => by
        rcases Nat.eq_zero_or_pos (c.getD i 0) with h | h
        · exact h
        · exact (hn ⟨i, hi, h⟩).elim
      have he := only_one hz
      have hll : last < c.length := getD_lt (by omega)
      have := h0 last hll
      rw [if_pos rfl] at this
      refine ⟨last, key last (by omega) (fun _ => by omega) fun k hk hkl => ?_⟩
      rw [hz k hkl, if_pos rfl]; omega
theorem sm_pos_ex {n : Nat} {f : Nat → Int} (h : 0 < sm n f) : ∃ i, i < n ∧ 0 < f i := by
  induction n with
  | zero => simp [sm] at h
  | succ n ih =>
    by_cases h1 : 0 < f n
    · exact ⟨n, by omega, h1⟩
    · rw [sm_succ] at h
      obtain ⟨i, hi, h2⟩ := ih (by omega)
      exact ⟨i, by omega, h2⟩
theorem sm_ge {n j : Nat} {f : Nat → Int} (hj : j < n) (h : ∀ i, i < n → 0 ≤ f i) : f j ≤ sm n f := by
  induction n with
  | zero => omega
  | succ n ih =>
    rw [sm_succ]
    by_cases e : j = n
    · subst e
      have := sm_nonneg (n := j) (f := f) fun i hi => h i (by omega)
      omega
    · have := ih (by omega) fun i hi => h i (by omega)
      have := h n (by omega)
      omega
/-- no row has fewer touches -/
theorem Nt_fl_le : ∀ (n last : Nat) (c : List Nat) (j : Nat), c.sum = n → 0 < Nt n last c j → fl last c ≤ j
  | 0, last, c, j, hs, h => by
    rw [fl_le]
    intro i _
    have := le_sum (c := c) (i := i)
    omega
  | n + 1, last, c, j, hs, h => by
    obtain ⟨i, hi, h1⟩ := sm_pos_ex (show 0 < sm c.length _ from h)
    by_cases h2 : 0 < c.getD i 0
    · rw [if_pos h2] at h1
      have hds := dec_sum h2
      have hlow := fl_lower (last := last) h2
      by_cases e : i = last
      · rw [if_pos e] at h1 hlow
        by_cases hj : 0 < j
        · rw [if_pos hj] at h1
          have := Nt_fl_le n i (dec c i) (j - 1) (by omega) h1
          omega
        · rw [if_neg hj] at h1; omega
      · rw [if_neg e] at h1 hlow
        have := Nt_fl_le n i (dec c i) j (by omega) h1
        omega
    · rw [if_neg h2] at h1; omega
/-- a row has so few -/
theorem Nt_fl_pos : ∀ (n last : Nat) (c : List Nat), c.sum = n → 0 < Nt n last c (fl last c)
  | 0, last, c, hs => by
    have : fl last c = 0 := Nat.le_zero.mp (fl_le.mpr fun i _ => by have := le_sum (c := c) (i := i); omega)
    rw [this]
    show (0 : Int) < if 0 = 0 then 1 else 0
    decide
  | n + 1, last, c, hs => by
    obtain ⟨i, hi, he⟩ := fl_good (last := last) (c := c) (by omega)
    have hil := getD_lt hi
    have hds := dec_sum hi
    have ih := Nt_fl_pos n i (dec c i) (by omega)
    refine Int.lt_of_lt_of_le ih ?_
    have hge := sm_ge (n := c.length) (j := i) (f := fun i => if 0 < c.getD i 0 then (if i = last then (if 0 < fl last c then Nt n i (dec c i) (fl last c - 1) else 0) else Nt n i (dec c i) (fl last c)) else 0) hil (fun k hk => by
      have p1 := Nt_pos n k (dec c k) (fl last c - 1)
      have p2 := Nt_pos n k (dec c k) (fl last c)
      split
      · split
        · split
          · exact p1
          · omega
        · exact p2
      · omega)
    refine Int.le_trans (Int.le_of_eq ?_) hge
    show _ = if 0 < c.getD i 0 then _ else _
    rw [if_pos hi]
    by_cases e : i = last
    · rw [if_pos e] at he ⊢
      rw [if_pos (by omega), he, show 1 + fl i (dec c i) - 1 = fl i (dec c i) by omega]
    · rw [if_neg e] at he ⊢
      rw [he, Nat.zero_add]
/-- there is a row without touches just where none is there too often -/
theorem NA_can {c : List Nat} : 0 < NA c ↔ ∀ i, i < c.length → 2 * c.getD i 0 ≤ c.sum + 1 := by
  rw [← NA_Nt]
  constructor
  · intro h i hi
    have := Nt_fl_le _ _ _ _ rfl h
    have h2 := (fl_le (m := 0)).mp this i hi
    rw [if_neg (by omega)] at h2
    omega
  · intro h
    have h0 : fl c.length c = 0 := Nat.le_zero.mp (fl_le.mpr fun i hi => by rw [if_neg (by omega)]; have := h i hi; omega)
    have := Nt_fl_pos _ c.length c rfl
    rwa [h0] at this
theorem NA_nonneg (c : List Nat) : 0 ≤ NA c := by rw [← NA_Nt]; exact Nt_pos _ _ _ _
end Vs

namespace Vs
/-! ### the first row with the fewest touches, name by name -/
def goodB (last : Nat) (c : List Nat) (i : Nat) : Bool := decide (0 < c.getD i 0 ∧ fl last c = (if i = last then 1 else 0) + fl i (dec c i))
def fstG (last : Nat) (c : List Nat) : Nat := ((List.range c.length).find? (goodB last c)).getD 0
def grow : Nat → Nat → List Nat → List Nat
  | 0, _, _ => []
  | n + 1, last, c => fstG last c :: grow n (fstG last c) (dec c (fstG last c))
theorem find_range {p : Nat → Bool} : ∀ {n : Nat} {i : Nat}, i < n → p i = true → (∀ j, j < i → p j = false) → (List.range n).find? p = some i := by
  intro n
  induction n with
  | zero => intro i h; omega
  | succ n ih =>
    intro i hi hp hj
    rw [List.range_succ, List.find?_append]
    by_cases e : i = n
    · subst e
      have : (List.range i).find? p = none := by
        rw [List.find?_eq_none]
        intro x hx
        rw [hj x (List.mem_range.mp hx)]; exact Bool.false_ne_true
      rw [this]
      simp [hp]
    · rw [ih (by omega) hp hj]; rfl
theorem fstG_eq {last : Nat} {c : List Nat} {i : Nat} (hi : i < c.length) (hg : goodB last c i = true) (hj : ∀ j, j < i → goodB last c j = false) : fstG last c = i := by
  unfold fstG
  rw [find_range hi hg hj]; rfl
theorem fstG_ok {last : Nat} {c : List Nat} (hs : 0 < c.sum) : fstG last c < c.length ∧ goodB last c (fstG last c) = true := by
  obtain ⟨i, h1, h2⟩ := fl_good (last := last) (c := c) hs
  have hi := getD_lt h1
  have hg : goodB last c i = true := decide_eq_true ⟨h1, h2⟩
  have : ∃ k, (List.range c.length).find? (goodB last c) = some k := by
    cases h : (List.range c.length).find? (goodB last c) with
    | some k => exact ⟨k, rfl⟩
    | none =>
      rw [List.find?_eq_none] at h
      exact (h i (List.mem_range.mpr hi) hg).elim
  obtain ⟨k, hk⟩ := this
  have e : fstG last c = k := by unfold fstG; rw [hk]; rfl
  rw [e]
  exact ⟨List.mem_range.mp (List.mem_of_find?_eq_some hk), List.find?_some hk⟩
theorem good_iff {last : Nat} {c : List Nat} {i had few : Nat} (h : few = had + fl last c) (hp : 0 < c.getD i 0) : goodB last c i = decide (had + (if i = last then 1 else 0) + fl i (dec c i) = few) := by
  unfold goodB
  by_cases e : fl last c = (if i = last then 1 else 0) + fl i (dec c i)
  · rw [decide_eq_true ⟨hp, e⟩, decide_eq_true (by omega)]
  · rw [decide_eq_false (fun z => e z.2), decide_eq_false (by omega)]
theorem grow_len : ∀ (n last : Nat) (c : List Nat), (grow n last c).length = n
  | 0, _, _ => rfl
  | n + 1, last, c => by show (grow n _ _).length + 1 = _; rw [grow_len n]
theorem grow_lt : ∀ (n last : Nat) (c : List Nat), c.sum = n → ∀ i ∈ grow n last c, i < c.length
  | 0, _, _, _, i, h => nomatch h
  | n + 1, last, c, hs, i, h => by
    obtain ⟨h1, h2⟩ := fstG_ok (last := last) (c := c) (by omega)
    rcases List.mem_cons.mp h with rfl | h
    · exact h1
    · have hp := (of_decide_eq_true h2).1
      have := grow_lt n _ _ (by have := dec_sum hp; omega) i h
      rwa [dec_len] at this
end Vs

namespace Vs
/-! ### rows in order -/
def ltL : List Nat → List Nat → Prop
  | i :: r, j :: s => i < j ∨ (i = j ∧ ltL r s)
  | _, _ => False
theorem pw_flat {α : Type} {R : α → α → Prop} (f : Nat → List α) : ∀ n : Nat, (∀ i, i < n → (f i).Pairwise R) → (∀ i j, i < j → j < n → ∀ x ∈ f i, ∀ y ∈ f j, R x y) → ((List.range n).flatMap f).Pairwise R
  | 0, _, _ => List.Pairwise.nil
  | n + 1, h1, h2 => by
    rw [List.range_succ, List.flatMap_append, List.pairwise_append]
    refine ⟨pw_flat f n (fun i hi => h1 i (by omega)) (fun i j hij hj => h2 i j hij (by omega)), by simpa using h1 n (by omega), fun x hx y hy => ?_⟩
    obtain ⟨i, hi, hxi⟩ := List.mem_flatMap.mp hx
    have hy' : y ∈ f n := by simpa using hy
    exact h2 i n (List.mem_range.mp hi) (by omega) x hxi y hy'
theorem rows_sorted : ∀ (n : Nat) (c : List Nat), (rowsOf n c).Pairwise ltL
  | 0, c => List.pairwise_singleton _ _
  | n + 1, c => by
    refine pw_flat _ c.length (fun i hi => ?_) (fun i j hij hj x hx y hy => ?_)
    · by_cases h : 0 < c.getD i 0
      · rw [if_pos h, List.pairwise_map]
        exact (rows_sorted n (dec c i)).imp fun z => .inr ⟨rfl, z⟩
      · rw [if_neg h]; exact List.Pairwise.nil
    · by_cases h : 0 < c.getD i 0
      · rw [if_pos h] at hx
        by_cases h' : 0 < c.getD j 0
        · rw [if_pos h'] at hy
          obtain ⟨r, _, rfl⟩ := List.mem_map.mp hx
          obtain ⟨s, _, rfl⟩ := List.mem_map.mp hy
          exact .inl hij
        · rw [if_neg h'] at hy; cases hy
      · rw [if_neg h] at hx; cases hx
theorem range_split {n i : Nat} (h : i < n) : List.range n = List.range i ++ i :: (List.range (n - i - 1)).map fun k => i + (k + 1) := by
  have e : n = i + (n - i - 1 + 1) := by omega
  have : List.range n = List.range (i + (n - i - 1 + 1)) := by rw [← e]
  rw [this, List.range_add, List.range_succ_eq_map]
  simp
theorem tch_fl {n last : Nat} {c : List Nat} (hs : c.sum = n) {r : List Nat} (hr : r ∈ rowsOf n c) : fl last c ≤ tch last r := by
  refine Nt_fl_le n last c _ hs ?_
  rw [← rows_Nt n last c (tch last r)]
  have : 0 < (rowsOf n c).countP fun s => decide (tch last s = tch last r) := List.countP_pos_iff.mpr ⟨r, hr, by simp⟩
  omega
theorem not_good_tch {n last : Nat} {c : List Nat} (hs : c.sum = n + 1) {i : Nat} (hp : 0 < c.getD i 0) (hg : goodB last c i = false) {r : List Nat} (hr : r ∈ rowsOf n (dec c i)) : tch last (i :: r) ≠ fl last c := by
  intro e
  have h1 := tch_fl (last := i) (by have := dec_sum hp; omega) hr
  have h2 := fl_lower (last := last) hp
  have e' : (if i = last then 1 else 0) + tch i r = fl last c := e
  have : goodB last c i = true := decide_eq_true ⟨hp, by omega⟩
  rw [hg] at this
  cases this
/-- the first row with the fewest touches is the greedy one -/
theorem grow_first : ∀ (n last : Nat) (c : List Nat), c.sum = n → ∃ l1 l2, rowsOf n c = l1 ++ grow n last c :: l2 ∧ (∀ r ∈ l1, tch last r ≠ fl last c) ∧ tch last (grow n last c) = fl last c
  | 0, last, c, hs => by
    refine ⟨[], [], rfl, (fun _ h => nomatch h), ?_⟩
    have : fl last c = 0 := Nat.le_zero.mp (fl_le.mpr fun i _ => by have := le_sum (c := c) (i := i); omega)
    rw [this]; rfl
  | n + 1, last, c, hs => by
    obtain ⟨h1, h2⟩ := fstG_ok (last := last) (c := c) (by omega)
    have hlow : ∀ j, j < fstG last c → goodB last c j = false := by
      intro j hj
      cases h : goodB last c j with
      | false => rfl
      | true =>
        exfalso
        have hf : (List.range c.length).find? (goodB last c) = some (fstG last c) := by
          cases hq : (List.range c.length).find? (goodB last c) with
          | some k => unfold fstG; rw [hq]; rfl
          | none => rw [List.find?_eq_none] at hq; exact (hq _ (List.mem_range.mpr h1) h2).elim
        rw [range_split (n := c.length) (i := j) (by omega), List.find?_append] at hf
        cases hq : (List.range j).find? (goodB last c) with
        | some k =>
          rw [hq] at hf
          have := List.mem_range.mp (List.mem_of_find?_eq_some hq)
          have e : some k = some (fstG last c) := hf
          cases e
          omega
        | none =>
          rw [hq] at hf
          simp [h] at hf
          omega
    obtain ⟨i, hi⟩ : ∃ i, i = fstG last c := ⟨_, rfl⟩
    rw [← hi] at h1 h2 hlow
    obtain ⟨hp, hfe⟩ := of_decide_eq_true h2
    have hds := dec_sum hp
    obtain ⟨l1, l2, he, hl1, ht⟩ := grow_first n i (dec c i) (by omega)
    have hr : rowsOf (n + 1) c = (List.range c.length).flatMap fun i => if 0 < c.getD i 0 then (rowsOf n (dec c i)).map (i :: ·) else [] := rfl
    rw [range_split h1, List.flatMap_append, List.flatMap_cons, if_pos hp, he, List.map_append, List.map_cons] at hr
    have hg : grow (n + 1) last c = i :: grow n i (dec c i) := by rw [hi]; rfl
    refine ⟨_, _, by rw [hr, hg, List.append_assoc, ← List.append_assoc (List.flatMap _ _), List.cons_append], fun r hm => ?_, ?_⟩
    · rcases List.mem_append.mp hm with hm | hm
      · obtain ⟨j, hj, hrj⟩ := List.mem_flatMap.mp hm
        have hj' := List.mem_range.mp hj
        by_cases hpj : 0 < c.getD j 0
        · rw [if_pos hpj] at hrj
          obtain ⟨s, hsm, rfl⟩ := List.mem_map.mp hrj
          exact not_good_tch hs hpj (hlow j hj') hsm
        · rw [if_neg hpj] at hrj; cases hrj
      · obtain ⟨s, hsm, rfl⟩ := List.mem_map.mp hm
        have := hl1 s hsm
        show (if i = last then 1 else 0) + tch i s ≠ fl last c
        omega
    · rw [hg]
      show (if i = last then 1 else 0) + tch i (grow n i (dec c i)) = fl last c
      omega
/-! ### likes side by side -/
def sprO : Nat → List Nat → List Nat
  | _, [] => []
  | k, m :: c => List.replicate m k ++ sprO (k + 1) c
theorem sprO_zero : ∀ (k : Nat) (c : List Nat), c.sum = 0 → sprO k c = []
  | _, [], _ => rfl
  | k, m :: c, h => by
    rw [List.sum_cons] at h
    have : m = 0 := by omega
    subst this
    show [] ++ sprO (k + 1) c = []
    rw [sprO_zero (k + 1) c (by omega)]; rfl
/-- the first name that is there -/
def fstP (c : List Nat) : Nat := ((List.range c.length).find? fun i => decide (0 < c.getD i 0)).getD 0
theorem sprO_step : ∀ (k : Nat) (c : List Nat), 0 < c.sum → ∃ i, i < c.length ∧ 0 < c.getD i 0 ∧ (∀ j, j < i → c.getD j 0 = 0) ∧ sprO k c = (k + i) :: sprO k (dec c i)
  | _, [], h => by simp at h
  | k, m :: c, h => by
    by_cases hm : 0 < m
    · refine ⟨0, by simp, by simpa using hm, fun j hj => by omega, ?_⟩
      obtain ⟨m, rfl⟩ : ∃ m', m = m' + 1 := ⟨m - 1, by omega⟩
      show List.replicate (m + 1) k ++ sprO (k + 1) c = (k + 0) :: (List.replicate (m + 1 - 1) k ++ sprO (k + 1) c)
      rw [List.replicate_succ, List.cons_append, Nat.add_sub_cancel]; rfl
    · have : m = 0 := by omega
      subst this
      rw [List.sum_cons] at h
      obtain ⟨i, h1, h2, h3, h4⟩ := sprO_step (k + 1) c (by omega)
      refine ⟨i + 1, by simp; omega, by simpa using h2, fun j hj => ?_, ?_⟩
      · cases j with
        | zero => rfl
        | succ j => simpa using h3 j (by omega)
      · show [] ++ sprO (k + 1) c = (k + (i + 1)) :: sprO k (0 :: dec c i)
        rw [List.nil_append, h4, show k + 1 + i = k + (i + 1) by omega]
        rfl
theorem spr_head : ∀ (n : Nat) (c : List Nat), c.sum = n → ∃ l, rowsOf n c = sprO 0 c :: l
  | 0, c, hs => ⟨[], by rw [sprO_zero 0 c hs]; rfl⟩
  | n + 1, c, hs => by
    obtain ⟨i, h1, h2, h3, h4⟩ := sprO_step 0 c (by omega)
    obtain ⟨l, hl⟩ := spr_head n (dec c i) (by have := dec_sum h2; omega)
    have hr : rowsOf (n + 1) c = (List.range c.length).flatMap fun i => if 0 < c.getD i 0 then (rowsOf n (dec c i)).map (i :: ·) else [] := rfl
    rw [range_split h1, List.flatMap_append, List.flatMap_cons, if_pos h2, hl, List.map_cons] at hr
    have e : ((List.range i).flatMap fun i => if 0 < c.getD i 0 then (rowsOf n (dec c i)).map (i :: ·) else []) = [] := by
      rw [List.flatMap_eq_nil_iff]
      intro j hj
      rw [if_neg (by rw [h3 j (List.mem_range.mp hj)]; omega)]
    rw [e, List.nil_append] at hr
    refine ⟨_, by rw [hr, h4, Nat.zero_add, List.cons_append]⟩
theorem tch_rep : ∀ (m k : Nat) (r : List Nat), tch k (List.replicate m k ++ r) = m + tch k r
  | 0, k, r => by simp
  | m + 1, k, r => by
    rw [List.replicate_succ, List.cons_append]
    show (if k = k then 1 else 0) + tch k (List.replicate m k ++ r) = _
    rw [if_pos rfl, tch_rep m k r]; omega
theorem spr_tch : ∀ (c : List Nat) (k last : Nat), last ≠ k → (∀ m ∈ c, 0 < m) → tch last (sprO k c) + c.length = c.sum
  | [], _, _, _, _ => rfl
  | m :: c, k, last, hk, hp => by
    have hm := hp m List.mem_cons_self
    have ih := spr_tch c (k + 1) k (by omega) fun x hx => hp x (List.mem_cons_of_mem _ hx)
    obtain ⟨m, rfl⟩ : ∃ m', m = m' + 1 := ⟨m - 1, by omega⟩
    show tch last (List.replicate (m + 1) k ++ sprO (k + 1) c) + (c.length + 1) = ((m + 1) :: c).sum
    rw [List.replicate_succ, List.cons_append, List.sum_cons]
    show (if k = last then 1 else 0) + tch k (List.replicate m k ++ sprO (k + 1) c) + (c.length + 1) = _
    rw [if_neg (fun e => hk e.symm), tch_rep]; omega
end Vs

namespace Vs
/-! ### the number of a row -/
/-- the rows that go on with one name -/
def blk (n last : Nat) (c : List Nat) (i : Nat) : List (List Nat) := if 0 < c.getD i 0 ∧ i ≠ last then (rows0 n i (dec c i)).map (i :: ·) else []
theorem rows0_blk (n last : Nat) (c : List Nat) : rows0 (n + 1) last c = (List.range c.length).flatMap (blk n last c) := rfl
/-- so many lie ahead of a name's -/
def offB (n last : Nat) (c : List Nat) (i : Nat) : Nat := ((List.range i).flatMap (blk n last c)).length
theorem offB_succ (n last : Nat) (c : List Nat) (i : Nat) : offB n last c (i + 1) = offB n last c i + (blk n last c i).length := by
  unfold offB
  rw [List.range_succ, List.flatMap_append, List.length_append]
  simp
theorem flat_at {α : Type} (f : Nat → List α) : ∀ (n i k : Nat), i < n → k < (f i).length → ((List.range n).flatMap f)[((List.range i).flatMap f).length + k]? = (f i)[k]? := by
  intro n i k hi hk
  have e : List.range n = List.range i ++ i :: (List.range (n - i - 1)).map fun k => i + (k + 1) := range_split hi
  rw [e, List.flatMap_append, List.flatMap_cons, List.getElem?_append_right (by omega), Nat.add_sub_cancel_left, List.getElem?_append_left hk]
/-- where a number lies -/
theorem find_blk (n last : Nat) (c : List Nat) : ∀ (L k : Nat), k < offB n last c L → ∃ i, i < L ∧ offB n last c i ≤ k ∧ k < offB n last c (i + 1)
  | 0, k, h => by unfold offB at h; simp at h
  | L + 1, k, h => by
    rcases Nat.lt_or_ge k (offB n last c L) with h1 | h1
    · obtain ⟨i, h2, h3⟩ := find_blk n last c L k h1
      exact ⟨i, by omega, h3⟩
    · exact ⟨L, by omega, h1, h⟩
theorem rows0_at {n last : Nat} {c : List Nat} {i k : Nat} (hi : i < c.length) (hk : k < (blk n last c i).length) : (rows0 (n + 1) last c)[offB n last c i + k]? = (blk n last c i)[k]? := flat_at (blk n last c) c.length i k hi hk
theorem blk_at {n last : Nat} {c : List Nat} {i k : Nat} (hk : k < (blk n last c i).length) : (0 < c.getD i 0 ∧ i ≠ last) ∧ ∃ r, (rows0 n i (dec c i))[k]? = some r ∧ (blk n last c i)[k]? = some (i :: r) := by
  unfold blk at hk ⊢
  split at hk
  · rename_i h
    refine ⟨h, ?_⟩
    rw [if_pos h]
    rw [List.length_map] at hk
    exact ⟨(rows0 n i (dec c i))[k], List.getElem?_eq_getElem hk, by rw [List.getElem?_map, List.getElem?_eq_getElem hk]; rfl⟩
  · simp at hk
def posOf : Nat → Nat → List Nat → List Nat → Nat
  | 0, _, _, _ => 0
  | _ + 1, _, _, [] => 0
  | n + 1, last, c, i :: r => offB n last c i + posOf n i (dec c i) r
theorem posOf_at : ∀ (n last : Nat) (c : List Nat) (k : Nat) (r : List Nat), (rows0 n last c)[k]? = some r → posOf n last c r = k
  | 0, last, c, k, r, h => by
    have h' : ([[]] : List (List Nat))[k]? = some r := h
    cases k with
    | zero => rfl
    | succ k => simp at h'
  | n + 1, last, c, k, r, h => by
    have hk : k < (rows0 (n + 1) last c).length := (List.getElem?_eq_some_iff.mp h).1
    obtain ⟨i, hi, h1, h2⟩ := find_blk n last c c.length k hk
    have hb : k - offB n last c i < (blk n last c i).length := by rw [offB_succ] at h2; omega
    have h3 := rows0_at hi hb
    obtain ⟨hc, r', h4, h5⟩ := blk_at hb
    rw [show offB n last c i + (k - offB n last c i) = k by omega, h, h5] at h3
    cases h3
    show offB n last c i + posOf n i (dec c i) r' = k
    rw [posOf_at n i (dec c i) _ r' h4]; omega
end Vs

namespace Vs
/-! ### all rows together, and one more of a name -/
/-- how many rows a bag has: places chosen name by name, the first name last -/
def mlt : List Nat → Nat
  | [] => 1
  | m :: c => ch (c.sum + m) m * mlt c
theorem WR_all : ∀ c : List Nat, WR c c.sum = (mlt c : Int)
  | [] => rfl
  | m :: c => by
    show WR (m :: c) (m + c.sum) = ((ch (c.sum + m) m * mlt c : Nat) : Int)
    rw [WR_cons, sm_one (j := m) (by omega) fun r hr hne => ?_]
    · rw [show m + c.sum - m = c.sum by omega, WR_all c, cmp_self, Int.mul_one, Int.natCast_mul, Int.mul_comm, Nat.add_comm m]
    · rcases Nat.lt_or_ge r m with h | h
      · rw [WR_many c (by omega)]; simp
      · rw [cmp_gt (by omega)]; simp
theorem Nt_total {c : List Nat} {n : Nat} (hs : c.sum = n) : (sm (n + 1) fun j => Nt n c.length c j) = (mlt c : Int) := by
  have h1 := Bm_Nt n c.length c 0 (n + 1) (by omega)
  rw [Bm_eq n hs, if_pos (Nat.zero_le _), Nat.sub_zero] at h1
  rw [← WR_all c, hs, h1]
  exact sm_congr fun j _ => by rw [ch_zero]; simp
theorem Nt_total' {c : List Nat} {n : Nat} (hs : c.sum = n) (hp : ∀ m ∈ c, 0 < m) : (sm (n - c.length + 1) fun j => Nt n c.length c j) = (mlt c : Int) := by
  rw [← Nt_total hs]
  symm
  refine sm_more (by omega) fun j h1 h2 => Nt_over hs hp (by omega)
theorem perm_sum {c c' : List Nat} (h : c.Perm c') : c.sum = c'.sum := by
  induction h with
  | nil => rfl
  | cons x _ ih => rw [List.sum_cons, List.sum_cons, ih]
  | swap x y l => simp only [List.sum_cons]; omega
  | trans _ _ ih1 ih2 => rw [ih1, ih2]
theorem mlt_perm {c c' : List Nat} (h : c.Perm c') : mlt c = mlt c' := by
  have h1 := WR_perm h c.sum
  rw [WR_all c, perm_sum h, WR_all c'] at h1
  exact Int.ofNat.inj h1
theorem Nt_perm {c c' : List Nat} {n : Nat} (h : c.Perm c') (hs : c.sum = n) (j : Nat) : Nt n c.length c j = Nt n c'.length c' j := by
  rcases Nat.lt_or_ge n j with hj | hj
  · rw [Nt_many n _ _ hj, Nt_many n _ _ hj]
  · rw [Nt_runs hs j hj, Nt_runs (by rw [← perm_sum h]; exact hs) j hj]
    exact sm_congr fun k _ => by rw [WR_perm h]
/-- one more of a name -/
def inc (c : List Nat) (i : Nat) : List Nat := c.set i (c.getD i 0 + 1)
theorem inc_len (c : List Nat) (i : Nat) : (inc c i).length = c.length := by unfold inc; simp
theorem inc_get {c : List Nat} {i j : Nat} (hi : i < c.length) : (inc c i).getD j 0 = if i = j then c.getD i 0 + 1 else c.getD j 0 := by
  unfold inc
  rw [getD_set hi]
theorem inc_sum {c : List Nat} {i : Nat} (hi : i < c.length) : (inc c i).sum = c.sum + 1 := by
  have := sum_setN (c := c) (i := i) (v := c.getD i 0 + 1) hi
  unfold inc
  omega
theorem dec_inc {c : List Nat} {i : Nat} (hi : i < c.length) : dec (inc c i) i = c := by
  unfold dec
  rw [inc_get hi, if_pos rfl]
  unfold inc
  rw [List.set_set, Nat.add_sub_cancel]
  refine List.ext_getElem (by simp) fun k h1 h2 => ?_
  rw [List.getElem_set]
  split
  · subst_vars
    rw [List.getD_eq_getElem?_getD, List.getElem?_eq_getElem h2]; rfl
  · rfl
theorem dec_inc_ne {c : List Nat} {i x : Nat} (hi : i < c.length) (hx : x ≠ i) : dec (inc c i) x = inc (dec c x) i := by
  unfold dec
  rw [inc_get hi, if_neg (fun h => hx h.symm)]
  unfold inc
  by_cases hxl : x < c.length
  · rw [getD_set hxl, if_neg hx, List.set_comm]
    exact fun h => hx h.symm
  · rw [List.set_eq_of_length_le (l := c) (i := x) (by omega), List.set_eq_of_length_le (i := x) (by simp; omega)]
theorem sm_le {n : Nat} {f g : Nat → Int} (h : ∀ i, i < n → f i ≤ g i) : sm n f ≤ sm n g := by
  have h1 := sm_nonneg (n := n) (f := fun i => g i - f i) fun i hi => by have := h i hi; omega
  rw [sm_sub] at h1
  omega
theorem fstG_min {last : Nat} {c : List Nat} {i : Nat} (hi : i < c.length) (hg : goodB last c i = true) : fstG last c ≤ i := by
  unfold fstG
  cases h : (List.range c.length).find? (goodB last c) with
  | none => rw [List.find?_eq_none] at h; exact (h i (List.mem_range.mpr hi) hg).elim
  | some k =>
    show k ≤ i
    rcases Nat.lt_or_ge i k with hlt | hge
    · obtain ⟨h1, l1, l2, h2, h3⟩ := List.find?_eq_some_iff_append.mp h
      have hk : (List.range c.length)[l1.length]? = some k := by rw [h2]; simp
      rw [List.getElem?_range (by have := congrArg List.length h2; simp at this; omega)] at hk
      cases hk
      have hm : i ∈ l1 := by
        have : (List.range c.length)[i]? = some i := List.getElem?_range hi
        rw [h2, List.getElem?_append_left hlt] at this
        exact List.mem_of_getElem? this
      have := h3 i hm
      rw [hg] at this; cases this
    · exact hge
theorem Nt_same {n : Nat} {c : List Nat} {i j : Nat} (h : 0 < c.getD i 0) : Nt n i (dec c i) j ≤ Nt (n + 1) i c (j + 1) := by
  have hi := getD_lt h
  refine Int.le_trans ?_ (sm_ge (j := i) hi fun x hx => ?_)
  · rw [if_pos h, if_pos rfl, if_pos (Nat.succ_pos _), Nat.add_sub_cancel]; exact Int.le_refl _
  · have h1 := Nt_pos n x (dec c x) (j + 1 - 1)
    have h2 := Nt_pos n x (dec c x) (j + 1)
    split
    · split
      · split
        · exact h1
        · omega
      · exact h2
    · omega
theorem Nt_more : ∀ (n last : Nat) (c : List Nat) (j i : Nat), c.sum = n → 0 < c.getD i 0 → Nt n last c j ≤ Nt (n + 1) last (inc c i) (j + 1)
  | 0, last, c, j, i, hs, h => by
    have := le_sum (c := c) (i := i)
    omega
  | n + 1, last, c, j, i, hs, h => by
    have hi := getD_lt h
    show (sm c.length fun x => if 0 < c.getD x 0 then (if x = last then (if 0 < j then Nt n x (dec c x) (j - 1) else 0) else Nt n x (dec c x) j) else 0) ≤ sm (inc c i).length fun x => if 0 < (inc c i).getD x 0 then (if x = last then (if 0 < j + 1 then Nt (n + 1) x (dec (inc c i) x) (j + 1 - 1) else 0) else Nt (n + 1) x (dec (inc c i) x) (j + 1)) else 0
    rw [inc_len]
    refine sm_le fun x hx => ?_
    have hq1 := Nt_pos (n + 1) x (dec (inc c i) x) (j + 1 - 1)
    have hq2 := Nt_pos (n + 1) x (dec (inc c i) x) (j + 1)
    by_cases hc : 0 < c.getD x 0
    · have hc' : 0 < (inc c i).getD x 0 := by
        rw [inc_get hi]; split <;> omega
      have hd := dec_sum hc
      have key : ∀ j', Nt n x (dec c x) j' ≤ Nt (n + 1) x (dec (inc c i) x) (j' + 1) := by
        intro j'
        by_cases hxi : x = i
        · subst hxi
          rw [dec_inc hi]
          exact Nt_same hc
        · rw [dec_inc_ne hi hxi]
          refine Nt_more n x (dec c x) j' i (by omega) ?_
          rw [dec_get hx, if_neg hxi]; exact h
      rw [if_pos hc, if_pos hc']
      by_cases hl : x = last
      · rw [if_pos hl, if_pos hl, if_pos (Nat.succ_pos _)]
        by_cases hj : 0 < j
        · rw [if_pos hj]
          have := key (j - 1)
          rwa [show j - 1 + 1 = j + 1 - 1 by omega] at this
        · rw [if_neg hj]; exact hq1
      · rw [if_neg hl, if_neg hl]; exact key j
    · rw [if_neg hc]
      split
      · split
        · split
          · exact hq1
          · omega
        · exact hq2
      · omega
/-- the first row of all without touches is the one of fewest touches, where these are none -/
theorem rows0_first : ∀ (n last : Nat) (c : List Nat), c.sum = n → fl last c = 0 → (rows0 n last c)[0]? = some (grow n last c)
  | 0, last, c, _, _ => rfl
  | n + 1, last, c, hs, h => by
    obtain ⟨h1, h2⟩ := fstG_ok (last := last) (c := c) (by omega)
    obtain ⟨hp, he⟩ := of_decide_eq_true h2
    have hne : fstG last c ≠ last := fun z => by rw [if_pos z] at he; omega
    have hf : fl (fstG last c) (dec c (fstG last c)) = 0 := by rw [if_neg hne] at he; omega
    have ih := rows0_first n (fstG last c) (dec c (fstG last c)) (by have := dec_sum hp; omega) hf
    have hoff : offB n last c (fstG last c) = 0 := by
      have : ∀ i, i ≤ fstG last c → offB n last c i = 0 := by
        intro i
        induction i with
        | zero => intro _; rfl
        | succ i ihi =>
          intro hle
          rw [offB_succ, ihi (by omega)]
          unfold blk
          by_cases hc : 0 < c.getD i 0 ∧ i ≠ last
          · have hg : goodB last c i = false := by
              cases hb : goodB last c i with
              | false => rfl
              | true =>
                have := fstG_min (last := last) (c := c) (i := i) (by omega) hb
                omega
            have hnf : fl i (dec c i) ≠ 0 := fun z => by
              have : goodB last c i = true := decide_eq_true ⟨hc.1, by rw [if_neg hc.2, h, z]⟩
              rw [this] at hg; cases hg
            have hz : rows0 n i (dec c i) = [] := by
              apply List.eq_nil_of_length_eq_zero
              have hl := rows0_len n i (dec c i)
              have hd := dec_sum hc.1
              have hN : ¬ 0 < Nt n i (dec c i) 0 := fun z => by
                have := Nt_fl_le n i (dec c i) 0 (by omega) z
                omega
              have := Nt_pos n i (dec c i) 0
              omega
            rw [if_pos hc, hz]; rfl
          · rw [if_neg hc]; rfl
      exact this _ (Nat.le_refl _)
    have hb : (blk n last c (fstG last c))[0]? = some (fstG last c :: grow n (fstG last c) (dec c (fstG last c))) := by
      unfold blk
      rw [if_pos ⟨hp, hne⟩, List.getElem?_map, ih]; rfl
    have hlt : 0 < (blk n last c (fstG last c)).length := (List.getElem?_eq_some_iff.mp hb).1
    have := rows0_at (n := n) (last := last) (c := c) (i := fstG last c) (k := 0) h1 hlt
    rw [hoff, hb] at this
    exact this
end Vs

namespace Vs
/-! ### laid by what is left most: likes d apart -/
def cN : Nat → (Nat → Bool) → Nat
  | 0, _ => 0
  | n + 1, p => cN n p + (if p n = true then 1 else 0)
def sN : Nat → (Nat → Nat) → Nat
  | 0, _ => 0
  | n + 1, f => sN n f + f n
theorem cN_le : ∀ {n : Nat} {p q : Nat → Bool}, (∀ i, i < n → p i = true → q i = true) → cN n p ≤ cN n q
  | 0, _, _, _ => Nat.le_refl _
  | n + 1, p, q, h => by
    have ih := cN_le (n := n) (p := p) (q := q) fun i hi => h i (by omega)
    have h2 := h n (by omega)
    show cN n p + (if p n = true then 1 else 0) ≤ cN n q + (if q n = true then 1 else 0)
    by_cases hp : p n = true
    · rw [if_pos hp, if_pos (h2 hp)]; omega
    · rw [if_neg hp]; omega
theorem cN_congr {n : Nat} {p q : Nat → Bool} (h : ∀ i, i < n → p i = q i) : cN n p = cN n q :=
  Nat.le_antisymm (cN_le fun i hi hp => by rw [← h i hi]; exact hp) (cN_le fun i hi hp => by rw [h i hi]; exact hp)
theorem cN_pos : ∀ {n : Nat} {p : Nat → Bool}, 0 < cN n p ↔ ∃ i, i < n ∧ p i = true
  | 0, p => ⟨fun h => absurd h (Nat.lt_irrefl 0), fun ⟨i, h, _⟩ => absurd h (Nat.not_lt_zero i)⟩
  | n + 1, p => by
    show 0 < cN n p + (if p n = true then 1 else 0) ↔ _
    have ih := cN_pos (n := n) (p := p)
    by_cases hp : p n = true
    · rw [if_pos hp]
      exact ⟨fun _ => ⟨n, by omega, hp⟩, fun _ => by omega⟩
    · rw [if_neg hp, Nat.add_zero, ih]
      refine ⟨fun ⟨i, h1, h2⟩ => ⟨i, by omega, h2⟩, fun ⟨i, h1, h2⟩ => ⟨i, ?_, h2⟩⟩
      rcases Nat.lt_or_ge i n with h | h
      · exact h
      · have : i = n := by omega
        subst this
        exact absurd h2 hp
theorem cN_one : ∀ {n : Nat} {p : Nat → Bool}, (∀ i j, i < n → j < n → p i = true → p j = true → i = j) → cN n p ≤ 1
  | 0, _, _ => Nat.zero_le _
  | n + 1, p, h => by
    show cN n p + (if p n = true then 1 else 0) ≤ 1
    have ih := cN_one (n := n) (p := p) fun i j hi hj => h i j (by omega) (by omega)
    by_cases hp : p n = true
    · rw [if_pos hp]
      have : cN n p = 0 := by
        rcases Nat.eq_zero_or_pos (cN n p) with h0 | h0
        · exact h0
        · obtain ⟨i, h1, h2⟩ := cN_pos.mp h0
          have := h i n (by omega) (by omega) h2 hp
          omega
      omega
    · rw [if_neg hp]; omega
theorem cN_split : ∀ {n : Nat} {p : Nat → Bool} (q : Nat → Bool), cN n p = cN n (fun i => p i && q i) + cN n fun i => p i && !q i
  | 0, _, _ => rfl
  | n + 1, p, q => by
    show cN n p + (if p n = true then 1 else 0) = (cN n (fun i => p i && q i) + (if (p n && q n) = true then 1 else 0)) + (cN n (fun i => p i && !q i) + (if (p n && !q n) = true then 1 else 0))
    rw [cN_split (n := n) (p := p) q]
    cases p n <;> cases q n <;> simp <;> omega
/-- one more -/
theorem cN_add {n x : Nat} {p q : Nat → Bool} (hx : x < n) (h : ∀ i, i ≠ x → p i = q i) (hp : p x = false) (hq : q x = true) : cN n p + 1 = cN n q := by
  induction n with
  | zero => omega
  | succ n ih =>
    show cN n p + (if p n = true then 1 else 0) + 1 = cN n q + (if q n = true then 1 else 0)
    by_cases e : x = n
    · subst e
      rw [if_pos hq, hp, if_neg Bool.false_ne_true, cN_congr (n := x) (p := p) (q := q) fun i hi => h i (by omega)]
    · rw [h n (fun z => e z.symm)]
      have := ih (by omega)
      omega
theorem sN_upd {n x : Nat} {c : Nat → Nat} (hx : x < n) (hc : 0 < c x) : sN n (fun i => if i = x then c x - 1 else c i) + 1 = sN n c := by
  induction n with
  | zero => omega
  | succ n ih =>
    show sN n (fun i => if i = x then c x - 1 else c i) + (if n = x then c x - 1 else c n) + 1 = sN n c + c n
    by_cases e : n = x
    · subst e
      have : ∀ m, m ≤ n → sN m (fun i => if i = n then c n - 1 else c i) = sN m c := by
        intro m
        induction m with
        | zero => intro _; rfl
        | succ m ihm =>
          intro hm
          show sN m _ + (if m = n then c n - 1 else c m) = sN m c + c m
          rw [ihm (by omega), if_neg (by omega)]
      rw [this n (Nat.le_refl _), if_pos rfl]; omega
    · rw [if_neg e]
      have := ih (by omega)
      omega
theorem sN_ge (m : Nat) {c : Nat → Nat} : ∀ n : Nat, (m + 1) * cN n (fun i => decide (m < c i)) + cN n (fun i => decide (m + 1 < c i)) ≤ sN n c
  | 0 => Nat.le_refl _
  | n + 1 => by
    have ih := sN_ge m (c := c) n
    show (m + 1) * (cN n _ + (if decide (m < c n) = true then 1 else 0)) + (cN n _ + (if decide (m + 1 < c n) = true then 1 else 0)) ≤ sN n c + c n
    rw [Nat.mul_add]
    by_cases h1 : m < c n
    · rw [if_pos (decide_eq_true h1), Nat.mul_one]
      by_cases h2 : m + 1 < c n
      · rw [if_pos (decide_eq_true h2)]; omega
      · rw [if_neg (fun z => h2 (of_decide_eq_true z))]; omega
    · rw [if_neg (fun z => h1 (of_decide_eq_true z)), if_neg (fun z => h1 (by have := of_decide_eq_true z; omega)), Nat.mul_zero]; omega
theorem sN_top (M : Nat) {c : Nat → Nat} : ∀ n : Nat, (∀ i, i < n → c i ≤ M + 1) → sN n c ≤ M * cN n (fun i => decide (0 < c i)) + cN n (fun i => decide (M < c i))
  | 0, _ => Nat.le_refl _
  | n + 1, h => by
    have ih := sN_top M (c := c) n fun i hi => h i (by omega)
    have hn := h n (by omega)
    show sN n c + c n ≤ M * (cN n _ + (if decide (0 < c n) = true then 1 else 0)) + (cN n _ + (if decide (M < c n) = true then 1 else 0))
    rw [Nat.mul_add]
    by_cases h1 : 0 < c n
    · rw [if_pos (decide_eq_true h1), Nat.mul_one]
      by_cases h2 : M < c n
      · rw [if_pos (decide_eq_true h2)]; omega
      · rw [if_neg (fun z => h2 (of_decide_eq_true z))]; omega
    · rw [if_neg (fun z => h1 (of_decide_eq_true z)), if_neg (fun z => h1 (by have := of_decide_eq_true z; omega)), Nat.mul_zero]; omega
/-- waits: below d, unlike but for noughts -/
structure Wt (L d : Nat) (w : Nat → Nat) : Prop where
  lt : ∀ i, i < L → w i + 1 ≤ d
  ne : ∀ i j, i < L → j < L → 0 < w i → w i = w j → i = j
theorem Wt.few {L d : Nat} {w : Nat → Nat} (h : Wt L d w) : ∀ (k v : Nat), d = v + k → 1 ≤ v → cN L (fun i => decide (v ≤ w i)) ≤ k
  | 0, v, hd, hv => by
    rcases Nat.eq_zero_or_pos (cN L (fun i => decide (v ≤ w i))) with h0 | h0
    · omega
    · obtain ⟨i, h1, h2⟩ := cN_pos.mp h0
      have := h.lt i h1
      have := of_decide_eq_true h2
      omega
  | k + 1, v, hd, hv => by
    have ih := h.few k (v + 1) (by omega) (by omega)
    rw [cN_split (fun i => decide (v + 1 ≤ w i))]
    have e1 : cN L (fun i => decide (v ≤ w i) && decide (v + 1 ≤ w i)) = cN L (fun i => decide (v + 1 ≤ w i)) := cN_congr fun i _ => by
      by_cases h1 : v + 1 ≤ w i
      · rw [decide_eq_true h1, decide_eq_true (show v ≤ w i by omega)]; rfl
      · rw [decide_eq_false h1, Bool.and_false]
    have e2 : cN L (fun i => decide (v ≤ w i) && !decide (v + 1 ≤ w i)) ≤ 1 := cN_one fun i j hi hj hp hq => by
      rw [Bool.and_eq_true] at hp hq
      have a1 := of_decide_eq_true hp.1
      have b1 := of_decide_eq_true hq.1
      have a2 : ¬ v + 1 ≤ w i := fun z => by rw [decide_eq_true z] at hp; exact absurd hp.2 (by decide)
      have b2 : ¬ v + 1 ≤ w j := fun z => by rw [decide_eq_true z] at hq; exact absurd hq.2 (by decide)
      exact h.ne i j hi hj (by omega) (by omega)
    rw [e1]; omega
def cnt (L : Nat) (c w : Nat → Nat) (m v : Nat) : Nat := cN L fun i => decide (m < c i ∧ v ≤ w i)
/-- what is left can be laid d apart -/
def Gd (L d : Nat) (c w : Nat → Nat) (n : Nat) : Prop := ∀ m v, 0 < cnt L c w m v → m * d + v + cnt L c w m v ≤ n
def cX (c : Nat → Nat) (x : Nat) : Nat → Nat := fun i => if i = x then c x - 1 else c i
def wX (d : Nat) (w : Nat → Nat) (x : Nat) : Nat → Nat := fun i => if i = x then d - 1 else w i - 1
theorem Wt.step {L d x : Nat} {w : Nat → Nat} (h : Wt L d w) (hd : 1 ≤ d) : Wt L d (wX d w x) := by
  constructor
  · intro i hi
    have := h.lt i hi
    unfold wX
    split <;> omega
  · intro i j hi hj hp he
    have a := h.lt i hi
    have b := h.lt j hj
    unfold wX at hp he
    by_cases e1 : i = x
    · by_cases e2 : j = x
      · omega
      · rw [if_pos e1] at hp he
        rw [if_neg e2] at he
        omega
    · rw [if_neg e1] at hp he
      by_cases e2 : j = x
      · rw [if_pos e2] at he; omega
      · rw [if_neg e2] at he
        exact h.ne i j hi hj (by omega) (by omega)
theorem cnt_le {L : Nat} {c w c' w' : Nat → Nat} {m v m' v' : Nat} (h : ∀ i, i < L → m < c i → v ≤ w i → m' < c' i ∧ v' ≤ w' i) : cnt L c w m v ≤ cnt L c' w' m' v' :=
  cN_le fun i hi hp => by
    have := of_decide_eq_true hp
    exact decide_eq_true (h i hi this.1 this.2)
theorem cnt_pos {L : Nat} {c w : Nat → Nat} {m v : Nat} : 0 < cnt L c w m v ↔ ∃ i, i < L ∧ m < c i ∧ v ≤ w i := by
  unfold cnt
  rw [cN_pos]
  exact ⟨fun ⟨i, h1, h2⟩ => ⟨i, h1, of_decide_eq_true h2⟩, fun ⟨i, h1, h2⟩ => ⟨i, h1, decide_eq_true h2⟩⟩
theorem cnt_zero {L : Nat} {c w : Nat → Nat} {m : Nat} : cnt L c w m 0 = cN L fun i => decide (m < c i) := cN_congr fun i _ => by
  by_cases h : m < c i
  · rw [decide_eq_true h, decide_eq_true ⟨h, Nat.zero_le _⟩]
  · rw [decide_eq_false h, decide_eq_false fun z => h z.1]
theorem cnt_less {L x : Nat} {c w w' : Nat → Nat} {m : Nat} (hx : x < L) (hc : c x = m + 1) : cnt L (cX c x) w' m 0 + 1 = cnt L c w m 0 := by
  rw [cnt_zero, cnt_zero]
  refine cN_add hx (fun i hi => ?_) ?_ ?_
  · show decide (m < cX c x i) = _
    unfold cX
    rw [if_neg hi]
  · show decide (m < cX c x x) = _
    unfold cX
    rw [if_pos rfl]
    exact decide_eq_false (by omega)
  · exact decide_eq_true (by omega)
theorem Gd_step {L d x n : Nat} {c w : Nat → Nat} (hW : Wt L d w) (hd : 1 ≤ d) (hx : x < L) (hc : 0 < c x) (hw : w x = 0) (hmax : ∀ i, i < L → 0 < c i → w i = 0 → c i ≤ c x) (hs : sN L c = n + 1) : Gd L d c w (n + 1) ↔ Gd L d (cX c x) (wX d w x) n := by
  have hcx : cX c x x = c x - 1 := if_pos rfl
  have hwx : wX d w x x = d - 1 := if_pos rfl
  have hcn : ∀ i, i ≠ x → cX c x i = c i := fun i h => if_neg h
  have hwn : ∀ i, i ≠ x → wX d w x i = w i - 1 := fun i h => if_neg h
  constructor
  · intro G m v hq
    have hmd : (m + 1) * d = m * d + d := Nat.succ_mul m d
    by_cases hv : 1 ≤ v
    · by_cases hm : m + 1 < c x
      · have h1 : cnt L (cX c x) (wX d w x) m v ≤ d - v := by
          have hW' := hW.step (x := x) hd
          obtain ⟨i, hi, _, hvi⟩ := cnt_pos.mp hq
          have := hW'.lt i hi
          have h2 := hW'.few (d - v) v (by omega) hv
          refine Nat.le_trans (cN_le fun i hi hp => ?_) h2
          exact decide_eq_true (of_decide_eq_true hp).2
        have h3 : 0 < cnt L c w (m + 1) 0 := cnt_pos.mpr ⟨x, hx, hm, Nat.zero_le _⟩
        have h4 := G (m + 1) 0 h3
        have h5 : v ≤ d := by
          rcases Nat.lt_or_ge d v with z | z
          · omega
          · exact z
        omega
      · have h1 : cnt L (cX c x) (wX d w x) m v ≤ cnt L c w m (v + 1) := cnt_le fun i hi a b => by
          by_cases e : i = x
          · rw [e, hcx] at a; omega
          · rw [hcn i e] at a
            rw [hwn i e] at b
            exact ⟨a, by omega⟩
        have h2 := G m (v + 1) (by omega)
        omega
    · have hv0 : v = 0 := by omega
      subst hv0
      by_cases hm1 : c x = m + 1
      · have h1 := cnt_less (w := w) (w' := wX d w x) hx hm1
        have h2 := G m 0 (by omega)
        omega
      · by_cases hm2 : m + 1 < c x
        · have h1 : cnt L (cX c x) (wX d w x) m 0 ≤ cnt L c w m 0 := cnt_le fun i hi a b => by
            by_cases e : i = x
            · rw [e]; exact ⟨by omega, Nat.zero_le _⟩
            · rw [hcn i e] at a; exact ⟨a, Nat.zero_le _⟩
          have h3 : 0 < cnt L c w (m + 1) 0 := cnt_pos.mpr ⟨x, hx, hm2, Nat.zero_le _⟩
          have h4 := G (m + 1) 0 h3
          have h5 := sN_ge m (c := c) L
          rw [← cnt_zero (w := w), ← cnt_zero (w := w), hs, Nat.succ_mul] at h5
          rcases Nat.lt_or_ge d (cnt L c w m 0) with hq2 | hq2
          · have h6 : m * d ≤ m * cnt L c w m 0 := Nat.mul_le_mul_left m (by omega)
            omega
          · omega
        · have h1 : cnt L (cX c x) (wX d w x) m 0 ≤ cnt L c w m 1 := cnt_le fun i hi a b => by
            by_cases e : i = x
            · rw [e, hcx] at a; omega
            · rw [hcn i e] at a
              refine ⟨a, ?_⟩
              rcases Nat.eq_zero_or_pos (w i) with z | z
              · have := hmax i hi (by omega) z
                omega
              · exact z
          have h2 := G m 1 (by omega)
          omega
  · intro G m v hq
    by_cases hv : 1 ≤ v
    · have h1 : cnt L c w m v ≤ cnt L (cX c x) (wX d w x) m (v - 1) := cnt_le fun i hi a b => by
        have e : i ≠ x := fun z => by rw [z, hw] at b; omega
        rw [hcn i e, hwn i e]
        exact ⟨a, by omega⟩
      have h2 := G m (v - 1) (by omega)
      omega
    · have hv0 : v = 0 := by omega
      subst hv0
      by_cases hm1 : c x = m + 1
      · have h1 := cnt_less (w := w) (w' := wX d w x) hx hm1
        rcases Nat.eq_zero_or_pos (cnt L (cX c x) (wX d w x) m 0) with z | z
        · cases m with
          | zero => rw [Nat.zero_mul]; omega
          | succ k =>
            have h3 : 0 < cnt L (cX c x) (wX d w x) k (d - 1) := cnt_pos.mpr ⟨x, hx, by rw [hcx]; omega, by rw [hwx]; exact Nat.le_refl _⟩
            have h4 := G k (d - 1) h3
            rw [Nat.succ_mul]
            omega
        · have h2 := G m 0 z
          omega
      · have h1 : cnt L c w m 0 ≤ cnt L (cX c x) (wX d w x) m 0 := cnt_le fun i hi a b => by
          refine ⟨?_, Nat.zero_le _⟩
          by_cases e : i = x
          · rw [e] at a ⊢; rw [hcx]; omega
          · rw [hcn i e]; exact a
        have h2 := G m 0 (by omega)
        omega
theorem max_ex : ∀ {L : Nat} {c : Nat → Nat}, 0 < sN L c → ∃ x, x < L ∧ 0 < c x ∧ ∀ i, i < L → c i ≤ c x
  | 0, _, h => absurd h (Nat.lt_irrefl 0)
  | L + 1, c, h => by
    have h' : 0 < sN L c + c L := h
    rcases Nat.eq_zero_or_pos (sN L c) with z | z
    · refine ⟨L, by omega, by omega, fun i hi => ?_⟩
      rcases Nat.lt_or_ge i L with h1 | h1
      · have : ∀ n, sN n c = 0 → ∀ i, i < n → c i = 0 := by
          intro n
          induction n with
          | zero => intro _ i hi; omega
          | succ n ih =>
            intro hz i hi
            have hz' : sN n c + c n = 0 := hz
            rcases Nat.lt_or_ge i n with h2 | h2
            · exact ih (by omega) i h2
            · have : i = n := by omega
              subst this; omega
        rw [this L z i h1]; exact Nat.zero_le _
      · have : i = L := by omega
        subst this; exact Nat.le_refl _
    · obtain ⟨x, h1, h2, h3⟩ := max_ex z
      rcases Nat.lt_or_ge (c x) (c L) with h4 | h4
      · refine ⟨L, by omega, by omega, fun i hi => ?_⟩
        rcases Nat.lt_or_ge i L with h5 | h5
        · have := h3 i h5; omega
        · have : i = L := by omega
          subst this; exact Nat.le_refl _
      · refine ⟨x, by omega, h2, fun i hi => ?_⟩
        rcases Nat.lt_or_ge i L with h5 | h5
        · exact h3 i h5
        · have : i = L := by omega
          subst this; exact h4
theorem Gd_fail {L d n : Nat} {c w : Nat → Nat} (hW : Wt L d w) (hd : 1 ≤ d) (hs : sN L c = n) (hn : 0 < n) (hno : ∀ i, i < L → 0 < c i → 0 < w i) : ¬ Gd L d c w n := by
  intro G
  obtain ⟨x, hx, hc, hmax⟩ := max_ex (c := c) (L := L) (by omega)
  obtain ⟨M, hM⟩ : ∃ M, c x = M + 1 := ⟨c x - 1, by omega⟩
  have h1 : 0 < cnt L c w M 1 := cnt_pos.mpr ⟨x, hx, by omega, hno x hx hc⟩
  have h2 := G M 1 h1
  have h3 := sN_top M (c := c) L fun i hi => by have := hmax i hi; omega
  have h4 : cN L (fun i => decide (M < c i)) ≤ cnt L c w M 1 := cN_le fun i hi hp => by
    have := of_decide_eq_true hp
    exact decide_eq_true ⟨this, hno i hi (by omega)⟩
  have h5 : cN L (fun i => decide (0 < c i)) ≤ d - 1 := by
    refine Nat.le_trans (cN_le fun i hi hp => ?_) (hW.few (d - 1) 1 (by omega) (Nat.le_refl _))
    exact decide_eq_true (hno i hi (of_decide_eq_true hp))
  have h6 : M * cN L (fun i => decide (0 < c i)) ≤ M * d := Nat.mul_le_mul_left M (by omega)
  omega
theorem Gd_end {L d : Nat} {c w : Nat → Nat} (hs : sN L c = 0) : Gd L d c w 0 := by
  intro m v h
  obtain ⟨i, hi, h1, _⟩ := cnt_pos.mp h
  have : ∀ n, sN n c = 0 → ∀ i, i < n → c i = 0 := by
    intro n
    induction n with
    | zero => intro _ i hi; omega
    | succ n ih =>
      intro hz i hi
      have hz' : sN n c + c n = 0 := hz
      rcases Nat.lt_or_ge i n with h2 | h2
      · exact ih (by omega) i h2
      · have : i = n := by omega
        subst this; omega
  rw [this L hs i hi] at h1
  omega
theorem Gd_start {L d n x : Nat} {c : Nat → Nat} (hx : x < L) (hc : 0 < c x) (hmax : ∀ i, i < L → c i ≤ c x) (hs : sN L c = n) : Gd L d c (fun _ => 0) n ↔ (c x - 1) * d + cN L (fun i => decide (c i = c x)) ≤ n := by
  have e : cnt L c (fun _ => 0) (c x - 1) 0 = cN L fun i => decide (c i = c x) := by
    rw [cnt_zero]
    refine cN_congr fun i hi => ?_
    have := hmax i hi
    by_cases h : c i = c x
    · rw [decide_eq_true h, decide_eq_true (by omega)]
    · rw [decide_eq_false h, decide_eq_false (by omega)]
  have hp : 0 < cN L fun i => decide (c i = c x) := cN_pos.mpr ⟨x, hx, decide_eq_true rfl⟩
  constructor
  · intro G
    have := G (c x - 1) 0 (by rw [e]; exact hp)
    rw [e] at this
    omega
  · intro h m v hq
    obtain ⟨i, hi, h1, h2⟩ := cnt_pos.mp hq
    have hv : v = 0 := by omega
    subst hv
    have hm := hmax i hi
    by_cases hm1 : m = c x - 1
    · subst hm1
      rw [e]; omega
    · have h5 := sN_ge m (c := c) L
      rw [← cnt_zero (w := fun _ => 0), ← cnt_zero (w := fun _ => 0), hs, Nat.succ_mul] at h5
      rcases Nat.lt_or_ge d (cnt L c (fun _ => 0) m 0) with hq2 | hq2
      · have h6 : m * d ≤ m * cnt L c (fun _ => 0) m 0 := Nat.mul_le_mul_left m (by omega)
        omega
      · have h6 : (m + 1) * d ≤ (c x - 1) * d := Nat.mul_le_mul_right d (by omega)
        rw [Nat.succ_mul] at h6
        omega
end Vs

namespace Vs
open PySem L2
/-- a loop whose body is a function on what is kept -/
theorem for_fold {α : Type} {g : D → SD → Option SD} {body : SD → R Fl} (E : α → SD) (f : α → D → α) (Pr : α → Prop) : ∀ (ds : List D) (a : α), Pr a → (∀ a d, d ∈ ds → Pr a → Pr (f a d) ∧ ∃ e1, g d (E a) = some e1 ∧ body e1 = .ok .nx (E (f a d))) → forL g body ds (E a) = .ok .nx (E (ds.foldl f a)) ∧ Pr (ds.foldl f a)
  | [], a, h, _ => ⟨rfl, h⟩
  | d :: ds, a, h, step => by
    obtain ⟨h1, e1, hg, hb⟩ := step a d List.mem_cons_self h
    obtain ⟨i1, i2⟩ := for_fold E f Pr ds (f a d) h1 fun a d m => step a d (List.mem_cons_of_mem _ m)
    refine ⟨?_, i2⟩
    show ((R.opt (g d (E a)) (E a)).bind fun e1 _ => (body e1).bind fun fl e2 => match fl with
        | .nx => forL g body ds e2
        | .ct => forL g body ds e2
        | .bk => .ok .nx e2
        | .rt v => .ok (.rt v) e2) = _
    rw [hg]
    simp only [R.opt_some, R.bind_ok]
    rw [hb]
    simp only [R.bind_ok]
    exact i1
def rowI (n : Nat) : List Int := (List.range (n + 1)).map fun k => (ch n k : Int)
theorem rowI_len (n : Nat) : (rowI n).length = n + 1 := by unfold rowI; simp
theorem rowI_at {n k : Nat} (h : k ≤ n) : (rowI n)[k]? = some (ch n k : Int) := by
  unfold rowI
  rw [List.getElem?_map, List.getElem?_range (by omega)]; rfl
/-- the next row from the one ahead -/
theorem rowI_next (n : Nat) : rowI (n + 1) = [1] ++ (((rowI n).zip ((rowI n).drop 1)).map fun p => p.1 + p.2) ++ [1] := by
  apply List.ext_getElem?
  intro i
  have hl : (((rowI n).zip ((rowI n).drop 1)).map fun p => p.1 + p.2).length = n := by
    rw [List.length_map, List.length_zip, List.length_drop, rowI_len]; omega
  by_cases h0 : i = 0
  · subst h0
    rw [rowI_at (by omega), ch_zero]; rfl
  · obtain ⟨j, rfl⟩ : ∃ j, i = j + 1 := ⟨i - 1, by omega⟩
    by_cases h1 : j < n
    · rw [rowI_at (by omega)]
      show _ = ((((rowI n).zip ((rowI n).drop 1)).map fun p => p.1 + p.2) ++ [1])[j]?
      rw [List.getElem?_append_left (by rw [hl]; exact h1), List.getElem?_map]
      have z1 : (rowI n)[j]? = some (ch n j : Int) := rowI_at (by omega)
      have z2 : ((rowI n).drop 1)[j]? = some (ch n (j + 1) : Int) := by rw [List.getElem?_drop, Nat.add_comm]; exact rowI_at (by omega)
      have z3 : ((rowI n).zip ((rowI n).drop 1))[j]? = some ((ch n j : Int), (ch n (j + 1) : Int)) := List.getElem?_zip_eq_some.mpr ⟨z1, z2⟩
      rw [z3]
      show some ((ch n j + ch n (j + 1) : Nat) : Int) = some ((ch n j : Int) + (ch n (j + 1) : Int))
      congr 1
    · by_cases h2 : j = n
      · subst h2
        rw [rowI_at (by omega), ch_self]
        show _ = ((((rowI j).zip ((rowI j).drop 1)).map fun p => p.1 + p.2) ++ [1])[j]?
        rw [List.getElem?_append_right (by rw [hl]; exact Nat.le_refl _), hl]
        simp
      · have e1 : (rowI (n + 1))[j + 1]? = none := List.getElem?_eq_none (by rw [rowI_len]; omega)
        rw [e1]
        symm
        apply List.getElem?_eq_none
        simp only [List.length_append, List.length_cons, List.length_nil, hl]
        omega
end Vs

namespace Vs
open PySem L2
theorem size_le' {n : Nat} (h : n ≤ 16777216) : n ≤ sizeLine := h
theorem size_lt' {n : Nat} (h : n < 16777216) : n < sizeLine := h
theorem cut_take {xs : List D} {i : Nat} (h : i ≤ xs.length) : cutD xs none (some (i : Int)) = xs.take i := by
  unfold cutD
  rw [sIx_pos (by omega)]
  have h0 : HT.sIx xs.length 0 none = 0 := rfl
  rw [h0, show ((i : Int)).toNat = i by omega, Nat.min_eq_left h]
  simp
theorem cut_drop {xs : List D} {i : Nat} : cutD xs (some (i : Int)) none = xs.drop i := by
  unfold cutD
  have h2 : HT.sIx xs.length xs.length none = xs.length := rfl
  rw [sIx_pos (by omega), h2, show ((i : Int)).toNat = i by omega]
  rcases Nat.le_total i xs.length with h | h
  · rw [Nat.min_eq_left h, List.take_of_length_le (by rw [List.length_drop]; omega)]
  · rw [Nat.min_eq_right h, List.drop_of_length_le (Nat.le_refl _), List.drop_of_length_le h, List.take_nil]
theorem set_cut {α : Type} : ∀ {xs : List α} {i : Nat} {v : α}, i < xs.length → xs.take i ++ [v] ++ xs.drop (i + 1) = xs.set i v
  | x :: xs, 0, v, _ => rfl
  | x :: xs, i + 1, v, h => by
    have := set_cut (xs := xs) (i := i) (v := v) (by simpa using h)
    simp at this ⊢
    exact this
/-! ### a bag as it is made -/
def bagX (ps : Tab) : D := .tx (ps.map pairD)
theorem m_tx {xs : List D} : isImm (.tx xs) = isImms xs := rfl
theorem n_tx {xs : List D} : noBor (.tx xs) = noBors xs := rfl
theorem r_tx {xs : List D} : ro (.tx xs) = .tx (ros xs) := rfl
theorem m_bagX {ps : Tab} : isImm (bagX ps) = true := m_pairs
theorem r_bagX {ps : Tab} : ro (bagX ps) = bagX ps := ro_imm m_bagX
theorem n_bagX {ps : Tab} : noBor (bagX ps) = true := noBor_imm m_bagX
def loK (r : R D) : R D := r.bind fun d e => .ok (lo d) e
theorem k_lo {a : SD → R D} {env : SD} : eLo a env = loK (a env) := rfl
theorem k_lo1 {d : D} {e : SD} : loK (.ok d e) = .ok (lo d) e := rfl
theorem lo_bag {ps : Tab} : lo (bagX ps) = bagD ps := rfl
theorem lo_tup {xs : List D} : lo (.tup xs) = .tup xs := rfl
theorem g_tupX {m : Md} {xs : List D} : gTupleX (.lst m xs) = if isImms xs = true then some (.tx xs) else none := rfl
theorem pairsOf_bag : ∀ ps : Tab, pairsOf (ps.map pairD) = some (tabD ps)
  | [] => rfl
  | p :: ps => by
    show (if isImm (.int p.2) = true then (pairsOf (ps.map pairD)).map ((Sum.inr p.1, D.int p.2) :: ·) else none) = _
    rw [pairsOf_bag ps]; rfl
theorem dput_new {kvs : List (Key × D)} {k : Key} {d : D} (h : k ∉ kvs.map (·.1)) : dput kvs k d = kvs ++ [(k, d)] := by
  unfold dput
  rw [if_neg]
  rw [List.any_eq_true]
  rintro ⟨kv, m, e⟩
  exact h (List.mem_map.mpr ⟨kv, m, of_decide_eq_true e⟩)
theorem dmerge_nd : ∀ (more kvs : List (Key × D)), ((kvs ++ more).map (·.1)).Nodup → dmerge kvs more = kvs ++ more
  | [], kvs, _ => by show kvs = _; rw [List.append_nil]
  | p :: more, kvs, h => by
    show dmerge (dput kvs p.1 p.2) more = _
    have h1 : p.1 ∉ kvs.map (·.1) := by
      rw [List.map_append, List.map_cons] at h
      intro m
      exact (List.nodup_append.mp h).2.2 p.1 m p.1 List.mem_cons_self rfl
    rw [dput_new h1, dmerge_nd more (kvs ++ [(p.1, p.2)]) (by rw [List.append_assoc]; exact h), List.append_assoc]; rfl
/-- a bag as a table -/
theorem dict_bag {ps : Tab} (nd : (keysP ps).Nodup) : gDictX (bagX ps) = some (.dic .own (tabD ps)) := by
  show (pairsOf (ps.map pairD)).map (fun kvs => D.dic .own (dmerge [] kvs)) = _
  rw [pairsOf_bag]
  show some (D.dic .own (dmerge [] (tabD ps))) = _
  rw [dmerge_nd]
  · rfl
  · rw [List.nil_append, keys_tab]
    exact (List.pairwise_map.mpr ((List.nodup_iff_pairwise_ne.mp nd).imp fun h e => h (by cases e; rfl)))
theorem k_toImmN {i : Int} : toImm (.int i) = some (.int i) := rfl
theorem k_toImmS {i : Str} : toImm (.str i) = some (.str i) := rfl
/-! ### tables walked, frozen, changed -/
def fzDK (o : Option (Option D)) (i : Nat) (env : SD) : R Fl := match o with
  | some (some (.dic .own xs)) => .ok .nx (env.set i (some (.dic .imm xs)))
  | _ => .bad
theorem k_fzD {i : Nat} {env : SD} : sFzD i env = fzDK env[i]? i env := rfl
theorem k_fzD1 {i : Nat} {env : SD} {xs : List (Key × D)} : fzDK (some (some (.dic .own xs))) i env = .ok .nx (env.set i (some (.dic .imm xs))) := rfl
def itItK (r : R D) : R (List D) := r.bind fun d e => match d with
  | .dic .imm kvs => .ok (kvs.map itemD) e
  | _ => .bad
theorem k_items {ev : SD → R D} {env : SD} : itItems ev env = itItK (ev env) := rfl
theorem k_items1 {kvs : List (Key × D)} {e : SD} : itItK (.ok (.dic .imm kvs) e) = .ok (kvs.map itemD) e := rfl
def itKeK (r : R D) : R (List D) := r.bind fun d e => match d with
  | .dic .imm kvs => .ok (kvs.map fun kv => keyD kv.1) e
  | _ => .bad
theorem k_keys {ev : SD → R D} {env : SD} : itKeys ev env = itKeK (ev env) := rfl
theorem k_keys1 {kvs : List (Key × D)} {e : SD} : itKeK (.ok (.dic .imm kvs) e) = .ok (kvs.map fun kv => keyD kv.1) e := rfl
theorem items_tab {t : Tab} : (tabD t).map itemD = t.map pairD := by
  unfold tabD
  rw [List.map_map]; rfl
def dAug2 (s : Nat) (g : D → D → Option D) (evv : SD → R D) (dk : D) (e : SD) (o : Option (Option D)) : R Fl := match o, keyOf dk with
  | some (some (.dic .own kvs)), some k => (match dval kvs k with
    | some x => if kvs.length < sizeLine then (evv e).bind fun y _ => (R.opt (g x y) e).bind fun z e => if isImm z = true then .ok .nx (e.set s (some (.dic .own (dput kvs k z)))) else .bad else .bad
    | none => .bad)
  | _, _ => .bad
def dAug1 (s : Nat) (g : D → D → Option D) (evv : SD → R D) (r : R D) : R Fl := r.bind fun dk e => dAug2 s g evv dk e e[s]?
def dAug0 (s : Nat) (g : D → D → Option D) (evk evv : SD → R D) (r : R D) : R Fl := r.bind fun _ env => dAug1 s g evv (evk env)
theorem k_dAug {s : Nat} {g : D → D → Option D} {evk evv : SD → R D} {env : SD} : sDAug s g evk evv env = dAug0 s g evk evv (eVar s env) := rfl
theorem k_dAug0 {s : Nat} {g : D → D → Option D} {evk evv : SD → R D} {d : D} {e : SD} : dAug0 s g evk evv (.ok d e) = dAug1 s g evv (evk e) := rfl
theorem k_dAug1 {s : Nat} {g : D → D → Option D} {evv : SD → R D} {dk : D} {e : SD} : dAug1 s g evv (.ok dk e) = dAug2 s g evv dk e e[s]? := rfl
theorem k_dAug2 {s : Nat} {g : D → D → Option D} {evv : SD → R D} {w : Str} {e e' : SD} {t : Tab} {x z : Int} {y : D} (nd : (keysP t).Nodup) (hl : t.length < 100000) (hx : valP t w = some x) (hy : evv e = .ok y e') (hz : g (.int x) y = some (.int z)) : dAug2 s g evv (.str w) e (some (some (.dic .own (tabD t)))) = .ok .nx (e.set s (some (.dic .own (tabD (putT t w z))))) := by
  have hk : keyOf (.str w) = some (Sum.inr w) := rfl
  have hd : dval (tabD t) (Sum.inr w) = some (.int x) := by rw [dval_tab, hx]; rfl
  have hlen : (tabD t).length < sizeLine := size_lt (by unfold tabD; rw [List.length_map]; exact hl)
  unfold dAug2
  simp only [hk, hd, if_pos hlen, hy, R.bind_ok, hz, R.opt_some, m_int, if_true]
  rw [dput_tab nd]
/-! ### a table walked under a lock -/
def scO : Option D → Bool
  | some d => scal d
  | none => true
theorem scBut_of {s : Nat} {env : SD} (h : ∀ i o, i ≠ s → env[i]? = some o → scO o = true) : scBut s env = true := by
  unfold scBut
  rw [List.all_eq_true]
  intro i hi
  by_cases e : i = s
  · simp [e]
  · have hl := List.mem_range.mp hi
    have := h i env[i] e (List.getElem?_eq_getElem hl)
    rw [List.getElem?_eq_getElem hl]
    cases ho : env[i] with
    | none => simp
    | some d =>
      rw [ho] at this
      have this' : scal d = true := this
      simp [e, this']
theorem ens_lock {s : Nat} {ev : SD → R Fl} {env : SD} {Q : Fl → SD → Prop} {m : Md} {kvs : List (Key × D)} (he : env[s]? = some (some (.dic m kvs))) (hm : m ≠ .imm) (hk : scals kvs = true) (hs : scBut s env = true)
    (h : Ens (ev (env.set s (some (.dic .imm kvs)))) fun fl e => (∀ d, fl = .rt d → scal d = true) ∧ scBut s e = true ∧ Q fl (e.set s (some (.dic m kvs)))) : Ens (sLock s ev env) Q := by
  unfold sLock
  rw [he]
  simp only
  rw [if_pos ⟨hm, hk, hs⟩]
  cases hr : ev (env.set s (some (.dic .imm kvs))) with
  | bad => rw [hr] at h; exact h.elim
  | exc c e => rw [hr] at h; exact h.elim
  | ok fl e =>
    rw [hr] at h
    obtain ⟨h1, h2, h3⟩ := h
    cases fl with
    | rt d =>
      show Ens (if scal d = true ∧ scBut s e = true then R.ok (Fl.rt d) (e.set s (some (.dic m kvs))) else R.bad) Q
      rw [if_pos ⟨h1 d rfl, h2⟩]; exact h3
    | nx =>
      show Ens (if scBut s e = true then R.ok Fl.nx (e.set s (some (.dic m kvs))) else R.bad) Q
      rw [if_pos h2]; exact h3
    | bk =>
      show Ens (if scBut s e = true then R.ok Fl.bk (e.set s (some (.dic m kvs))) else R.bad) Q
      rw [if_pos h2]; exact h3
    | ct =>
      show Ens (if scBut s e = true then R.ok Fl.ct (e.set s (some (.dic m kvs))) else R.bad) Q
      rw [if_pos h2]; exact h3
theorem scals_tab (t : Tab) : scals (tabD t) = true := by
  unfold scals tabD
  rw [List.all_eq_true]
  intro kv hm
  obtain ⟨p, _, rfl⟩ := List.mem_map.mp hm
  rfl
theorem sumV_tab {m : Md} {t : Tab} : gSumV (.dic m (tabD t)) = some (.int (sumP t)) := by
  have e : (tabD t).map (·.2) = (t.map (·.2)).map D.int := by
    unfold tabD
    rw [List.map_map, List.map_map]; rfl
  show (intsOf ((tabD t).map (·.2))).map (fun ns => D.int ns.sum) = _
  rw [e, intsOf_ints]; rfl
/-! ### a table by its names and what is left -/
def tabOf (ws : List Str) (c : List Nat) : Tab := ws.zip (c.map fun m : Nat => (m : Int))
theorem tabOf_keys {ws : List Str} {c : List Nat} (h : ws.length = c.length) : keysP (tabOf ws c) = ws := by
  unfold keysP tabOf
  rw [List.map_fst_zip (by rw [List.length_map]; omega)]
theorem tabOf_len {ws : List Str} {c : List Nat} (h : ws.length = c.length) : (tabOf ws c).length = ws.length := by
  unfold tabOf
  rw [List.length_zip, List.length_map]; omega
/-- the place of a name; behind all where it is none of them -/
def idxS : List Str → Str → Nat
  | [], _ => 0
  | v :: ws, w => if v = w then 0 else idxS ws w + 1
theorem idxS_self {v : Str} {ws : List Str} : idxS (v :: ws) v = 0 := if_pos rfl
theorem idx_ne {v w : Str} {ws : List Str} (h : ¬ v = w) : idxS (v :: ws) w = idxS ws w + 1 := if_neg h
theorem idxS_lt : ∀ {ws : List Str} {w : Str}, w ∈ ws ↔ idxS ws w < ws.length
  | [], w => by simp [idxS]
  | v :: ws, w => by
    by_cases h : v = w
    · subst h; rw [idxS_self]; simp
    · have hne : ¬ w = v := fun z => h z.symm
      rw [idx_ne h]
      simp only [List.mem_cons, hne, false_or, List.length_cons, idxS_lt (ws := ws) (w := w)]
      omega
theorem idxS_nm : ∀ {ws : List Str} {w : Str}, w ∈ ws → ws.getD (idxS ws w) default = w
  | v :: ws, w, hm => by
    by_cases h : v = w
    · subst h; rw [idxS_self]; rfl
    · have : w ∈ ws := by
        rcases List.mem_cons.mp hm with rfl | hm
        · exact (h rfl).elim
        · exact hm
      rw [idx_ne h]
      exact idxS_nm this
theorem idxS_of : ∀ {ws : List Str}, ws.Nodup → ∀ {i : Nat}, i < ws.length → idxS ws (ws.getD i default) = i
  | v :: ws, nd, 0, _ => idxS_self
  | v :: ws, nd, i + 1, h => by
    have hi : i < ws.length := by simpa using h
    have hm : ws.getD i default ∈ ws := by
      rw [List.getD_eq_getElem?_getD, List.getElem?_eq_getElem hi]
      exact List.getElem_mem hi
    have hne : ¬ v = ws.getD i default := fun e => (List.nodup_cons.mp nd).1 (by rw [e]; exact hm)
    show idxS (v :: ws) (ws.getD i default) = i + 1
    rw [idx_ne hne, idxS_of (List.nodup_cons.mp nd).2 hi]
theorem tabOf_val : ∀ {ws : List Str} {c : List Nat}, ws.length = c.length → ∀ w, valP (tabOf ws c) w = if w ∈ ws then some ((c.getD (idxS ws w) 0 : Nat) : Int) else none
  | [], [], _, w => by simp [tabOf, valP]
  | v :: ws, m :: c, h, w => by
    have ih := tabOf_val (ws := ws) (c := c) (by simpa using h) w
    have e : valP (tabOf (v :: ws) (m :: c)) w = if v = w then some (m : Int) else valP (tabOf ws c) w := rfl
    rw [e, ih]
    by_cases hv : v = w
    · subst hv
      rw [if_pos rfl, if_pos List.mem_cons_self, idxS_self]; rfl
    · have hne : ¬ w = v := fun z => hv z.symm
      rw [if_neg hv, idx_ne hv]
      simp only [List.mem_cons, hne, false_or]
      rfl
theorem tabOf_put : ∀ {ws : List Str} {c : List Nat}, ws.length = c.length → ws.Nodup → ∀ {w : Str} {v : Nat}, w ∈ ws → putT (tabOf ws c) w (v : Int) = tabOf ws (c.set (idxS ws w) v)
  | [], [], _, _, w, v, hm => nomatch hm
  | u :: ws, m :: c, h, nd, w, v, hm => by
    have e : putT (tabOf (u :: ws) (m :: c)) w (v : Int) = if u = w then (u, (v : Int)) :: tabOf ws c else (u, (m : Int)) :: putT (tabOf ws c) w (v : Int) := rfl
    rw [e]
    by_cases hu : u = w
    · subst hu
      rw [if_pos rfl, idxS_self]; rfl
    · have hm' : w ∈ ws := by
        rcases List.mem_cons.mp hm with rfl | hm
        · exact (hu rfl).elim
        · exact hm
      rw [if_neg hu, idx_ne hu, tabOf_put (by simpa using h) (List.nodup_cons.mp nd).2 hm']; rfl
theorem tabOf_sum : ∀ {ws : List Str} {c : List Nat}, ws.length = c.length → sumP (tabOf ws c) = ((c.sum : Nat) : Int)
  | [], [], _ => rfl
  | v :: ws, m :: c, h => by
    have ih := tabOf_sum (ws := ws) (c := c) (by simpa using h)
    have e : sumP (tabOf (v :: ws) (m :: c)) = (m : Int) + sumP (tabOf ws c) := rfl
    rw [e, ih, List.sum_cons]; omega
theorem tabOf_get {ws : List Str} {c : List Nat} (h : ws.length = c.length) {i : Nat} (hi : i < ws.length) : (tabOf ws c)[i]? = some (ws.getD i default, ((c.getD i 0 : Nat) : Int)) := by
  unfold tabOf
  rw [List.getElem?_zip_eq_some]
  refine ⟨by rw [List.getD_eq_getElem?_getD, List.getElem?_eq_getElem hi]; rfl, ?_⟩
  have hc : c.getD i 0 = c[i]'(by omega) := by rw [List.getD_eq_getElem?_getD, List.getElem?_eq_getElem (by omega)]; rfl
  rw [List.getElem?_map, List.getElem?_eq_getElem (by omega)]
  show some ((c[i]'(by omega) : Nat) : Int) = some ((c.getD i 0 : Nat) : Int)
  rw [hc]
theorem tabOf_self : ∀ {ps : Tab}, (∀ p ∈ ps, 1 ≤ p.2) → tabOf (keysP ps) (ps.map fun p => p.2.toNat) = ps
  | [], _ => rfl
  | p :: ps, h => by
    have ih := tabOf_self (ps := ps) fun q m => h q (List.mem_cons_of_mem _ m)
    have h0 := h p List.mem_cons_self
    show (p.1, ((p.2.toNat : Nat) : Int)) :: tabOf (keysP ps) (ps.map fun p => p.2.toNat) = _
    rw [ih]
    congr 1
    exact Prod.ext rfl (by show ((p.2.toNat : Nat) : Int) = p.2; omega)
/-! ### rows and what is left, as data -/
def nmOf (ws : List Str) (i : Nat) : Str := ws.getD i default
def rowN (ws : List Str) (row : List Nat) : D := .tup (row.map fun i => .str (nmOf ws i))
def leftD (c : List Nat) : D := .tup (c.map fun m : Nat => .int (m : Int))
def encX (ws : List Str) (x : List Nat × List Nat) : D := .tup [rowN ws x.1, leftD x.2]
theorem m_rowN {ws : List Str} {row : List Nat} : isImm (rowN ws row) = true := m_strs (f := fun i => nmOf ws i)
theorem m_leftD {c : List Nat} : isImm (leftD c) = true := m_ints (f := fun m : Nat => (m : Int))
theorem m_encX {ws : List Str} {x : List Nat × List Nat} : isImm (encX ws x) = true := by
  show isImms [_, _] = true
  rw [m_cons, m_cons, m_rowN, m_leftD]; rfl
theorem m_encXs {ws : List Str} : ∀ {f : List (List Nat × List Nat)}, isImms (f.map (encX ws)) = true
  | [] => rfl
  | x :: f => by rw [List.map_cons, m_cons, m_encX, m_encXs]; rfl
theorem m_rowNs {ws : List Str} : ∀ {f : List (List Nat)}, isImms (f.map (rowN ws)) = true
  | [] => rfl
  | x :: f => by rw [List.map_cons, m_cons, m_rowN, m_rowNs]; rfl
theorem left_dec {c : List Nat} {i : Nat} (h : i < c.length) (hp : 0 < c.getD i 0) : (c.map fun m : Nat => D.int (m : Int)).take i ++ [D.int ((c.getD i 0 : Int) - 1)] ++ (c.map fun m : Nat => D.int (m : Int)).drop (i + 1) = (dec c i).map fun m : Nat => D.int (m : Int) := by
  rw [set_cut (by rw [List.length_map]; exact h)]
  unfold dec
  rw [List.map_set]
  congr 2
  omega
def csOf (ps : Tab) : List Nat := ps.map fun p => p.2.toNat
theorem csOf_len (ps : Tab) : (csOf ps).length = ps.length := by unfold csOf; simp
theorem csOf_int {ps : Tab} (hpos : ∀ p ∈ ps, 1 ≤ p.2) : (ps.map fun p : Str × Int => D.int p.2) = (csOf ps).map fun m : Nat => D.int (m : Int) := by
  unfold csOf
  rw [List.map_map]
  refine List.map_congr_left fun p m => ?_
  have := hpos p m
  show _ = D.int ((p.2.toNat : Nat) : Int)
  congr 1
  omega
theorem csOf_sum : ∀ {ps : Tab}, (∀ p ∈ ps, 1 ≤ p.2) → (((csOf ps).sum : Nat) : Int) = sumP ps
  | [], _ => rfl
  | q :: qs, h => by
    have := csOf_sum (ps := qs) fun q m => h q (List.mem_cons_of_mem _ m)
    have h0 := h q List.mem_cons_self
    have e2 : sumP (q :: qs) = q.2 + sumP qs := rfl
    have e1 : (csOf (q :: qs)).sum = q.2.toNat + (csOf qs).sum := rfl
    rw [e1, e2]; omega
theorem csOf_pos {ps : Tab} (h : ∀ p ∈ ps, 1 ≤ p.2) : ∀ m ∈ csOf ps, 0 < m := by
  intro m hm
  obtain ⟨p, hp, rfl⟩ := List.mem_map.mp hm
  have := h p hp
  omega
theorem bag_name {ps : Tab} {i : Nat} (h : i < ps.length) : ∃ p : Str × Int, ps[i]? = some p ∧ p.1 = nmOf (keysP ps) i := by
  refine ⟨ps[i], List.getElem?_eq_getElem h, ?_⟩
  unfold nmOf keysP
  rw [List.getD_eq_getElem?_getD, List.getElem?_map, List.getElem?_eq_getElem h]; rfl
/-! ### how many are laid -/
def stepTo (x : List Nat × List Nat) (n : Nat) : List (List Nat × List Nat) := (List.range n).flatMap fun i => if 0 < x.2.getD i 0 then [(x.1 ++ [i], dec x.2 i)] else []
theorem stepTo_succ (x : List Nat × List Nat) (n : Nat) : stepTo x (n + 1) = stepTo x n ++ if 0 < x.2.getD n 0 then [(x.1 ++ [n], dec x.2 n)] else [] := by
  unfold stepTo
  rw [List.range_succ, List.flatMap_append]
  simp
theorem stepTo_len (x : List Nat × List Nat) : ∀ n : Nat, (stepTo x n).length ≤ n
  | 0 => Nat.le_refl _
  | n + 1 => by
    rw [stepTo_succ, List.length_append]
    have := stepTo_len x n
    split <;> simp <;> omega
theorem flat_len {α β : Type} {g : α → List β} {L : Nat} : ∀ {f : List α}, (∀ x ∈ f, (g x).length ≤ L) → (f.flatMap g).length ≤ f.length * L
  | [], _ => Nat.zero_le _
  | x :: f, h => by
    rw [List.flatMap_cons, List.length_append, List.length_cons, Nat.succ_mul]
    have h1 := h x List.mem_cons_self
    have h2 := flat_len (f := f) fun y m => h y (List.mem_cons_of_mem _ m)
    omega
theorem layR_left {c : List Nat} (t : Nat) : ∀ x ∈ layR t [([], c)], x.2.length = c.length ∧ ∀ i ∈ x.1, i < c.length := by
  refine layR_inv (fun x => x.2.length = c.length ∧ ∀ i ∈ x.1, i < c.length) (fun x y hx hy => ?_) t _ (fun x hx => ?_)
  · obtain ⟨i, hi, _, rfl⟩ := stepR_mem.mp hy
    refine ⟨by show (dec x.2 i).length = _; rw [dec_len]; exact hx.1, fun j hj => ?_⟩
    rcases List.mem_append.mp hj with hj | hj
    · exact hx.2 j hj
    · rw [List.mem_singleton.mp hj, ← hx.1]; exact hi
  · rw [List.mem_singleton.mp hx]
    exact ⟨rfl, fun _ h => nomatch h⟩
theorem layR_row {c : List Nat} : ∀ (t : Nat), ∀ x ∈ layR t [([], c)], x.1.length = t
  | 0, x, h => by rw [List.mem_singleton.mp h]; rfl
  | t + 1, x, h => by
    obtain ⟨y, hy, hxy⟩ := List.mem_flatMap.mp h
    obtain ⟨i, hi, _, rfl⟩ := stepR_mem.mp hxy
    show (y.1 ++ [i]).length = _
    rw [List.length_append, layR_row t y hy]; rfl
theorem layR_len {c : List Nat} : ∀ t : Nat, (layR t [([], c)]).length ≤ c.length ^ t
  | 0 => Nat.le_refl _
  | t + 1 => by
    show ((layR t [([], c)]).flatMap stepR).length ≤ _
    have h := flat_len (f := layR t [([], c)]) (g := stepR) (L := c.length) fun x hx => by
      have := stepTo_len x x.2.length
      rw [(layR_left t x hx).1] at this
      show (stepTo x x.2.length).length ≤ _
      rw [(layR_left t x hx).1]
      exact this
    rw [Nat.pow_succ]
    exact Nat.le_trans h (Nat.mul_le_mul_right _ (layR_len t))
/-! ### more of rows and numbers -/
theorem nmOf_inj {ws : List Str} (nd : ws.Nodup) {i j : Nat} (hi : i < ws.length) (hj : j < ws.length) : nmOf ws i = nmOf ws j ↔ i = j := by
  constructor
  · intro h
    have h1 := idxS_of nd hi
    have h2 := idxS_of nd hj
    unfold nmOf at h
    rw [← h1, ← h2, h]
  · intro h; subst h; rfl
theorem nm_mem {ws : List Str} {i : Nat} (h : i < ws.length) : nmOf ws i ∈ ws := by
  unfold nmOf
  rw [List.getD_eq_getElem?_getD, List.getElem?_eq_getElem h]
  exact List.getElem_mem h
theorem cut_last {xs : List D} : cutD xs (some (-1)) none = xs.drop (xs.length - 1) := by
  unfold cutD
  have h2 : HT.sIx xs.length xs.length none = xs.length := rfl
  have h1 : HT.sIx xs.length 0 (some (-1)) = xs.length - 1 := by
    show (if (-1 : Int) < 0 then ((-1 : Int) + (xs.length : Int)).toNat else min (-1 : Int).toNat xs.length) = _
    rw [if_pos (by decide)]; omega
  rw [h1, h2, List.take_of_length_le (by rw [List.length_drop]; omega)]
theorem rowN_strs (ws : List Str) (r : List Nat) : rowN ws r = .tup ((r.map (nmOf ws)).map D.str) := by
  unfold rowN; rw [List.map_map]; rfl
def natsD (cs : List Nat) : List D := cs.map fun m : Nat => D.int (m : Int)
theorem natsD_int (cs : List Nat) : natsD cs = (cs.map fun m : Nat => (m : Int)).map D.int := by unfold natsD; rw [List.map_map]; rfl
theorem sum_int : ∀ cs : List Nat, (cs.map fun m : Nat => (m : Int)).sum = (cs.sum : Nat)
  | [] => rfl
  | m :: cs => by rw [List.map_cons, List.sum_cons, List.sum_cons, sum_int cs]; omega
theorem take_sum_le {c : List Nat} (k : Nat) : (c.take k).sum ≤ c.sum := by
  have h := congrArg List.sum (List.take_append_drop k c)
  rw [List.sum_append] at h
  omega
theorem set_self {c : List Nat} {i : Nat} : c.set i (c.getD i 0) = c := by
  apply List.ext_getElem?
  intro j
  rw [List.getElem?_set]
  by_cases h : i = j
  · subst h
    rw [if_pos rfl]
    by_cases hl : i < c.length
    · rw [if_pos hl, List.getD_eq_getElem?_getD, List.getElem?_eq_getElem hl]; rfl
    · rw [if_neg hl, List.getElem?_eq_none (by omega)]
  · rw [if_neg h]
theorem csOf_take (ps : Tab) (k : Nat) : csOf (ps.take k) = (csOf ps).take k := by unfold csOf; rw [List.map_take]
end Vs

namespace Lw
open PySem PySem.Spec PyProof.Rows L2 Vs
def top (i : Nat) : Stmt := PySem.Challenge.pw_likesapart_k20_marks_of_rows.main.body.getD i (.Pass ⟨0, 0, 0, 0⟩)
structure Gs (K : PySem.W.Frag) (mg : Str → Option Value) : Prop where
  z : True
abbrev s_mark_of : Stmt := top 1
abbrev nm_mark_of : List Str := ["row", "turn"]
theorem sc_mark_of : FnScope nm_mark_of ["row"] (defScope s_mark_of) := ⟨rfl, rfl, rfl, by decide +kernel, rfl, by decide +kernel, by decide +kernel⟩
noncomputable def b_mark_of : SD → R Fl :=
    (sRet (eUn gMinD (eComp [1] (itR1 (eBin gMax2 (eC (.int 1)) (eUn gLen (eVar 0)))) (gtName 1) cYes (eUn toImm (eBin gAdd (eSl (eVar 0) (oSome (eVar 1)) oNone) (eSl (eVar 0) oNone (oSome (eVar 1))))))))
@[irreducible] noncomputable def fn_mark_of : List D → R D := runFn 2 [] b_mark_of
theorem fe_mark_of : fn_mark_of = runFn 2 [] b_mark_of := by unfold fn_mark_of; rfl
theorem ok_mark_of {P : Program} {w : World} {K : PySem.W.Frag} {mg : Str → Option Value} {base : Heap} (B : Bt mg) (T : Gs K mg) (F : Df K mg "mark_of" s_mark_of)  : Ok P w K mg base "mark_of" 1 ["row"] (spF K 1 [] fn_mark_of) := by
  rw [fe_mark_of]
  exact fn_okD (k := 0) [] F sc_mark_of (by decide) (fun _ _ _ _ _ _ us hl => match us, hl with | [_], _ => rfl) fun cdv A outer s H E H0 F0 σ0 hr =>
    (jb_one (js_ret (j_b1 (cr_minD rfl (by exact hr.units)) cs_minD B.min (by decide +kernel) (j_lc [("turn", 1)] rfl sc_mark_of.nd (ji_range1 (j_b2 (call_max2 rfl) cs_max2 B.max (by decide +kernel) j_int (j_b1 call_len cs_len B.len PySem.boot_len (j_var 0))) B.range) (blkOk_by (N := nm_mark_of) (sc := defScope s_mark_of) (by decide +kernel)) (fun _ _ _ _ _ => (jg_name (i := 1) sc_mark_of.nd)) (fun _ _ _ _ _ => jts_nil) (fun _ _ _ _ _ => (J.frz (j_bop or_add os_add (j_sl (j_var 0) (jo_some (j_var 1)) jo_none) (j_sl (j_var 0) jo_none (jo_some (j_var 1)))))) (by show ∀ i ∈ [1], i ∈ [1]; decide) (by show ∀ i ∈ [1], ([] : List Nat).contains i = false; decide)))))
abbrev s_law_number : Stmt := top 3
abbrev nm_law_number : List Str := ["script", "k", "cells", "size", "cell", "turn", "rest", "step", "seed"]
theorem sc_law_number : FnScope nm_law_number ["script", "k"] (defScope s_law_number) := ⟨rfl, rfl, rfl, by decide +kernel, rfl, by decide +kernel, by decide +kernel⟩
noncomputable def b_law_number : SD → R Fl :=
    (sSeq (sSet 2 (eBin gAdd (eUn gList (eVar 0)) (eArgs gLst (aCons (eC (.int 0)) aNil))))
    (sSeq (sSet 3 (eBin gMax2 (eC (.int 1)) (eUn gLen (eVar 0))))
    (sSeq (sSet 4 (eBin gIxU (eVar 2) (eBin gMod (eVar 1) (eVar 3))))
    (sSeq (sSet 5 (eBin gDiv (eVar 1) (eVar 3)))
    (sSeq (sSet 6 (eTake 4))
    (sSeq (sFor (itR1 (eBin gMin2 (eVar 5) (eC (.int 60)))) (gtName 7)
    (sSet 6 (eBin gDiv (eVar 6) (eC (.int 1000000)))))
    (sSeq (sIf (cAnd (cVal (eBin gGe (eVar 4) (eBin gPow (eC (.int 10)) (eC (.int 18))))) (cAnd (cVal (eBin gLt (eVar 5) (eC (.int 60)))) (cVal (eBin gGt (eVar 6) (eC (.int 0))))))
    (sRet (eBin gMod (eVar 6) (eC (.int 1000000))))
    sNil)
    (sSeq (sSet 8 (eBin gMod (eBin gMul1 (eBin gAdd (eBin gAdd (eBin gAdd (eBin gMod (eVar 4) (eC (.int 2147483629))) (eC (.int 977))) (eBin gMul1 (eC (.int 104729)) (eVar 5))) (eBin gMul1 (eC (.int 15485863)) (eVar 1))) (eC (.int 48271))) (eC (.int 2147483647))))
    (sSeq (sSet 8 (eBin gMod (eBin gAdd (eBin gAdd (eBin gMul1 (eVar 8) (eVar 8)) (eBin gMul1 (eC (.int 7919)) (eVar 5))) (eBin gMul1 (eC (.int 31)) (eVar 1))) (eC (.int 2147483587))))
    (sRet (eBin gMod (eBin gDiv (eBin gMod (eBin gMul1 (eVar 8) (eC (.int 69621))) (eC (.int 2147483563))) (eC (.int 64))) (eC (.int 1000000)))))))))))))
@[irreducible] noncomputable def fn_law_number : List D → R D := runFn 9 [] b_law_number
theorem fe_law_number : fn_law_number = runFn 9 [] b_law_number := by unfold fn_law_number; rfl
theorem ok_law_number {P : Program} {w : World} {K : PySem.W.Frag} {mg : Str → Option Value} {base : Heap} (B : Bt mg) (T : Gs K mg) (F : Df K mg "_law_number" s_law_number)  : Ok P w K mg base "_law_number" 1 ["script", "k"] (spF K 2 [] fn_law_number) := by
  rw [fe_law_number]
  exact fn_okD (k := 0) [] F sc_law_number (by decide) (fun _ _ _ _ _ _ us hl => match us, hl with | [_, _], _ => rfl) fun cdv A outer s H E H0 F0 σ0 hr =>
    (jb_cons (js_set (i := 2) (j_bop or_add os_add (j_t1 call_list_of cs_list B.list (by decide +kernel) (j_var 0)) (j_lst (ja_cons j_int ja_nil))) sc_law_number.nd)
    (jb_cons (js_set (i := 3) (j_b2 (call_max2 rfl) cs_max2 B.max (by decide +kernel) j_int (j_b1 call_len cs_len B.len PySem.boot_len (j_var 0))) sc_law_number.nd)
    (jb_cons (js_set (i := 4) (j_ixU (by exact hu_of hr) (j_var 2) (j_bop op_mod os_mod (j_var 1) (j_var 3))) sc_law_number.nd)
    (jb_cons (js_set (i := 5) (j_bop op_fdivW os_div (j_var 1) (j_var 3)) sc_law_number.nd)
    (jb_cons (js_set (i := 6) (j_take 4) sc_law_number.nd)
    (jb_cons (js_for PassesOwn.never rfl (ji_range1 (j_b2 (call_min2 rfl) cs_min2 B.min (by decide +kernel) (j_var 5) j_int) B.range) (jg_name (i := 7) sc_law_number.nd)
    (jb_one (js_set (i := 6) (j_bop op_fdivW os_div (j_var 6) j_int) sc_law_number.nd)))
    (jb_cons (js_if (JW.jt (jw_and (jt_cmp or_ge os_ge (j_var 4) (j_bop op_pow os_pow j_int j_int) (nomark _)) (jw_and (jt_cmp or_lt os_lt (j_var 5) j_int (nomark _)) (jw_and1 (jt_cmp or_gt os_gt (j_var 6) j_int (nomark _))))))
    (jb_one (js_ret (j_bop op_mod os_mod (j_var 6) j_int)))
    jb_nil)
    (jb_cons (js_set (i := 8) (j_bop op_mod os_mod (j_bop or_mul os_mul (j_bop or_add os_add (j_bop or_add os_add (j_bop or_add os_add (j_bop op_mod os_mod (j_var 4) j_int) j_int) (j_bop or_mul os_mul j_int (j_var 5))) (j_bop or_mul os_mul j_int (j_var 1))) j_int) j_int) sc_law_number.nd)
    (jb_cons (js_set (i := 8) (j_bop op_mod os_mod (j_bop or_add os_add (j_bop or_add os_add (j_bop or_mul os_mul (j_var 8) (j_var 8)) (j_bop or_mul os_mul j_int (j_var 5))) (j_bop or_mul os_mul j_int (j_var 1))) j_int) sc_law_number.nd)
    (jb_one (js_ret (j_bop op_mod os_mod (j_bop op_fdivW os_div (j_bop op_mod os_mod (j_bop or_mul os_mul (j_var 8) j_int) j_int) j_int) j_int))))))))))))
abbrev s_law_names : Stmt := top 4
abbrev nm_law_names : List Str := ["script", "start", "many", "letters", "some", "first", "at", "found", "menu", "k", "name"]
theorem sc_law_names : FnScope nm_law_names ["script", "start", "many"] (defScope s_law_names) := ⟨rfl, rfl, rfl, by decide +kernel, rfl, by decide +kernel, by decide +kernel⟩
noncomputable def b_law_names : SD → R Fl :=
    (sSeq (sSet 3 (eC (.str "abcdefghijklmnopqrstuvwxyz")))
    (sSeq (sSet 4 (eArgs gLst (aCons (eC (.str "")) (aCons (eC (.str "")) (aCons (eC (.str "one")) (aCons (eC (.str "zz")) (aCons (eC (.str "b")) (aCons (eC (.str "tie")) (aCons (eC (.str "place")) (aCons (eC (.str "lengthy")) aNil))))))))))
    (sSeq (sSet 5 (eCall 2 fn_law_number (aCons (eVar 0) (aCons (eVar 1) aNil))))
    (sSeq (sSet 6 (eBin gMod (eBin gDiv (eVar 5) (eC (.int 26))) (eC (.int 8))))
    (sSeq (sSet 7 (eArgs gLst aNil))
    (sSeq (sSet 8 (eArgs gLst (aCons (eC (.str "p")) (aCons (eC (.str "q")) (aCons (eC (.str "pp")) (aCons (eC (.str "pq")) (aCons (eC (.str "qp")) (aCons (eC (.str "qq")) (aCons (eC (.str "ppq")) (aCons (eC (.str "pqp")) (aCons (eC (.str "qpp")) (aCons (eC (.str "pqq")) (aCons (eC (.str "qpq")) (aCons (eC (.str "qqp")) (aCons (eC (.str "pqpqpqpq")) aNil)))))))))))))))
    (sSeq (sIf (cVal (eBin gEq (eBin gMod (eBin gDiv (eVar 5) (eC (.int 416))) (eC (.int 4))) (eC (.int 3))))
    (sRet (eCompE [9] (itR1 (eVar 2)) (gtName 9) cYes (eMt 8 chPopAt (aCons (eBin gMod (eCall 2 fn_law_number (aCons (eVar 0) (aCons (eBin gAdd (eBin gAdd (eVar 1) (eC (.int 1))) (eVar 9)) aNil))) (eUn gLen (eVar 8))) aNil))))
    sNil)
    (sSeq (sFor (itR1 (eVar 2)) (gtName 9)
    (sSeq (sSet 10 (eBin gIxU (eVar 4) (eBin gMod (eCall 2 fn_law_number (aCons (eVar 0) (aCons (eBin gAdd (eBin gAdd (eVar 1) (eC (.int 1))) (eBin gMul1 (eVar 9) (eBin gMod (eBin gDiv (eVar 5) (eC (.int 208))) (eC (.int 2))))) aNil))) (eC (.int 8)))))
    (sExpr (eMt 7 chApp (aCons (eUn toImm (eBin gAdd (eBin gAdd (eSl (eVar 10) oNone (oSome (eVar 6))) (eBin gIxU (eVar 3) (eBin gMod (eBin gAdd (eVar 5) (eBin gMul1 (eC (.int 5)) (eVar 9))) (eC (.int 26))))) (eSl (eVar 10) (oSome (eVar 6)) oNone))) aNil)))))
    (sRet (eTake 7))))))))))
@[irreducible] noncomputable def fn_law_names : List D → R D := runFn 11 [] b_law_names
theorem fe_law_names : fn_law_names = runFn 11 [] b_law_names := by unfold fn_law_names; rfl
theorem ok_law_names {P : Program} {w : World} {K : PySem.W.Frag} {mg : Str → Option Value} {base : Heap} (B : Bt mg) (T : Gs K mg) (F : Df K mg "_law_names" s_law_names) (G_law_number : Ok P w K mg base "_law_number" 1 ["script", "k"] (spF K 2 [] fn_law_number)) : Ok P w K mg base "_law_names" 2 ["script", "start", "many"] (spF K 3 [] fn_law_names) := by
  rw [fe_law_names]
  exact fn_okD (k := 1) [] F sc_law_names (by decide) (fun _ _ _ _ _ _ us hl => match us, hl with | [_, _, _], _ => rfl) fun cdv A outer s H E H0 F0 σ0 hr =>
    (jb_cons (js_set (i := 3) j_str sc_law_names.nd)
    (jb_cons (js_set (i := 4) (j_lst (ja_cons j_str (ja_cons j_str (ja_cons j_str (ja_cons j_str (ja_cons j_str (ja_cons j_str (ja_cons j_str (ja_cons j_str ja_nil))))))))) sc_law_names.nd)
    (jb_cons (js_set (i := 5) (j_fn G_law_number (by exact hr.mono (by decide)) (ja_cons (j_var 0) (ja_cons (j_var 1) ja_nil))) sc_law_names.nd)
    (jb_cons (js_set (i := 6) (j_bop op_mod os_mod (j_bop op_fdivW os_div (j_var 5) j_int) j_int) sc_law_names.nd)
    (jb_cons (js_set (i := 7) (j_lst ja_nil) sc_law_names.nd)
    (jb_cons (js_set (i := 8) (j_lst (ja_cons j_str (ja_cons j_str (ja_cons j_str (ja_cons j_str (ja_cons j_str (ja_cons j_str (ja_cons j_str (ja_cons j_str (ja_cons j_str (ja_cons j_str (ja_cons j_str (ja_cons j_str (ja_cons j_str ja_nil)))))))))))))) sc_law_names.nd)
    (jb_cons (js_if (jt_cmp (or_eq (by exact hr.units)) os_eq (j_bop op_mod os_mod (j_bop op_fdivW os_div (j_var 5) j_int) j_int) j_int (nomark _))
    (jb_one (js_ret (j_lcE [("k", 9)] rfl sc_law_names.nd (ji_range1 (j_var 2) B.range) (blkOk_by (N := nm_law_names) (sc := defScope s_law_names) (by decide +kernel)) (fun _ _ _ _ _ => (jg_name (i := 9) sc_law_names.nd)) (fun _ _ _ _ _ => jts_nil) (fun _ _ _ _ _ => (j_mt (s := 8) PySem.F.slot_list_pop PySem.F.type_list_pop mt_popAt ms_popAt (ja_cons (j_bop op_mod os_mod (j_fn G_law_number (by exact hr.mono (by decide)) (ja_cons (j_var 0) (ja_cons (j_bop or_add os_add (j_bop or_add os_add (j_var 1) j_int) (j_var 9)) ja_nil))) (j_b1 call_len cs_len B.len PySem.boot_len (j_var 8))) ja_nil))) (by show ∀ i ∈ [9], i ∈ [9]; decide) (by show ∀ i ∈ [9], ([] : List Nat).contains i = false; decide))))
    jb_nil)
    (jb_cons (js_for PassesOwn.never rfl (ji_range1 (j_var 2) B.range) (jg_name (i := 9) sc_law_names.nd)
    (jb_cons (js_set (i := 10) (j_ixU (by exact hu_of hr) (j_var 4) (j_bop op_mod os_mod (j_fn G_law_number (by exact hr.mono (by decide)) (ja_cons (j_var 0) (ja_cons (j_bop or_add os_add (j_bop or_add os_add (j_var 1) j_int) (j_bop or_mul os_mul (j_var 9) (j_bop op_mod os_mod (j_bop op_fdivW os_div (j_var 5) j_int) j_int))) ja_nil))) j_int)) sc_law_names.nd)
    (jb_one (js_expr (j_mt (s := 7) PySem.F.slot_list_append PySem.F.type_list_append mt_append ms_app (ja_cons (J.frz (j_bop or_add os_add (j_bop or_add os_add (j_sl (j_var 10) jo_none (jo_some (j_var 6))) (j_ixU (by exact hu_of hr) (j_var 3) (j_bop op_mod os_mod (j_bop or_add os_add (j_var 5) (j_bop or_mul os_mul j_int (j_var 9))) j_int))) (j_sl (j_var 10) (jo_some (j_var 6)) jo_none))) ja_nil))))))
    (jb_one (js_ret (j_take 7)))))))))))
abbrev s_law_bag : Stmt := top 5
abbrev nm_law_bag : List Str := ["script", "start", "most", "head", "many", "names", "numbers", "k", "left", "wide", "at", "others", "name", "number"]
theorem sc_law_bag : FnScope nm_law_bag ["script", "start", "most"] (defScope s_law_bag) := ⟨rfl, rfl, rfl, by decide +kernel, rfl, by decide +kernel, by decide +kernel⟩
noncomputable def b_law_bag : SD → R Fl :=
    (sSeq (sSet 3 (eCall 2 fn_law_number (aCons (eVar 0) (aCons (eVar 1) aNil))))
    (sSeq (sSet 4 (eBin gMod (eVar 3) (eC (.int 7))))
    (sSeq (sSet 5 (eUn gSortU (eCall 3 fn_law_names (aCons (eVar 0) (aCons (eBin gAdd (eVar 1) (eC (.int 1))) (aCons (eVar 4) aNil))))))
    (sSeq (sSet 6 (eArgs gLst aNil))
    (sSeq (sFor (itR1 (eVar 4)) (gtName 7)
    (sSeq (sSet 8 (eBin gAdd (eBin gAdd (eBin (gI2 fun i j => i - j) (eBin (gI2 fun i j => i - j) (eVar 2) (eUn gSum (eVar 6))) (eVar 4)) (eC (.int 1))) (eVar 7)))
    (sSeq (sSet 9 (eBin gIxU (eArgs gLst (aCons (eC (.int 2)) (aCons (eC (.int 3)) (aCons (eVar 8) (aCons (eBin gMax2 (eC (.int 1)) (eBin gDiv (eVar 2) (eBin gMul1 (eC (.int 2)) (eVar 4)))) aNil))))) (eBin gMod (eBin gDiv (eVar 3) (eC (.int 7))) (eC (.int 4)))))
    (sExpr (eMt 6 chApp (aCons (eUn toImm (eBin gAdd (eC (.int 1)) (eBin gMod (eCall 2 fn_law_number (aCons (eVar 0) (aCons (eBin gAdd (eBin gAdd (eVar 1) (eC (.int 10))) (eVar 7)) aNil))) (eBin gMin2 (eVar 9) (eVar 8))))) aNil))))))
    (sSeq (sIf (cAnd (cVal (eBin gEq (eBin gMod (eBin gDiv (eVar 3) (eC (.int 7))) (eC (.int 4))) (eC (.int 3)))) (cVal (eBin gGt (eVar 4) (eC (.int 0)))))
    (sSeq (sSet 10 (eBin gMod (eCall 2 fn_law_number (aCons (eVar 0) (aCons (eBin gAdd (eVar 1) (eC (.int 16))) aNil))) (eVar 4)))
    (sSeq (sSet 11 (eBin (gI2 fun i j => i - j) (eUn gSum (eVar 6)) (eBin gIxU (eVar 6) (eVar 10))))
    (sAsg (gtSet 6 (eVar 10)) (eBin gMax2 (eC (.int 1)) (eBin gMin2 (eBin (gI2 fun i j => i - j) (eVar 2) (eVar 11)) (eBin (gI2 fun i j => i - j) (eBin gAdd (eVar 11) (eBin gMod (eCall 2 fn_law_number (aCons (eVar 0) (aCons (eBin gAdd (eVar 1) (eC (.int 17))) aNil))) (eC (.int 5)))) (eC (.int 1))))))))
    sNil)
    (sSeq (sFz 6) (sSeq (sFz 5) (sRet (eUn gTupleX (eComp [12, 13] (itZipS (eVar 5) (eVar 6)) (gtTup 2 (gtCons (gtName 12) (gtCons (gtName 13) gtNil))) cYes (eArgs gTup (aCons (eVar 12) (aCons (eVar 13) aNil))))))))))))))
@[irreducible] noncomputable def fn_law_bag : List D → R D := runFn 14 [] b_law_bag
theorem fe_law_bag : fn_law_bag = runFn 14 [] b_law_bag := by unfold fn_law_bag; rfl
theorem ok_law_bag {P : Program} {w : World} {K : PySem.W.Frag} {mg : Str → Option Value} {base : Heap} (B : Bt mg) (T : Gs K mg) (F : Df K mg "_law_bag" s_law_bag) (G_law_number : Ok P w K mg base "_law_number" 1 ["script", "k"] (spF K 2 [] fn_law_number)) (G_law_names : Ok P w K mg base "_law_names" 2 ["script", "start", "many"] (spF K 3 [] fn_law_names)) : Ok P w K mg base "_law_bag" 3 ["script", "start", "most"] (spF K 3 [] fn_law_bag) := by
  rw [fe_law_bag]
  exact fn_okD (k := 2) [] F sc_law_bag (by decide) (fun _ _ _ _ _ _ us hl => match us, hl with | [_, _, _], _ => rfl) fun cdv A outer s H E H0 F0 σ0 hr =>
    (jb_cons (js_set (i := 3) (j_fn G_law_number (by exact hr.mono (by decide)) (ja_cons (j_var 0) (ja_cons (j_var 1) ja_nil))) sc_law_bag.nd)
    (jb_cons (js_set (i := 4) (j_bop op_mod os_mod (j_var 3) j_int) sc_law_bag.nd)
    (jb_cons (js_set (i := 5) (j_b1 (cr_sortU rfl (by exact hr.units)) cs_sortU B.sorted (by decide +kernel) (j_fn G_law_names (by exact hr.mono (by decide)) (ja_cons (j_var 0) (ja_cons (j_bop or_add os_add (j_var 1) j_int) (ja_cons (j_var 4) ja_nil))))) sc_law_bag.nd)
    (jb_cons (js_set (i := 6) (j_lst ja_nil) sc_law_bag.nd)
    (jb_cons (js_for PassesOwn.never rfl (ji_range1 (j_var 4) B.range) (jg_name (i := 7) sc_law_bag.nd)
    (jb_cons (js_set (i := 8) (j_bop or_add os_add (j_bop or_add os_add (j_bop op_sub os_i2 (j_bop op_sub os_i2 (j_var 2) (j_b1 (cr_sum rfl) cs_sum B.sum (by decide +kernel) (j_var 6))) (j_var 4)) j_int) (j_var 7)) sc_law_bag.nd)
    (jb_cons (js_set (i := 9) (j_ixU (by exact hu_of hr) (j_lst (ja_cons j_int (ja_cons j_int (ja_cons (j_var 8) (ja_cons (j_b2 (call_max2 rfl) cs_max2 B.max (by decide +kernel) j_int (j_bop op_fdivW os_div (j_var 2) (j_bop or_mul os_mul j_int (j_var 4)))) ja_nil))))) (j_bop op_mod os_mod (j_bop op_fdivW os_div (j_var 3) j_int) j_int)) sc_law_bag.nd)
    (jb_one (js_expr (j_mt (s := 6) PySem.F.slot_list_append PySem.F.type_list_append mt_append ms_app (ja_cons (J.frz (j_bop or_add os_add j_int (j_bop op_mod os_mod (j_fn G_law_number (by exact hr.mono (by decide)) (ja_cons (j_var 0) (ja_cons (j_bop or_add os_add (j_bop or_add os_add (j_var 1) j_int) (j_var 7)) ja_nil))) (j_b2 (call_min2 rfl) cs_min2 B.min (by decide +kernel) (j_var 9) (j_var 8))))) ja_nil)))))))
    (jb_cons (js_if (JW.jt (jw_and (jt_cmp (or_eq (by exact hr.units)) os_eq (j_bop op_mod os_mod (j_bop op_fdivW os_div (j_var 3) j_int) j_int) j_int (nomark _)) (jw_and1 (jt_cmp or_gt os_gt (j_var 4) j_int (nomark _)))))
    (jb_cons (js_set (i := 10) (j_bop op_mod os_mod (j_fn G_law_number (by exact hr.mono (by decide)) (ja_cons (j_var 0) (ja_cons (j_bop or_add os_add (j_var 1) j_int) ja_nil))) (j_var 4)) sc_law_bag.nd)
    (jb_cons (js_set (i := 11) (j_bop op_sub os_i2 (j_b1 (cr_sum rfl) cs_sum B.sum (by decide +kernel) (j_var 6)) (j_ixU (by exact hu_of hr) (j_var 6) (j_var 10))) sc_law_bag.nd)
    (jb_one (js_asgW (j_b2 (call_max2 rfl) cs_max2 B.max (by decide +kernel) j_int (j_b2 (call_min2 rfl) cs_min2 B.min (by decide +kernel) (j_bop op_sub os_i2 (j_var 2) (j_var 11)) (j_bop op_sub os_i2 (j_bop or_add os_add (j_var 11) (j_bop op_mod os_mod (j_fn G_law_number (by exact hr.mono (by decide)) (ja_cons (j_var 0) (ja_cons (j_bop or_add os_add (j_var 1) j_int) ja_nil))) j_int)) j_int))) (jgw_set (s := 6) (by exact hu_of hr) (j_var 10))))))
    jb_nil)
    (jb_one (js_fz 6 (js_fz 5 (js_ret (j_t1 call_tupleX cs_tupleX B.tuple (by decide +kernel) (j_lc [("name", 12), ("number", 13)] rfl sc_law_bag.nd (ji_zip (j_var 5) (j_var 6) B.zip) (blkOk_by (N := nm_law_bag) (sc := defScope s_law_bag) (by decide +kernel)) (fun _ _ _ _ _ => (jg_tup rfl (jgs_cons (jg_name (i := 12) sc_law_bag.nd) (jgs_cons (jg_name (i := 13) sc_law_bag.nd) jgs_nil)))) (fun _ _ _ _ _ => jts_nil) (fun _ _ _ _ _ => (j_tup (ja_cons (j_var 12) (ja_cons (j_var 13) ja_nil)))) (by show ∀ i ∈ [12, 13], i ∈ [12, 13]; decide) (by show ∀ i ∈ [12, 13], ([] : List Nat).contains i = false; decide)))))))))))))
abbrev s_law_laid : Stmt := top 6
abbrev nm_law_laid : List Str := ["script", "start", "bag", "left", "name", "many", "row", "k"]
theorem sc_law_laid : FnScope nm_law_laid ["script", "start", "bag"] (defScope s_law_laid) := ⟨rfl, rfl, rfl, by decide +kernel, rfl, by decide +kernel, by decide +kernel⟩
noncomputable def b_law_laid : SD → R Fl :=
    (sSeq (sSet 3 (eArgs gLst aNil))
    (sSeq (sFor (itSeq (eLo (eVar 2))) (gtTup 2 (gtCons (gtName 4) (gtCons (gtName 5) gtNil)))
    (sExpr (eMt 3 chExt (aCons (eBin gMul1 (eArgs gLst (aCons (eVar 4) aNil)) (eVar 5)) aNil))))
    (sSeq (sSet 6 (eArgs gLst aNil))
    (sSeq (sFor (itR1 (eUn gLen (eVar 3))) (gtName 7)
    (sExpr (eMt 6 chApp (aCons (eMt 3 chPopAt (aCons (eBin gMod (eCall 2 fn_law_number (aCons (eVar 0) (aCons (eBin gAdd (eVar 1) (eVar 7)) aNil))) (eUn gLen (eVar 3))) aNil)) aNil))))
    (sRet (eUn gTuple (eVar 6)))))))
@[irreducible] noncomputable def fn_law_laid : List D → R D := runFn 8 [] b_law_laid
theorem fe_law_laid : fn_law_laid = runFn 8 [] b_law_laid := by unfold fn_law_laid; rfl
theorem ok_law_laid {P : Program} {w : World} {K : PySem.W.Frag} {mg : Str → Option Value} {base : Heap} (B : Bt mg) (T : Gs K mg) (F : Df K mg "_law_laid" s_law_laid) (G_law_number : Ok P w K mg base "_law_number" 1 ["script", "k"] (spF K 2 [] fn_law_number)) : Ok P w K mg base "_law_laid" 2 ["script", "start", "bag"] (spF K 3 [] fn_law_laid) := by
  rw [fe_law_laid]
  exact fn_okD (k := 1) [] F sc_law_laid (by decide) (fun _ _ _ _ _ _ us hl => match us, hl with | [_, _, _], _ => rfl) fun cdv A outer s H E H0 F0 σ0 hr =>
    (jb_cons (js_set (i := 3) (j_lst ja_nil) sc_law_laid.nd)
    (jb_cons (js_for PassesOwn.never rfl (ji_seq (J.lo (j_var 2))) (jg_tup rfl (jgs_cons (jg_name (i := 4) sc_law_laid.nd) (jgs_cons (jg_name (i := 5) sc_law_laid.nd) jgs_nil)))
    (jb_one (js_expr (j_mt (s := 3) PySem.F.slot_list_extend PySem.F.type_list_extend mt_extend ms_ext (ja_cons (j_bop or_mul os_mul (j_lst (ja_cons (j_var 4) ja_nil)) (j_var 5)) ja_nil)))))
    (jb_cons (js_set (i := 6) (j_lst ja_nil) sc_law_laid.nd)
    (jb_cons (js_for PassesOwn.never rfl (ji_range1 (j_b1 call_len cs_len B.len PySem.boot_len (j_var 3)) B.range) (jg_name (i := 7) sc_law_laid.nd)
    (jb_one (js_expr (j_mt (s := 6) PySem.F.slot_list_append PySem.F.type_list_append mt_append ms_app (ja_cons (j_mt (s := 3) PySem.F.slot_list_pop PySem.F.type_list_pop mt_popAt ms_popAt (ja_cons (j_bop op_mod os_mod (j_fn G_law_number (by exact hr.mono (by decide)) (ja_cons (j_var 0) (ja_cons (j_bop or_add os_add (j_var 1) (j_var 7)) ja_nil))) (j_b1 call_len cs_len B.len PySem.boot_len (j_var 3))) ja_nil)) ja_nil)))))
    (jb_one (js_ret (j_t1 call_tuple_of cs_tuple B.tuple (by decide +kernel) (j_var 6))))))))
abbrev s_law_mark : Stmt := top 7
abbrev nm_law_mark : List Str := ["row", "best", "turn"]
theorem sc_law_mark : FnScope nm_law_mark ["row"] (defScope s_law_mark) := ⟨rfl, rfl, rfl, by decide +kernel, rfl, by decide +kernel, by decide +kernel⟩
noncomputable def b_law_mark : SD → R Fl :=
    (sSeq (sSet 1 (eTake 0))
    (sSeq (sFor (itR1 (eUn gLen (eVar 0))) (gtName 2)
    (sSet 1 (eBin gMin2D (eVar 1) (eBin gAdd (eSl (eVar 0) (oSome (eVar 2)) oNone) (eSl (eVar 0) oNone (oSome (eVar 2)))))))
    (sRet (eTake 1))))
@[irreducible] noncomputable def fn_law_mark : List D → R D := runFn 3 [] b_law_mark
theorem fe_law_mark : fn_law_mark = runFn 3 [] b_law_mark := by unfold fn_law_mark; rfl
theorem ok_law_mark {P : Program} {w : World} {K : PySem.W.Frag} {mg : Str → Option Value} {base : Heap} (B : Bt mg) (T : Gs K mg) (F : Df K mg "_law_mark" s_law_mark)  : Ok P w K mg base "_law_mark" 1 ["row"] (spF K 1 [] fn_law_mark) := by
  rw [fe_law_mark]
  exact fn_okD (k := 0) [] F sc_law_mark (by decide) (fun _ _ _ _ _ _ us hl => match us, hl with | [_], _ => rfl) fun cdv A outer s H E H0 F0 σ0 hr =>
    (jb_cons (js_set (i := 1) (j_take 0) sc_law_mark.nd)
    (jb_cons (js_for PassesOwn.never rfl (ji_range1 (j_b1 call_len cs_len B.len PySem.boot_len (j_var 0)) B.range) (jg_name (i := 2) sc_law_mark.nd)
    (jb_one (js_set (i := 1) (j_b2 (cr_min2D rfl (by exact hr.units)) cs_min2D B.min (by decide +kernel) (j_var 1) (j_bop or_add os_add (j_sl (j_var 0) (jo_some (j_var 2)) jo_none) (j_sl (j_var 0) jo_none (jo_some (j_var 2))))) sc_law_mark.nd)))
    (jb_one (js_ret (j_take 1)))))
abbrev s_law : Stmt := top 8
abbrev nm_law : List Str := ["script", "whole", "part", "times", "one", "row", "turn", "some", "found"]
theorem sc_law : FnScope nm_law ["script"] (defScope s_law) := ⟨rfl, rfl, rfl, by decide +kernel, rfl, by decide +kernel, by decide +kernel⟩
noncomputable def b_law : SD → R Fl :=
    (sSeq (sSet 1 (eCall 3 fn_law_laid (aCons (eVar 0) (aCons (eC (.int 130)) (aCons (eCall 3 fn_law_bag (aCons (eVar 0) (aCons (eC (.int 0)) (aCons (eC (.int 24)) aNil)))) aNil)))))
    (sSeq (sSet 2 (eCall 3 fn_law_laid (aCons (eVar 0) (aCons (eC (.int 160)) (aCons (eCall 3 fn_law_bag (aCons (eVar 0) (aCons (eC (.int 40)) (aCons (eC (.int 6)) aNil)))) aNil)))))
    (sSeq (sSet 3 (eBin gAdd (eC (.int 1)) (eBin gMod (eCall 2 fn_law_number (aCons (eVar 0) (aCons (eC (.int 190)) aNil))) (eBin gMax2 (eC (.int 1)) (eBin gDiv (eC (.int 24)) (eBin gMax2 (eC (.int 1)) (eUn gLen (eVar 2))))))))
    (sSeq (sSet 4 (eBin gMulU (eSl (eCall 3 fn_law_laid (aCons (eVar 0) (aCons (eC (.int 160)) (aCons (eCall 3 fn_law_bag (aCons (eVar 0) (aCons (eC (.int 80)) (aCons (eC (.int 24)) aNil)))) aNil)))) oNone (oSome (eC (.int 1)))) (eBin gMod (eCall 2 fn_law_number (aCons (eVar 0) (aCons (eC (.int 191)) aNil))) (eC (.int 25)))))
    (sSeq (sFor (itSeq (eArgs gTup (aCons (eVar 1) (aCons (eBin gMulU (eVar 2) (eVar 3)) (aCons (eVar 4) (aCons (eBin gAdd (eBin gMulU (eVar 2) (eVar 3)) (eSl (eVar 1) oNone (oSome (eBin gMax2 (eC (.int 0)) (eBin (gI2 fun i j => i - j) (eC (.int 24)) (eBin gMul1 (eUn gLen (eVar 2)) (eVar 3))))))) aNil)))))) (gtName 5)
    (sSeq (sSet 6 (eBin gMod (eCall 2 fn_law_number (aCons (eVar 0) (aCons (eC (.int 192)) aNil))) (eBin gAdd (eUn gLen (eVar 5)) (eC (.int 1)))))
    (sFor (itSeq (eArgs gTup (aCons (eVar 5) (aCons (eBin gAdd (eSl (eVar 5) (oSome (eVar 6)) oNone) (eSl (eVar 5) oNone (oSome (eVar 6)))) aNil)))) (gtName 7)
    (sSeq (sSet 8 (eCall 1 fn_mark_of (aCons (eVar 7) aNil)))
    (sIf (cOr (cNot (cVal (eUn (gIsi "tuple") (eVar 8)))) (cVal (eBin gNe (eVar 8) (eCall 1 fn_law_mark (aCons (eVar 5) aNil)))))
    (sRet (eC (.bl false)))
    sNil)))))
    (sRet (eC (.bl true))))))))
@[irreducible] noncomputable def fn_law : List D → R D := runFn 9 [] b_law
theorem fe_law : fn_law = runFn 9 [] b_law := by unfold fn_law; rfl
theorem ok_law {P : Program} {w : World} {K : PySem.W.Frag} {mg : Str → Option Value} {base : Heap} (B : Bt mg) (T : Gs K mg) (F : Df K mg "law" s_law) (G_law_laid : Ok P w K mg base "_law_laid" 2 ["script", "start", "bag"] (spF K 3 [] fn_law_laid)) (G_law_bag : Ok P w K mg base "_law_bag" 3 ["script", "start", "most"] (spF K 3 [] fn_law_bag)) (G_law_number : Ok P w K mg base "_law_number" 1 ["script", "k"] (spF K 2 [] fn_law_number)) (G_mark_of : Ok P w K mg base "mark_of" 1 ["row"] (spF K 1 [] fn_mark_of)) (G_law_mark : Ok P w K mg base "_law_mark" 1 ["row"] (spF K 1 [] fn_law_mark)) : Ok P w K mg base "law" 4 ["script"] (spF K 1 [] fn_law) := by
  rw [fe_law]
  exact fn_okD (k := 3) [] F sc_law (by decide) (fun _ _ _ _ _ _ us hl => match us, hl with | [_], _ => rfl) fun cdv A outer s H E H0 F0 σ0 hr =>
    (jb_cons (js_set (i := 1) (j_fn G_law_laid (by exact hr.mono (by decide)) (ja_cons (j_var 0) (ja_cons j_int (ja_cons (j_fn G_law_bag (by exact hr.mono (by decide)) (ja_cons (j_var 0) (ja_cons j_int (ja_cons j_int ja_nil)))) ja_nil)))) sc_law.nd)
    (jb_cons (js_set (i := 2) (j_fn G_law_laid (by exact hr.mono (by decide)) (ja_cons (j_var 0) (ja_cons j_int (ja_cons (j_fn G_law_bag (by exact hr.mono (by decide)) (ja_cons (j_var 0) (ja_cons j_int (ja_cons j_int ja_nil)))) ja_nil)))) sc_law.nd)
    (jb_cons (js_set (i := 3) (j_bop or_add os_add j_int (j_bop op_mod os_mod (j_fn G_law_number (by exact hr.mono (by decide)) (ja_cons (j_var 0) (ja_cons j_int ja_nil))) (j_b2 (call_max2 rfl) cs_max2 B.max (by decide +kernel) j_int (j_bop op_fdivW os_div j_int (j_b2 (call_max2 rfl) cs_max2 B.max (by decide +kernel) j_int (j_b1 call_len cs_len B.len PySem.boot_len (j_var 2))))))) sc_law.nd)
    (jb_cons (js_set (i := 4) (j_bop or_mulU os_mulU (j_sl (j_fn G_law_laid (by exact hr.mono (by decide)) (ja_cons (j_var 0) (ja_cons j_int (ja_cons (j_fn G_law_bag (by exact hr.mono (by decide)) (ja_cons (j_var 0) (ja_cons j_int (ja_cons j_int ja_nil)))) ja_nil)))) jo_none (jo_some j_int)) (j_bop op_mod os_mod (j_fn G_law_number (by exact hr.mono (by decide)) (ja_cons (j_var 0) (ja_cons j_int ja_nil))) j_int)) sc_law.nd)
    (jb_cons (js_for PassesOwn.never rfl (ji_seq (j_tup (ja_cons (j_var 1) (ja_cons (j_bop or_mulU os_mulU (j_var 2) (j_var 3)) (ja_cons (j_var 4) (ja_cons (j_bop or_add os_add (j_bop or_mulU os_mulU (j_var 2) (j_var 3)) (j_sl (j_var 1) jo_none (jo_some (j_b2 (call_max2 rfl) cs_max2 B.max (by decide +kernel) j_int (j_bop op_sub os_i2 j_int (j_bop or_mul os_mul (j_b1 call_len cs_len B.len PySem.boot_len (j_var 2)) (j_var 3))))))) ja_nil)))))) (jg_name (i := 5) sc_law.nd)
    (jb_cons (js_set (i := 6) (j_bop op_mod os_mod (j_fn G_law_number (by exact hr.mono (by decide)) (ja_cons (j_var 0) (ja_cons j_int ja_nil))) (j_bop or_add os_add (j_b1 call_len cs_len B.len PySem.boot_len (j_var 5)) j_int)) sc_law.nd)
    (jb_one (js_for PassesOwn.never rfl (ji_seq (j_tup (ja_cons (j_var 5) (ja_cons (j_bop or_add os_add (j_sl (j_var 5) (jo_some (j_var 6)) jo_none) (j_sl (j_var 5) jo_none (jo_some (j_var 6)))) ja_nil)))) (jg_name (i := 7) sc_law.nd)
    (jb_cons (js_set (i := 8) (j_fn G_mark_of (by exact hr.mono (by decide)) (ja_cons (j_var 7) ja_nil)) sc_law.nd)
    (jb_one (js_if (JW.jt (jw_or (jt_not (jt_val (j_isi (j_var 8) B.isinstance B.tuple (by decide +kernel)))) (jw_or1 (jt_cmp (or_ne (by exact hr.units)) os_ne (j_var 8) (j_fn G_law_mark (by exact hr.mono (by decide)) (ja_cons (j_var 5) ja_nil)) (nomark _)))))
    (jb_one (js_ret j_bl))
    jb_nil)))))))
    (jb_one (js_ret j_bl)))))))
end Lw

namespace Lw
open PySem L2 Vs
abbrev scr (ns : List Int) : D := .lst .imm (ns.map .int)
theorem ens_eq {r : R D} {b : D} (h : Ens r fun x _ => x = b) : ∃ e, r = .ok b e := by
  obtain ⟨d, e, h1, h2⟩ := ens_ex h
  exact ⟨e, by rw [h1, h2]⟩
theorem number_ok {ns : List Int} (hns : ns.length ≤ 63) {k : Int} (hk : 0 ≤ k) (hk2 : k < 1000000) : ∃ r e, fn_law_number [scr ns, .int k] = .ok (.int r) e ∧ 0 ≤ r ∧ r < 1000000 := by
  have main : Ens (fn_law_number [scr ns, .int k]) fun d _ => ∃ r, d = .int r ∧ 0 ≤ r ∧ r < 1000000 := by
    unfold fn_law_number b_law_number
    obtain ⟨many, hmany, hpos, hlen⟩ : ∃ many : Int, (if 1 < ((ns.length : Nat) : Int) then ((ns.length : Nat) : Int) else 1) = many ∧ 0 < many ∧ many ≤ ns.length + 1 := by
      refine ⟨_, rfl, ?_⟩
      split <;> omega
    have hx : ∃ x : Int, atI (ns.map D.int ++ [.int 0]) (k % many) = some (.int x) := by
      have h0 : 0 ≤ k % many := Int.emod_nonneg _ (by omega)
      have h1 : k % many < many := Int.emod_lt_of_pos _ (by omega)
      have e : ns.map D.int ++ [.int 0] = (ns ++ [0]).map D.int := by simp
      rw [at_get h0, e, List.getElem?_map, List.getElem?_eq_getElem (by simp; omega)]
      exact ⟨_, rfl⟩
    obtain ⟨x, hx⟩ := hx
    have hsz : ns.length + 1 ≤ sizeLine := size_le (by omega)
    have hsz0 : ns.length ≤ sizeLine := size_le (by omega)
    have hq0 : 0 ≤ k / many := Int.ediv_nonneg hk (by omega)
    have hq1 : k / many ≤ k := Int.ediv_le_self _ hk
    obtain ⟨m, hm, hm0, hm1⟩ : ∃ m : Int, (if 60 < k / many then 60 else k / many) = m ∧ 0 ≤ m ∧ m ≤ 60 := by
      refine ⟨_, rfl, ?_⟩
      split <;> omega
    have hr : (-(2 ^ 62) ≤ m ∧ m < 2 ^ 62) := by omega
    have rest : ∀ (y : Int) (o7 o8 : Option D), Ens (sSeq (sIf (cAnd (cVal (eBin gGe (eVar 4) (eBin gPow (eC (.int 10)) (eC (.int 18))))) (cAnd (cVal (eBin gLt (eVar 5) (eC (.int 60)))) (cVal (eBin gGt (eVar 6) (eC (.int 0)))))) (sRet (eBin gMod (eVar 6) (eC (.int 1000000)))) sNil)
      (sSeq (sSet 8 (eBin gMod (eBin gMul1 (eBin gAdd (eBin gAdd (eBin gAdd (eBin gMod (eVar 4) (eC (.int 2147483629))) (eC (.int 977))) (eBin gMul1 (eC (.int 104729)) (eVar 5))) (eBin gMul1 (eC (.int 15485863)) (eVar 1))) (eC (.int 48271))) (eC (.int 2147483647))))
      (sSeq (sSet 8 (eBin gMod (eBin gAdd (eBin gAdd (eBin gMul1 (eVar 8) (eVar 8)) (eBin gMul1 (eC (.int 7919)) (eVar 5))) (eBin gMul1 (eC (.int 31)) (eVar 1))) (eC (.int 2147483587))))
      (sRet (eBin gMod (eBin gDiv (eBin gMod (eBin gMul1 (eVar 8) (eC (.int 69621))) (eC (.int 2147483563))) (eC (.int 64))) (eC (.int 1000000)))))) [some (scr ns), some (.int k), some (.lst .own (ns.map D.int ++ [.int 0])), some (.int many), some (.int x), some (.int (k / many)), some (.int y), o7, o8]) fun fl e => match fl with
        | .rt d => noBor d = true ∧ ∃ r, d = .int r ∧ 0 ≤ r ∧ r < 1000000
        | .nx => ∃ r, D.non = .int r ∧ 0 ≤ r ∧ r < 1000000
        | _ => False := by
      intro y o7 o8
      have late : ∀ o7 o8 : Option D, Ens (seqK (setK 8 (R.ok (.int ((x % 2147483629 + 977 + 104729 * (k / many) + 15485863 * k) * 48271 % 2147483647)) [some (scr ns), some (.int k), some (.lst .own (ns.map D.int ++ [.int 0])), some (.int many), some (.int x), some (.int (k / many)), some (.int y), o7, o8])) (sSeq (sSet 8 (eBin gMod (eBin gAdd (eBin gAdd (eBin gMul1 (eVar 8) (eVar 8)) (eBin gMul1 (eC (.int 7919)) (eVar 5))) (eBin gMul1 (eC (.int 31)) (eVar 1))) (eC (.int 2147483587))))
          (sRet (eBin gMod (eBin gDiv (eBin gMod (eBin gMul1 (eVar 8) (eC (.int 69621))) (eC (.int 2147483563))) (eC (.int 64))) (eC (.int 1000000)))))) fun fl e => match fl with
        | .rt d => noBor d = true ∧ ∃ r, d = .int r ∧ 0 ≤ r ∧ r < 1000000
        | .nx => ∃ r, D.non = .int r ∧ 0 ≤ r ∧ r < 1000000
        | _ => False := by
        intro o7 o8
        have hp : (x % 2147483629 + 977 + 104729 * (k / many) + 15485863 * k) * 48271 % 2147483647 < 2147483647 := Int.emod_lt_of_pos _ (by decide)
        have hp0 : 0 ≤ (x % 2147483629 + 977 + 104729 * (k / many) + 15485863 * k) * 48271 % 2147483647 := Int.emod_nonneg _ (by decide)
        generalize (x % 2147483629 + 977 + 104729 * (k / many) + 15485863 * k) * 48271 % 2147483647 = z at hp hp0
        simp -implicitDefEqProofs only [ens_ok, k_var, k_look, k_take, k_take1, k_c, k_dnew, k_opt, k_bin, k_bin1, k_bin2, k_un, k_un1, k_imm, k_imm1, k_arg, k_arg1, k_anil, k_acons, k_acons1, k_acons2, k_val, k_val1, k_cnot, k_cnot1, k_cand, k_cand1, k_cor, k_cor1, k_eand, k_eand1, k_eor, k_eor1, k_enot, k_enot1, k_eif, k_eif1, k_onone, k_osome, k_osome1, k_sl, k_sl1, k_sl2, k_sl3, k_seq, k_seqn, k_seqr, k_seqb, k_seqc, k_snil, k_brk, k_cnt, k_retN, k_expr, k_expr1, k_ret, k_ret1, k_if, k_if1, k_set, k_set1, k_aug, k_aug1, k_aug2, k_asg, k_asg1, k_asg2, k_par, k_par1, k_gtName, k_gtNil, k_gtCons, k_gtK, k_gtTup, k_gtSet, k_gtSet1, k_gtSet2, k_call, k_call1, k_call2, k_apNil, k_apVal, k_apVal1, k_ap2, k_apPlc, k_apPlc1, k_callP, k_callP1, k_callP2, k_callP3, k_run, k_run1, k_run2, k_mt, k_mt1, k_mt2, k_mt3, k_mt4, k_app, k_itSeq, k_itSeq1, k_itEnum, k_itEnum1, k_itR1, k_itR11, k_itR2, k_itR21, k_for, k_for1, m_non, m_bl, m_int, m_str, m_tup, m_limm, m_lown, m_lbor, m_nil, m_cons, m_app, m_ints, m_int', m_strs, m_str', n_int, n_non, n_bl, n_str, n_tup, n_lown, n_limm, n_nil, n_cons, n_app, n_int', n_str', r_nil, r_cons, r_int, r_str, r_non, r_bl, r_tup, r_lown, r_limm, r_lbor, r_int', r_str', g_ixl, g_ixt, g_ixs, g_ixk, at0, at1, at2, at3, at4, st0, st1, st2, st3, st4, g_addi, g_i2, g_abs, g_neg, g_max2, g_min2, g_inti, g_intb, g_gt, g_lt, g_ge, g_le, g_ltS, g_lenl, g_lent, g_lens, g_lst, g_tup, g_listl, g_listt, g_tupl, g_tupt, g_addS, g_addT, g_addL, g_pow18, sz0, sz1, sz2, sz3, sz4, sz5, sz6, sz7, sz8, sz9, sz10, sz11, ne_bl, ge_int, ne_int, ge_str, ne_str, in_strs, in_strsT, gsl_tup, isi_bb, isi_bi, isi_ib, isi_ii, k_comp, k_comp1, k_comp2, k_yes, g_sum, g_count, g_rev, g_notB, g_isB, k_rm, k_rmL, k_rmS, k_rm2, k_rg1, k_ins, k_toImm, k_toImmI, m_pairs, m_bag, r_bag, n_bag, r_pairs, n_pairs, List.getElem?_cons_zero, List.getElem?_cons_succ, List.set_cons_zero, List.set_cons_succ, List.length_cons, List.length_nil, List.map_cons, List.map_nil, List.cons_append, List.nil_append, List.replicate_succ, List.replicate_zero, Option.map_some, Option.getD_some, Option.getD_none, Nat.reduceLT, Nat.reduceAdd, Nat.reduceSub, Nat.reduceEqDiff, if_true, if_false, Bool.and_true, Bool.true_and, Bool.false_eq_true, decide_eq_true_eq, and_self, and_true, true_and, Option.join_some, outsOf, Bool.and_self, Bool.not_true, Bool.not_false, Nat.zero_lt_succ, Nat.succ_lt_succ_iff, Nat.zero_add, reduceIte, g_ixA, g_ixAt, k_gtS2, k_gtS21, k_gtS22, k_setD2, k_lstH, k_compE, k_compE1, k_compE2, k_augI, k_augI0, k_augI1, k_zip, k_zip1, k_zipT, k_zipL, k_get2, k_get21, k_get22, k_get23, get2_tab, k_fz, k_fz1, k_toImmN, k_toImmS, k_fzD, k_fzD1, k_items, k_items1, k_keys, k_keys1, k_dAug, k_dAug0, k_dAug1, k_lo, k_lo1, lo_bag, lo_tup, g_tupX, m_tx, n_tx, r_tx, m_bagX, r_bagX, n_bagX, Int.reduceEq, Int.reduceLT, Int.reduceLE, Int.reduceNeg, decide_true, decide_false, gt_iff_lt, ge_iff_le, g_mull (i := z) (by omega) (by omega), g_mull (i := 7919) (by decide) (by decide), g_mull (i := 31) (by decide) (by decide), g_mod (j := 2147483587) (by decide), g_mulr (j := 69621) (by decide) (by decide), g_mod (j := 2147483563) (by decide), g_divs (j := 64) (by decide) (by decide), g_mod (j := 1000000) (by decide)]
        exact ⟨_, rfl, Int.emod_nonneg _ (by decide), Int.emod_lt_of_pos _ (by decide)⟩
      by_cases h1 : (1000000000000000000 : Int) ≤ x
      · by_cases h2 : k / many < 60
        · by_cases h3 : 0 < y
          · simp -implicitDefEqProofs only [ens_ok, k_var, k_look, k_take, k_take1, k_c, k_dnew, k_opt, k_bin, k_bin1, k_bin2, k_un, k_un1, k_imm, k_imm1, k_arg, k_arg1, k_anil, k_acons, k_acons1, k_acons2, k_val, k_val1, k_cnot, k_cnot1, k_cand, k_cand1, k_cor, k_cor1, k_eand, k_eand1, k_eor, k_eor1, k_enot, k_enot1, k_eif, k_eif1, k_onone, k_osome, k_osome1, k_sl, k_sl1, k_sl2, k_sl3, k_seq, k_seqn, k_seqr, k_seqb, k_seqc, k_snil, k_brk, k_cnt, k_retN, k_expr, k_expr1, k_ret, k_ret1, k_if, k_if1, k_set, k_set1, k_aug, k_aug1, k_aug2, k_asg, k_asg1, k_asg2, k_par, k_par1, k_gtName, k_gtNil, k_gtCons, k_gtK, k_gtTup, k_gtSet, k_gtSet1, k_gtSet2, k_call, k_call1, k_call2, k_apNil, k_apVal, k_apVal1, k_ap2, k_apPlc, k_apPlc1, k_callP, k_callP1, k_callP2, k_callP3, k_run, k_run1, k_run2, k_mt, k_mt1, k_mt2, k_mt3, k_mt4, k_app, k_itSeq, k_itSeq1, k_itEnum, k_itEnum1, k_itR1, k_itR11, k_itR2, k_itR21, k_for, k_for1, m_non, m_bl, m_int, m_str, m_tup, m_limm, m_lown, m_lbor, m_nil, m_cons, m_app, m_ints, m_int', m_strs, m_str', n_int, n_non, n_bl, n_str, n_tup, n_lown, n_limm, n_nil, n_cons, n_app, n_int', n_str', r_nil, r_cons, r_int, r_str, r_non, r_bl, r_tup, r_lown, r_limm, r_lbor, r_int', r_str', g_ixl, g_ixt, g_ixs, g_ixk, at0, at1, at2, at3, at4, st0, st1, st2, st3, st4, g_addi, g_i2, g_abs, g_neg, g_max2, g_min2, g_inti, g_intb, g_gt, g_lt, g_ge, g_le, g_ltS, g_lenl, g_lent, g_lens, g_lst, g_tup, g_listl, g_listt, g_tupl, g_tupt, g_addS, g_addT, g_addL, g_pow18, sz0, sz1, sz2, sz3, sz4, sz5, sz6, sz7, sz8, sz9, sz10, sz11, ne_bl, ge_int, ne_int, ge_str, ne_str, in_strs, in_strsT, gsl_tup, isi_bb, isi_bi, isi_ib, isi_ii, k_comp, k_comp1, k_comp2, k_yes, g_sum, g_count, g_rev, g_notB, g_isB, k_rm, k_rmL, k_rmS, k_rm2, k_rg1, k_ins, k_toImm, k_toImmI, m_pairs, m_bag, r_bag, n_bag, r_pairs, n_pairs, List.getElem?_cons_zero, List.getElem?_cons_succ, List.set_cons_zero, List.set_cons_succ, List.length_cons, List.length_nil, List.map_cons, List.map_nil, List.cons_append, List.nil_append, List.replicate_succ, List.replicate_zero, Option.map_some, Option.getD_some, Option.getD_none, Nat.reduceLT, Nat.reduceAdd, Nat.reduceSub, Nat.reduceEqDiff, if_true, if_false, Bool.and_true, Bool.true_and, Bool.false_eq_true, decide_eq_true_eq, and_self, and_true, true_and, Option.join_some, outsOf, Bool.and_self, Bool.not_true, Bool.not_false, Nat.zero_lt_succ, Nat.succ_lt_succ_iff, Nat.zero_add, reduceIte, g_ixA, g_ixAt, k_gtS2, k_gtS21, k_gtS22, k_setD2, k_lstH, k_compE, k_compE1, k_compE2, k_augI, k_augI0, k_augI1, k_zip, k_zip1, k_zipT, k_zipL, k_get2, k_get21, k_get22, k_get23, get2_tab, k_fz, k_fz1, k_toImmN, k_toImmS, k_fzD, k_fzD1, k_items, k_items1, k_keys, k_keys1, k_dAug, k_dAug0, k_dAug1, k_lo, k_lo1, lo_bag, lo_tup, g_tupX, m_tx, n_tx, r_tx, m_bagX, r_bagX, n_bagX, Int.reduceEq, Int.reduceLT, Int.reduceLE, Int.reduceNeg, decide_true, decide_false, gt_iff_lt, ge_iff_le, h1, h2, h3, g_mod (j := 1000000) (by decide)]
            exact ⟨_, rfl, Int.emod_nonneg _ (by decide), Int.emod_lt_of_pos _ (by decide)⟩
          · have := late o7 o8
            simp -implicitDefEqProofs only [ens_ok, k_var, k_look, k_take, k_take1, k_c, k_dnew, k_opt, k_bin, k_bin1, k_bin2, k_un, k_un1, k_imm, k_imm1, k_arg, k_arg1, k_anil, k_acons, k_acons1, k_acons2, k_val, k_val1, k_cnot, k_cnot1, k_cand, k_cand1, k_cor, k_cor1, k_eand, k_eand1, k_eor, k_eor1, k_enot, k_enot1, k_eif, k_eif1, k_onone, k_osome, k_osome1, k_sl, k_sl1, k_sl2, k_sl3, k_seq, k_seqn, k_seqr, k_seqb, k_seqc, k_snil, k_brk, k_cnt, k_retN, k_expr, k_expr1, k_ret, k_ret1, k_if, k_if1, k_set, k_set1, k_aug, k_aug1, k_aug2, k_asg, k_asg1, k_asg2, k_par, k_par1, k_gtName, k_gtNil, k_gtCons, k_gtK, k_gtTup, k_gtSet, k_gtSet1, k_gtSet2, k_call, k_call1, k_call2, k_apNil, k_apVal, k_apVal1, k_ap2, k_apPlc, k_apPlc1, k_callP, k_callP1, k_callP2, k_callP3, k_run, k_run1, k_run2, k_mt, k_mt1, k_mt2, k_mt3, k_mt4, k_app, k_itSeq, k_itSeq1, k_itEnum, k_itEnum1, k_itR1, k_itR11, k_itR2, k_itR21, k_for, k_for1, m_non, m_bl, m_int, m_str, m_tup, m_limm, m_lown, m_lbor, m_nil, m_cons, m_app, m_ints, m_int', m_strs, m_str', n_int, n_non, n_bl, n_str, n_tup, n_lown, n_limm, n_nil, n_cons, n_app, n_int', n_str', r_nil, r_cons, r_int, r_str, r_non, r_bl, r_tup, r_lown, r_limm, r_lbor, r_int', r_str', g_ixl, g_ixt, g_ixs, g_ixk, at0, at1, at2, at3, at4, st0, st1, st2, st3, st4, g_addi, g_i2, g_abs, g_neg, g_max2, g_min2, g_inti, g_intb, g_gt, g_lt, g_ge, g_le, g_ltS, g_lenl, g_lent, g_lens, g_lst, g_tup, g_listl, g_listt, g_tupl, g_tupt, g_addS, g_addT, g_addL, g_pow18, sz0, sz1, sz2, sz3, sz4, sz5, sz6, sz7, sz8, sz9, sz10, sz11, ne_bl, ge_int, ne_int, ge_str, ne_str, in_strs, in_strsT, gsl_tup, isi_bb, isi_bi, isi_ib, isi_ii, k_comp, k_comp1, k_comp2, k_yes, g_sum, g_count, g_rev, g_notB, g_isB, k_rm, k_rmL, k_rmS, k_rm2, k_rg1, k_ins, k_toImm, k_toImmI, m_pairs, m_bag, r_bag, n_bag, r_pairs, n_pairs, List.getElem?_cons_zero, List.getElem?_cons_succ, List.set_cons_zero, List.set_cons_succ, List.length_cons, List.length_nil, List.map_cons, List.map_nil, List.cons_append, List.nil_append, List.replicate_succ, List.replicate_zero, Option.map_some, Option.getD_some, Option.getD_none, Nat.reduceLT, Nat.reduceAdd, Nat.reduceSub, Nat.reduceEqDiff, if_true, if_false, Bool.and_true, Bool.true_and, Bool.false_eq_true, decide_eq_true_eq, and_self, and_true, true_and, Option.join_some, outsOf, Bool.and_self, Bool.not_true, Bool.not_false, Nat.zero_lt_succ, Nat.succ_lt_succ_iff, Nat.zero_add, reduceIte, g_ixA, g_ixAt, k_gtS2, k_gtS21, k_gtS22, k_setD2, k_lstH, k_compE, k_compE1, k_compE2, k_augI, k_augI0, k_augI1, k_zip, k_zip1, k_zipT, k_zipL, k_get2, k_get21, k_get22, k_get23, get2_tab, k_fz, k_fz1, k_toImmN, k_toImmS, k_fzD, k_fzD1, k_items, k_items1, k_keys, k_keys1, k_dAug, k_dAug0, k_dAug1, k_lo, k_lo1, lo_bag, lo_tup, g_tupX, m_tx, n_tx, r_tx, m_bagX, r_bagX, n_bagX, Int.reduceEq, Int.reduceLT, Int.reduceLE, Int.reduceNeg, decide_true, decide_false, gt_iff_lt, ge_iff_le, h1, h2, h3, g_mod (j := 2147483629) (by decide), g_mull (i := 104729) (by decide) (by decide), g_mull (i := 15485863) (by decide) (by decide), g_mulr (j := 48271) (by decide) (by decide), g_mod (j := 2147483647) (by decide)] at this ⊢
            exact this
        · have := late o7 o8
          simp -implicitDefEqProofs only [ens_ok, k_var, k_look, k_take, k_take1, k_c, k_dnew, k_opt, k_bin, k_bin1, k_bin2, k_un, k_un1, k_imm, k_imm1, k_arg, k_arg1, k_anil, k_acons, k_acons1, k_acons2, k_val, k_val1, k_cnot, k_cnot1, k_cand, k_cand1, k_cor, k_cor1, k_eand, k_eand1, k_eor, k_eor1, k_enot, k_enot1, k_eif, k_eif1, k_onone, k_osome, k_osome1, k_sl, k_sl1, k_sl2, k_sl3, k_seq, k_seqn, k_seqr, k_seqb, k_seqc, k_snil, k_brk, k_cnt, k_retN, k_expr, k_expr1, k_ret, k_ret1, k_if, k_if1, k_set, k_set1, k_aug, k_aug1, k_aug2, k_asg, k_asg1, k_asg2, k_par, k_par1, k_gtName, k_gtNil, k_gtCons, k_gtK, k_gtTup, k_gtSet, k_gtSet1, k_gtSet2, k_call, k_call1, k_call2, k_apNil, k_apVal, k_apVal1, k_ap2, k_apPlc, k_apPlc1, k_callP, k_callP1, k_callP2, k_callP3, k_run, k_run1, k_run2, k_mt, k_mt1, k_mt2, k_mt3, k_mt4, k_app, k_itSeq, k_itSeq1, k_itEnum, k_itEnum1, k_itR1, k_itR11, k_itR2, k_itR21, k_for, k_for1, m_non, m_bl, m_int, m_str, m_tup, m_limm, m_lown, m_lbor, m_nil, m_cons, m_app, m_ints, m_int', m_strs, m_str', n_int, n_non, n_bl, n_str, n_tup, n_lown, n_limm, n_nil, n_cons, n_app, n_int', n_str', r_nil, r_cons, r_int, r_str, r_non, r_bl, r_tup, r_lown, r_limm, r_lbor, r_int', r_str', g_ixl, g_ixt, g_ixs, g_ixk, at0, at1, at2, at3, at4, st0, st1, st2, st3, st4, g_addi, g_i2, g_abs, g_neg, g_max2, g_min2, g_inti, g_intb, g_gt, g_lt, g_ge, g_le, g_ltS, g_lenl, g_lent, g_lens, g_lst, g_tup, g_listl, g_listt, g_tupl, g_tupt, g_addS, g_addT, g_addL, g_pow18, sz0, sz1, sz2, sz3, sz4, sz5, sz6, sz7, sz8, sz9, sz10, sz11, ne_bl, ge_int, ne_int, ge_str, ne_str, in_strs, in_strsT, gsl_tup, isi_bb, isi_bi, isi_ib, isi_ii, k_comp, k_comp1, k_comp2, k_yes, g_sum, g_count, g_rev, g_notB, g_isB, k_rm, k_rmL, k_rmS, k_rm2, k_rg1, k_ins, k_toImm, k_toImmI, m_pairs, m_bag, r_bag, n_bag, r_pairs, n_pairs, List.getElem?_cons_zero, List.getElem?_cons_succ, List.set_cons_zero, List.set_cons_succ, List.length_cons, List.length_nil, List.map_cons, List.map_nil, List.cons_append, List.nil_append, List.replicate_succ, List.replicate_zero, Option.map_some, Option.getD_some, Option.getD_none, Nat.reduceLT, Nat.reduceAdd, Nat.reduceSub, Nat.reduceEqDiff, if_true, if_false, Bool.and_true, Bool.true_and, Bool.false_eq_true, decide_eq_true_eq, and_self, and_true, true_and, Option.join_some, outsOf, Bool.and_self, Bool.not_true, Bool.not_false, Nat.zero_lt_succ, Nat.succ_lt_succ_iff, Nat.zero_add, reduceIte, g_ixA, g_ixAt, k_gtS2, k_gtS21, k_gtS22, k_setD2, k_lstH, k_compE, k_compE1, k_compE2, k_augI, k_augI0, k_augI1, k_zip, k_zip1, k_zipT, k_zipL, k_get2, k_get21, k_get22, k_get23, get2_tab, k_fz, k_fz1, k_toImmN, k_toImmS, k_fzD, k_fzD1, k_items, k_items1, k_keys, k_keys1, k_dAug, k_dAug0, k_dAug1, k_lo, k_lo1, lo_bag, lo_tup, g_tupX, m_tx, n_tx, r_tx, m_bagX, r_bagX, n_bagX, Int.reduceEq, Int.reduceLT, Int.reduceLE, Int.reduceNeg, decide_true, decide_false, gt_iff_lt, ge_iff_le, h1, h2, g_mod (j := 2147483629) (by decide), g_mull (i := 104729) (by decide) (by decide), g_mull (i := 15485863) (by decide) (by decide), g_mulr (j := 48271) (by decide) (by decide), g_mod (j := 2147483647) (by decide)] at this ⊢
          exact this
      · have := late o7 o8
        simp -implicitDefEqProofs only [ens_ok, k_var, k_look, k_take, k_take1, k_c, k_dnew, k_opt, k_bin, k_bin1, k_bin2, k_un, k_un1, k_imm, k_imm1, k_arg, k_arg1, k_anil, k_acons, k_acons1, k_acons2, k_val, k_val1, k_cnot, k_cnot1, k_cand, k_cand1, k_cor, k_cor1, k_eand, k_eand1, k_eor, k_eor1, k_enot, k_enot1, k_eif, k_eif1, k_onone, k_osome, k_osome1, k_sl, k_sl1, k_sl2, k_sl3, k_seq, k_seqn, k_seqr, k_seqb, k_seqc, k_snil, k_brk, k_cnt, k_retN, k_expr, k_expr1, k_ret, k_ret1, k_if, k_if1, k_set, k_set1, k_aug, k_aug1, k_aug2, k_asg, k_asg1, k_asg2, k_par, k_par1, k_gtName, k_gtNil, k_gtCons, k_gtK, k_gtTup, k_gtSet, k_gtSet1, k_gtSet2, k_call, k_call1, k_call2, k_apNil, k_apVal, k_apVal1, k_ap2, k_apPlc, k_apPlc1, k_callP, k_callP1, k_callP2, k_callP3, k_run, k_run1, k_run2, k_mt, k_mt1, k_mt2, k_mt3, k_mt4, k_app, k_itSeq, k_itSeq1, k_itEnum, k_itEnum1, k_itR1, k_itR11, k_itR2, k_itR21, k_for, k_for1, m_non, m_bl, m_int, m_str, m_tup, m_limm, m_lown, m_lbor, m_nil, m_cons, m_app, m_ints, m_int', m_strs, m_str', n_int, n_non, n_bl, n_str, n_tup, n_lown, n_limm, n_nil, n_cons, n_app, n_int', n_str', r_nil, r_cons, r_int, r_str, r_non, r_bl, r_tup, r_lown, r_limm, r_lbor, r_int', r_str', g_ixl, g_ixt, g_ixs, g_ixk, at0, at1, at2, at3, at4, st0, st1, st2, st3, st4, g_addi, g_i2, g_abs, g_neg, g_max2, g_min2, g_inti, g_intb, g_gt, g_lt, g_ge, g_le, g_ltS, g_lenl, g_lent, g_lens, g_lst, g_tup, g_listl, g_listt, g_tupl, g_tupt, g_addS, g_addT, g_addL, g_pow18, sz0, sz1, sz2, sz3, sz4, sz5, sz6, sz7, sz8, sz9, sz10, sz11, ne_bl, ge_int, ne_int, ge_str, ne_str, in_strs, in_strsT, gsl_tup, isi_bb, isi_bi, isi_ib, isi_ii, k_comp, k_comp1, k_comp2, k_yes, g_sum, g_count, g_rev, g_notB, g_isB, k_rm, k_rmL, k_rmS, k_rm2, k_rg1, k_ins, k_toImm, k_toImmI, m_pairs, m_bag, r_bag, n_bag, r_pairs, n_pairs, List.getElem?_cons_zero, List.getElem?_cons_succ, List.set_cons_zero, List.set_cons_succ, List.length_cons, List.length_nil, List.map_cons, List.map_nil, List.cons_append, List.nil_append, List.replicate_succ, List.replicate_zero, Option.map_some, Option.getD_some, Option.getD_none, Nat.reduceLT, Nat.reduceAdd, Nat.reduceSub, Nat.reduceEqDiff, if_true, if_false, Bool.and_true, Bool.true_and, Bool.false_eq_true, decide_eq_true_eq, and_self, and_true, true_and, Option.join_some, outsOf, Bool.and_self, Bool.not_true, Bool.not_false, Nat.zero_lt_succ, Nat.succ_lt_succ_iff, Nat.zero_add, reduceIte, g_ixA, g_ixAt, k_gtS2, k_gtS21, k_gtS22, k_setD2, k_lstH, k_compE, k_compE1, k_compE2, k_augI, k_augI0, k_augI1, k_zip, k_zip1, k_zipT, k_zipL, k_get2, k_get21, k_get22, k_get23, get2_tab, k_fz, k_fz1, k_toImmN, k_toImmS, k_fzD, k_fzD1, k_items, k_items1, k_keys, k_keys1, k_dAug, k_dAug0, k_dAug1, k_lo, k_lo1, lo_bag, lo_tup, g_tupX, m_tx, n_tx, r_tx, m_bagX, r_bagX, n_bagX, Int.reduceEq, Int.reduceLT, Int.reduceLE, Int.reduceNeg, decide_true, decide_false, gt_iff_lt, ge_iff_le, h1, g_mod (j := 2147483629) (by decide), g_mull (i := 104729) (by decide) (by decide), g_mull (i := 15485863) (by decide) (by decide), g_mulr (j := 48271) (by decide) (by decide), g_mod (j := 2147483647) (by decide)] at this ⊢
        exact this
    have hmi : isImms (ns.map D.int) = true := m_int'
    simp -implicitDefEqProofs only [ens_ok, k_var, k_look, k_take, k_take1, k_c, k_dnew, k_opt, k_bin, k_bin1, k_bin2, k_un, k_un1, k_imm, k_imm1, k_arg, k_arg1, k_anil, k_acons, k_acons1, k_acons2, k_val, k_val1, k_cnot, k_cnot1, k_cand, k_cand1, k_cor, k_cor1, k_eand, k_eand1, k_eor, k_eor1, k_enot, k_enot1, k_eif, k_eif1, k_onone, k_osome, k_osome1, k_sl, k_sl1, k_sl2, k_sl3, k_seq, k_seqn, k_seqr, k_seqb, k_seqc, k_snil, k_brk, k_cnt, k_retN, k_expr, k_expr1, k_ret, k_ret1, k_if, k_if1, k_set, k_set1, k_aug, k_aug1, k_aug2, k_asg, k_asg1, k_asg2, k_par, k_par1, k_gtName, k_gtNil, k_gtCons, k_gtK, k_gtTup, k_gtSet, k_gtSet1, k_gtSet2, k_call, k_call1, k_call2, k_apNil, k_apVal, k_apVal1, k_ap2, k_apPlc, k_apPlc1, k_callP, k_callP1, k_callP2, k_callP3, k_run, k_run1, k_run2, k_mt, k_mt1, k_mt2, k_mt3, k_mt4, k_app, k_itSeq, k_itSeq1, k_itEnum, k_itEnum1, k_itR1, k_itR11, k_itR2, k_itR21, k_for, k_for1, m_non, m_bl, m_int, m_str, m_tup, m_limm, m_lown, m_lbor, m_nil, m_cons, m_app, m_ints, m_int', m_strs, m_str', n_int, n_non, n_bl, n_str, n_tup, n_lown, n_limm, n_nil, n_cons, n_app, n_int', n_str', r_nil, r_cons, r_int, r_str, r_non, r_bl, r_tup, r_lown, r_limm, r_lbor, r_int', r_str', g_ixl, g_ixt, g_ixs, g_ixk, at0, at1, at2, at3, at4, st0, st1, st2, st3, st4, g_addi, g_i2, g_abs, g_neg, g_max2, g_min2, g_inti, g_intb, g_gt, g_lt, g_ge, g_le, g_ltS, g_lenl, g_lent, g_lens, g_lst, g_tup, g_listl, g_listt, g_tupl, g_tupt, g_addS, g_addT, g_addL, g_pow18, sz0, sz1, sz2, sz3, sz4, sz5, sz6, sz7, sz8, sz9, sz10, sz11, ne_bl, ge_int, ne_int, ge_str, ne_str, in_strs, in_strsT, gsl_tup, isi_bb, isi_bi, isi_ib, isi_ii, k_comp, k_comp1, k_comp2, k_yes, g_sum, g_count, g_rev, g_notB, g_isB, k_rm, k_rmL, k_rmS, k_rm2, k_rg1, k_ins, k_toImm, k_toImmI, m_pairs, m_bag, r_bag, n_bag, r_pairs, n_pairs, List.getElem?_cons_zero, List.getElem?_cons_succ, List.set_cons_zero, List.set_cons_succ, List.length_cons, List.length_nil, List.map_cons, List.map_nil, List.cons_append, List.nil_append, List.replicate_succ, List.replicate_zero, Option.map_some, Option.getD_some, Option.getD_none, Nat.reduceLT, Nat.reduceAdd, Nat.reduceSub, Nat.reduceEqDiff, if_true, if_false, Bool.and_true, Bool.true_and, Bool.false_eq_true, decide_eq_true_eq, and_self, and_true, true_and, Option.join_some, outsOf, Bool.and_self, Bool.not_true, Bool.not_false, Nat.zero_lt_succ, Nat.succ_lt_succ_iff, Nat.zero_add, reduceIte, g_ixA, g_ixAt, k_gtS2, k_gtS21, k_gtS22, k_setD2, k_lstH, k_compE, k_compE1, k_compE2, k_augI, k_augI0, k_augI1, k_zip, k_zip1, k_zipT, k_zipL, k_get2, k_get21, k_get22, k_get23, get2_tab, k_fz, k_fz1, k_toImmN, k_toImmS, k_fzD, k_fzD1, k_items, k_items1, k_keys, k_keys1, k_dAug, k_dAug0, k_dAug1, k_lo, k_lo1, lo_bag, lo_tup, g_tupX, m_tx, n_tx, r_tx, m_bagX, r_bagX, n_bagX, Int.reduceEq, Int.reduceLT, Int.reduceLE, Int.reduceNeg, decide_true, decide_false, gt_iff_lt, ge_iff_le, hmi, hsz0, List.length_map, hmany, g_mod hpos, hsz, hx, g_divs hpos (j := many) (by omega), hm, hr]
    refine ens_runK (ens_seqK ?_)
    refine ens_forL _ (fun n e => ∃ (y : Int) (o7 o8 : Option D), e = [some (scr ns), some (.int k), some (.lst .own (ns.map D.int ++ [.int 0])), some (.int many), some (.int x), some (.int (k / many)), some (.int y), o7, o8]) ⟨x, _, _, rfl⟩ ?_ ?_
    · rintro n d e hd ⟨y, o7, o8, rfl⟩
      refine ⟨_, rfl, ?_⟩
      simp -implicitDefEqProofs only [ens_ok, k_var, k_look, k_take, k_take1, k_c, k_dnew, k_opt, k_bin, k_bin1, k_bin2, k_un, k_un1, k_imm, k_imm1, k_arg, k_arg1, k_anil, k_acons, k_acons1, k_acons2, k_val, k_val1, k_cnot, k_cnot1, k_cand, k_cand1, k_cor, k_cor1, k_eand, k_eand1, k_eor, k_eor1, k_enot, k_enot1, k_eif, k_eif1, k_onone, k_osome, k_osome1, k_sl, k_sl1, k_sl2, k_sl3, k_seq, k_seqn, k_seqr, k_seqb, k_seqc, k_snil, k_brk, k_cnt, k_retN, k_expr, k_expr1, k_ret, k_ret1, k_if, k_if1, k_set, k_set1, k_aug, k_aug1, k_aug2, k_asg, k_asg1, k_asg2, k_par, k_par1, k_gtName, k_gtNil, k_gtCons, k_gtK, k_gtTup, k_gtSet, k_gtSet1, k_gtSet2, k_call, k_call1, k_call2, k_apNil, k_apVal, k_apVal1, k_ap2, k_apPlc, k_apPlc1, k_callP, k_callP1, k_callP2, k_callP3, k_run, k_run1, k_run2, k_mt, k_mt1, k_mt2, k_mt3, k_mt4, k_app, k_itSeq, k_itSeq1, k_itEnum, k_itEnum1, k_itR1, k_itR11, k_itR2, k_itR21, k_for, k_for1, m_non, m_bl, m_int, m_str, m_tup, m_limm, m_lown, m_lbor, m_nil, m_cons, m_app, m_ints, m_int', m_strs, m_str', n_int, n_non, n_bl, n_str, n_tup, n_lown, n_limm, n_nil, n_cons, n_app, n_int', n_str', r_nil, r_cons, r_int, r_str, r_non, r_bl, r_tup, r_lown, r_limm, r_lbor, r_int', r_str', g_ixl, g_ixt, g_ixs, g_ixk, at0, at1, at2, at3, at4, st0, st1, st2, st3, st4, g_addi, g_i2, g_abs, g_neg, g_max2, g_min2, g_inti, g_intb, g_gt, g_lt, g_ge, g_le, g_ltS, g_lenl, g_lent, g_lens, g_lst, g_tup, g_listl, g_listt, g_tupl, g_tupt, g_addS, g_addT, g_addL, g_pow18, sz0, sz1, sz2, sz3, sz4, sz5, sz6, sz7, sz8, sz9, sz10, sz11, ne_bl, ge_int, ne_int, ge_str, ne_str, in_strs, in_strsT, gsl_tup, isi_bb, isi_bi, isi_ib, isi_ii, k_comp, k_comp1, k_comp2, k_yes, g_sum, g_count, g_rev, g_notB, g_isB, k_rm, k_rmL, k_rmS, k_rm2, k_rg1, k_ins, k_toImm, k_toImmI, m_pairs, m_bag, r_bag, n_bag, r_pairs, n_pairs, List.getElem?_cons_zero, List.getElem?_cons_succ, List.set_cons_zero, List.set_cons_succ, List.length_cons, List.length_nil, List.map_cons, List.map_nil, List.cons_append, List.nil_append, List.replicate_succ, List.replicate_zero, Option.map_some, Option.getD_some, Option.getD_none, Nat.reduceLT, Nat.reduceAdd, Nat.reduceSub, Nat.reduceEqDiff, if_true, if_false, Bool.and_true, Bool.true_and, Bool.false_eq_true, decide_eq_true_eq, and_self, and_true, true_and, Option.join_some, outsOf, Bool.and_self, Bool.not_true, Bool.not_false, Nat.zero_lt_succ, Nat.succ_lt_succ_iff, Nat.zero_add, reduceIte, g_ixA, g_ixAt, k_gtS2, k_gtS21, k_gtS22, k_setD2, k_lstH, k_compE, k_compE1, k_compE2, k_augI, k_augI0, k_augI1, k_zip, k_zip1, k_zipT, k_zipL, k_get2, k_get21, k_get22, k_get23, get2_tab, k_fz, k_fz1, k_toImmN, k_toImmS, k_fzD, k_fzD1, k_items, k_items1, k_keys, k_keys1, k_dAug, k_dAug0, k_dAug1, k_lo, k_lo1, lo_bag, lo_tup, g_tupX, m_tx, n_tx, r_tx, m_bagX, r_bagX, n_bagX, Int.reduceEq, Int.reduceLT, Int.reduceLE, Int.reduceNeg, decide_true, decide_false, gt_iff_lt, ge_iff_le, g_divs (j := 1000000) (by decide) (by decide)]
      exact ⟨_, _, _, rfl⟩
    · rintro e ⟨y, o7, o8, rfl⟩
      exact rest y o7 o8
  obtain ⟨d, e, h, r, rfl, h2⟩ := ens_ex main
  exact ⟨r, e, h, h2⟩
end Lw

namespace Lw
open PySem L2 Vs
def sm8 : List Str := ["", "", "one", "zz", "b", "tie", "place", "lengthy"]
def menuP : List Str := ["p", "q", "pp", "pq", "qp", "qq", "ppq", "pqp", "qpp", "pqq", "qpq", "qqp", "pqpqpqpq"]
theorem sm8_az : ∀ w ∈ sm8, (codes w).length ≤ 8 ∧ AZ (codes w) := by
  have : ∀ w ∈ sm8, ((codes w).length ≤ 8 ∧ ∀ c ∈ codes w, 97 ≤ c ∧ c ≤ 122) := by decide +kernel
  exact this
theorem menuP_az : ∀ w ∈ menuP, AZ (codes w) := by
  have : ∀ w ∈ menuP, (∀ c ∈ codes w, 97 ≤ c ∧ c ≤ 122) := by decide +kernel
  exact this
theorem er_map {α β : Type} {f : α → β} : ∀ (xs : List α) (j : Nat), (xs.map f).eraseIdx j = (xs.eraseIdx j).map f
  | [], _ => rfl
  | _ :: _, 0 => rfl
  | x :: xs, j + 1 => by show f x :: (xs.map f).eraseIdx j = f x :: (xs.eraseIdx j).map f; rw [er_map xs j]
theorem az_ok {w : Str} (h : AZ (codes w)) : PyData.strOk w = true := strOk_of fun c hc => by have := h c hc; omega
theorem names_ok {ns : List Int} (hns : ns.length ≤ 63) {st : Int} (h0 : 0 ≤ st) (h1 : st < 1000) {many : Nat} (hm : many ≤ 6) : ∃ (ws : List Str) (e : SD), fn_law_names [scr ns, .int st, .int many] = .ok (.lst .own (ws.map .str)) e ∧ ws.length = many ∧ ∀ w ∈ ws, AZ (codes w) := by
  have main : Ens (fn_law_names [scr ns, .int st, .int many]) fun d _ => ∃ ws : List Str, d = .lst .own (ws.map .str) ∧ ws.length = many ∧ ∀ w ∈ ws, AZ (codes w) := by
    unfold fn_law_names b_law_names
    obtain ⟨first, _, ef, a0, b0⟩ := number_ok hns (k := st) (by omega) (by omega)
    have hrng : -(2 ^ 62) ≤ (many : Int) ∧ (many : Int) < 2 ^ 62 := by omega
    have hmt : ((many : Nat) : Int).toNat = many := by omega
    have hat : 0 ≤ first / 26 % 8 ∧ first / 26 % 8 < 8 := by omega
    have d1 : gDiv (.int first) (.int 26) = some (.int (first / 26)) := g_divs (by decide) (by decide)
    have d2 : gDiv (.int first) (.int 416) = some (.int (first / 416)) := g_divs (by decide) (by decide)
    have d3 : gDiv (.int first) (.int 208) = some (.int (first / 208)) := g_divs (by decide) (by decide)
    have hsm : D.lst .own [.str "", .str "", .str "one", .str "zz", .str "b", .str "tie", .str "place", .str "lengthy"] = .lst .own (sm8.map D.str) := rfl
    have hmn : D.lst .own [.str "p", .str "q", .str "pp", .str "pq", .str "qp", .str "qq", .str "ppq", .str "pqp", .str "qpp", .str "pqq", .str "qpq", .str "qqp", .str "pqpqpqpq"] = .lst .own (menuP.map D.str) := rfl
    have habc : (D.str "abcdefghijklmnopqrstuvwxyz") = .str abc := rfl
    have z13 : (13 : Nat) ≤ sizeLine := size_le (by decide)
    by_cases c3 : first / 416 % 4 = 3
    · simp -implicitDefEqProofs only [ens_ok, k_var, k_look, k_take, k_take1, k_c, k_dnew, k_opt, k_bin, k_bin1, k_bin2, k_un, k_un1, k_imm, k_imm1, k_arg, k_arg1, k_anil, k_acons, k_acons1, k_acons2, k_val, k_val1, k_cnot, k_cnot1, k_cand, k_cand1, k_cor, k_cor1, k_eand, k_eand1, k_eor, k_eor1, k_enot, k_enot1, k_eif, k_eif1, k_onone, k_osome, k_osome1, k_sl, k_sl1, k_sl2, k_sl3, k_seq, k_seqn, k_seqr, k_seqb, k_seqc, k_snil, k_brk, k_cnt, k_retN, k_expr, k_expr1, k_ret, k_ret1, k_if, k_if1, k_set, k_set1, k_aug, k_aug1, k_aug2, k_asg, k_asg1, k_asg2, k_par, k_par1, k_gtName, k_gtNil, k_gtCons, k_gtK, k_gtTup, k_gtSet, k_gtSet1, k_gtSet2, k_call, k_call1, k_call2, k_apNil, k_apVal, k_apVal1, k_ap2, k_apPlc, k_apPlc1, k_callP, k_callP1, k_callP2, k_callP3, k_run, k_run1, k_run2, k_mt, k_mt1, k_mt2, k_mt3, k_mt4, k_app, k_itSeq, k_itSeq1, k_itEnum, k_itEnum1, k_itR1, k_itR11, k_itR2, k_itR21, k_for, k_for1, m_non, m_bl, m_int, m_str, m_tup, m_limm, m_lown, m_lbor, m_nil, m_cons, m_app, m_ints, m_int', m_strs, m_str', n_int, n_non, n_bl, n_str, n_tup, n_lown, n_limm, n_nil, n_cons, n_app, n_int', n_str', r_nil, r_cons, r_int, r_str, r_non, r_bl, r_tup, r_lown, r_limm, r_lbor, r_int', r_str', g_ixl, g_ixt, g_ixs, g_ixk, at0, at1, at2, at3, at4, st0, st1, st2, st3, st4, g_addi, g_i2, g_abs, g_neg, g_max2, g_min2, g_inti, g_intb, g_gt, g_lt, g_ge, g_le, g_ltS, g_lenl, g_lent, g_lens, g_lst, g_tup, g_listl, g_listt, g_tupl, g_tupt, g_addS, g_addT, g_addL, g_pow18, sz0, sz1, sz2, sz3, sz4, sz5, sz6, sz7, sz8, sz9, sz10, sz11, ne_bl, ge_int, ne_int, ge_str, ne_str, in_strs, in_strsT, gsl_tup, isi_bb, isi_bi, isi_ib, isi_ii, k_comp, k_comp1, k_comp2, k_yes, g_sum, g_count, g_rev, g_notB, g_isB, k_rm, k_rmL, k_rmS, k_rm2, k_rg1, k_ins, k_toImm, k_toImmI, m_pairs, m_bag, r_bag, n_bag, r_pairs, n_pairs, List.getElem?_cons_zero, List.getElem?_cons_succ, List.set_cons_zero, List.set_cons_succ, List.length_cons, List.length_nil, List.map_cons, List.map_nil, List.cons_append, List.nil_append, List.replicate_succ, List.replicate_zero, Option.map_some, Option.getD_some, Option.getD_none, Nat.reduceLT, Nat.reduceAdd, Nat.reduceSub, Nat.reduceEqDiff, if_true, if_false, Bool.and_true, Bool.true_and, Bool.false_eq_true, decide_eq_true_eq, and_self, and_true, true_and, Option.join_some, outsOf, Bool.and_self, Bool.not_true, Bool.not_false, Nat.zero_lt_succ, Nat.succ_lt_succ_iff, Nat.zero_add, reduceIte, g_ixA, g_ixAt, k_gtS2, k_gtS21, k_gtS22, k_setD2, k_lstH, k_compE, k_compE1, k_compE2, k_augI, k_augI0, k_augI1, k_zip, k_zip1, k_zipT, k_zipL, k_get2, k_get21, k_get22, k_get23, get2_tab, k_fz, k_fz1, k_toImmN, k_toImmS, k_fzD, k_fzD1, k_items, k_items1, k_keys, k_keys1, k_dAug, k_dAug0, k_dAug1, k_lo, k_lo1, lo_bag, lo_tup, g_tupX, m_tx, n_tx, r_tx, m_bagX, r_bagX, n_bagX, Int.reduceEq, Int.reduceLT, Int.reduceLE, Int.reduceNeg, decide_true, decide_false, gt_iff_lt, ge_iff_le, ef, d1, d2, g_mod (j := 8) (by decide), g_mod (j := 4) (by decide), c3, hrng, hmt, z13]
      rw [hmn]
      generalize D.lst .own [.str "", .str "", .str "one", .str "zz", .str "b", .str "tie", .str "place", .str "lengthy"] = SM
      have comp : ∀ o9 o10 : Option D, Ens (compE [9] (gtName 9) cYes (eMt 8 chPopAt (aCons (eBin gMod (eCall 2 fn_law_number (aCons (eVar 0) (aCons (eBin gAdd (eBin gAdd (eVar 1) (eC (.int 1))) (eVar 9)) aNil))) (eUn gLen (eVar 8))) aNil)) (rangeD 0 many) [] [some (scr ns), some (.int st), some (.int many), some (.str "abcdefghijklmnopqrstuvwxyz"), some SM, some (.int first), some (.int (first / 26 % 8)), some (.lst .own []), some (.lst .own (menuP.map D.str)), o9, o10]) fun ds e => ∃ (ws : List Str), ds = ws.map D.str ∧ ws.length = many ∧ ∀ w ∈ ws, AZ (codes w) := by
        intro o9 o10
        refine ens_compE _ (fun k acc e => ∃ (ws left : List Str) (o9 : Option D), acc = ws.map D.str ∧ e = [some (scr ns), some (.int st), some (.int many), some (.str "abcdefghijklmnopqrstuvwxyz"), some SM, some (.int first), some (.int (first / 26 % 8)), some (.lst .own []), some (.lst .own (left.map D.str)), o9, o10] ∧ ws.length = k ∧ left.length + k = 13 ∧ (∀ w ∈ ws, AZ (codes w)) ∧ ∀ w ∈ left, AZ (codes w)) ⟨[], menuP, _, rfl, rfl, rfl, rfl, (fun _ h => nomatch h), menuP_az⟩ ?_ ?_
        · rintro k d acc e hd ⟨ws, left, o9, rfl, rfl, hk, hl, hw, hlf⟩
          obtain ⟨hkn, rfl⟩ := range_get hd
          obtain ⟨r, _, er, r0, r1⟩ := number_ok hns (k := st + 1 + (0 + (k : Int))) (by omega) (by omega)
          have hlp : (0 : Int) < ((left.length : Nat) : Int) := by omega
          have q0 : 0 ≤ r % ((left.length : Nat) : Int) := Int.emod_nonneg _ (by omega)
          have q1 : r % ((left.length : Nat) : Int) < ((left.length : Nat) : Int) := Int.emod_lt_of_pos _ hlp
          have gm := g_mod (i := r) hlp
          generalize r % ((left.length : Nat) : Int) = j at q0 q1 gm
          have hj : j.toNat < left.length := by omega
          have hget : (left.map D.str)[j.toNat]? = some (.str left[j.toNat]) := by rw [List.getElem?_map, List.getElem?_eq_getElem hj]; rfl
          have hpop := k_popAt (i := j) (k := j.toNat) (by omega) hget (by rw [List.length_map]; exact size_le (by omega))
          have hsz : ws.length < sizeLine := size_lt (by omega)
          refine ⟨_, rfl, ?_⟩
          simp -implicitDefEqProofs only [ens_ok, k_var, k_look, k_take, k_take1, k_c, k_dnew, k_opt, k_bin, k_bin1, k_bin2, k_un, k_un1, k_imm, k_imm1, k_arg, k_arg1, k_anil, k_acons, k_acons1, k_acons2, k_val, k_val1, k_cnot, k_cnot1, k_cand, k_cand1, k_cor, k_cor1, k_eand, k_eand1, k_eor, k_eor1, k_enot, k_enot1, k_eif, k_eif1, k_onone, k_osome, k_osome1, k_sl, k_sl1, k_sl2, k_sl3, k_seq, k_seqn, k_seqr, k_seqb, k_seqc, k_snil, k_brk, k_cnt, k_retN, k_expr, k_expr1, k_ret, k_ret1, k_if, k_if1, k_set, k_set1, k_aug, k_aug1, k_aug2, k_asg, k_asg1, k_asg2, k_par, k_par1, k_gtName, k_gtNil, k_gtCons, k_gtK, k_gtTup, k_gtSet, k_gtSet1, k_gtSet2, k_call, k_call1, k_call2, k_apNil, k_apVal, k_apVal1, k_ap2, k_apPlc, k_apPlc1, k_callP, k_callP1, k_callP2, k_callP3, k_run, k_run1, k_run2, k_mt, k_mt1, k_mt2, k_mt3, k_mt4, k_app, k_itSeq, k_itSeq1, k_itEnum, k_itEnum1, k_itR1, k_itR11, k_itR2, k_itR21, k_for, k_for1, m_non, m_bl, m_int, m_str, m_tup, m_limm, m_lown, m_lbor, m_nil, m_cons, m_app, m_ints, m_int', m_strs, m_str', n_int, n_non, n_bl, n_str, n_tup, n_lown, n_limm, n_nil, n_cons, n_app, n_int', n_str', r_nil, r_cons, r_int, r_str, r_non, r_bl, r_tup, r_lown, r_limm, r_lbor, r_int', r_str', g_ixl, g_ixt, g_ixs, g_ixk, at0, at1, at2, at3, at4, st0, st1, st2, st3, st4, g_addi, g_i2, g_abs, g_neg, g_max2, g_min2, g_inti, g_intb, g_gt, g_lt, g_ge, g_le, g_ltS, g_lenl, g_lent, g_lens, g_lst, g_tup, g_listl, g_listt, g_tupl, g_tupt, g_addS, g_addT, g_addL, g_pow18, sz0, sz1, sz2, sz3, sz4, sz5, sz6, sz7, sz8, sz9, sz10, sz11, ne_bl, ge_int, ne_int, ge_str, ne_str, in_strs, in_strsT, gsl_tup, isi_bb, isi_bi, isi_ib, isi_ii, k_comp, k_comp1, k_comp2, k_yes, g_sum, g_count, g_rev, g_notB, g_isB, k_rm, k_rmL, k_rmS, k_rm2, k_rg1, k_ins, k_toImm, k_toImmI, m_pairs, m_bag, r_bag, n_bag, r_pairs, n_pairs, List.getElem?_cons_zero, List.getElem?_cons_succ, List.set_cons_zero, List.set_cons_succ, List.length_cons, List.length_nil, List.map_cons, List.map_nil, List.cons_append, List.nil_append, List.replicate_succ, List.replicate_zero, Option.map_some, Option.getD_some, Option.getD_none, Nat.reduceLT, Nat.reduceAdd, Nat.reduceSub, Nat.reduceEqDiff, if_true, if_false, Bool.and_true, Bool.true_and, Bool.false_eq_true, decide_eq_true_eq, and_self, and_true, true_and, Option.join_some, outsOf, Bool.and_self, Bool.not_true, Bool.not_false, Nat.zero_lt_succ, Nat.succ_lt_succ_iff, Nat.zero_add, reduceIte, g_ixA, g_ixAt, k_gtS2, k_gtS21, k_gtS22, k_setD2, k_lstH, k_compE, k_compE1, k_compE2, k_augI, k_augI0, k_augI1, k_zip, k_zip1, k_zipT, k_zipL, k_get2, k_get21, k_get22, k_get23, get2_tab, k_fz, k_fz1, k_toImmN, k_toImmS, k_fzD, k_fzD1, k_items, k_items1, k_keys, k_keys1, k_dAug, k_dAug0, k_dAug1, k_lo, k_lo1, lo_bag, lo_tup, g_tupX, m_tx, n_tx, r_tx, m_bagX, r_bagX, n_bagX, Int.reduceEq, Int.reduceLT, Int.reduceLE, Int.reduceNeg, decide_true, decide_false, gt_iff_lt, ge_iff_le, wipeD, List.length_map, er, gm, hpop, hsz]
          refine ⟨ws ++ [left[j.toNat]], left.eraseIdx j.toNat, _, by rw [List.map_append]; rfl, by rw [er_map], by simp; omega, ?_, fun w hw' => ?_, fun w hw' => hlf w (List.mem_of_mem_eraseIdx hw')⟩
          · rw [List.length_eraseIdx, if_pos hj]; omega
          · rcases List.mem_append.mp hw' with h | h
            · exact hw w h
            · rw [List.mem_singleton.mp h]; exact hlf _ (List.getElem_mem hj)
        · rintro acc e ⟨ws, left, o9, rfl, rfl, hk, hl, hw, hlf⟩
          rw [range_len] at hk
          exact ⟨ws, rfl, hk, hw⟩
      obtain ⟨ds, e, hc, ws, rfl, hwl, hwa⟩ := ens_ex (comp none none)
      have hmw : isImms (ws.map D.str) = true := m_str'
      simp -implicitDefEqProofs only [ens_ok, k_var, k_look, k_take, k_take1, k_c, k_dnew, k_opt, k_bin, k_bin1, k_bin2, k_un, k_un1, k_imm, k_imm1, k_arg, k_arg1, k_anil, k_acons, k_acons1, k_acons2, k_val, k_val1, k_cnot, k_cnot1, k_cand, k_cand1, k_cor, k_cor1, k_eand, k_eand1, k_eor, k_eor1, k_enot, k_enot1, k_eif, k_eif1, k_onone, k_osome, k_osome1, k_sl, k_sl1, k_sl2, k_sl3, k_seq, k_seqn, k_seqr, k_seqb, k_seqc, k_snil, k_brk, k_cnt, k_retN, k_expr, k_expr1, k_ret, k_ret1, k_if, k_if1, k_set, k_set1, k_aug, k_aug1, k_aug2, k_asg, k_asg1, k_asg2, k_par, k_par1, k_gtName, k_gtNil, k_gtCons, k_gtK, k_gtTup, k_gtSet, k_gtSet1, k_gtSet2, k_call, k_call1, k_call2, k_apNil, k_apVal, k_apVal1, k_ap2, k_apPlc, k_apPlc1, k_callP, k_callP1, k_callP2, k_callP3, k_run, k_run1, k_run2, k_mt, k_mt1, k_mt2, k_mt3, k_mt4, k_app, k_itSeq, k_itSeq1, k_itEnum, k_itEnum1, k_itR1, k_itR11, k_itR2, k_itR21, k_for, k_for1, m_non, m_bl, m_int, m_str, m_tup, m_limm, m_lown, m_lbor, m_nil, m_cons, m_app, m_ints, m_int', m_strs, m_str', n_int, n_non, n_bl, n_str, n_tup, n_lown, n_limm, n_nil, n_cons, n_app, n_int', n_str', r_nil, r_cons, r_int, r_str, r_non, r_bl, r_tup, r_lown, r_limm, r_lbor, r_int', r_str', g_ixl, g_ixt, g_ixs, g_ixk, at0, at1, at2, at3, at4, st0, st1, st2, st3, st4, g_addi, g_i2, g_abs, g_neg, g_max2, g_min2, g_inti, g_intb, g_gt, g_lt, g_ge, g_le, g_ltS, g_lenl, g_lent, g_lens, g_lst, g_tup, g_listl, g_listt, g_tupl, g_tupt, g_addS, g_addT, g_addL, g_pow18, sz0, sz1, sz2, sz3, sz4, sz5, sz6, sz7, sz8, sz9, sz10, sz11, ne_bl, ge_int, ne_int, ge_str, ne_str, in_strs, in_strsT, gsl_tup, isi_bb, isi_bi, isi_ib, isi_ii, k_comp, k_comp1, k_comp2, k_yes, g_sum, g_count, g_rev, g_notB, g_isB, k_rm, k_rmL, k_rmS, k_rm2, k_rg1, k_ins, k_toImm, k_toImmI, m_pairs, m_bag, r_bag, n_bag, r_pairs, n_pairs, List.getElem?_cons_zero, List.getElem?_cons_succ, List.set_cons_zero, List.set_cons_succ, List.length_cons, List.length_nil, List.map_cons, List.map_nil, List.cons_append, List.nil_append, List.replicate_succ, List.replicate_zero, Option.map_some, Option.getD_some, Option.getD_none, Nat.reduceLT, Nat.reduceAdd, Nat.reduceSub, Nat.reduceEqDiff, if_true, if_false, Bool.and_true, Bool.true_and, Bool.false_eq_true, decide_eq_true_eq, and_self, and_true, true_and, Option.join_some, outsOf, Bool.and_self, Bool.not_true, Bool.not_false, Nat.zero_lt_succ, Nat.succ_lt_succ_iff, Nat.zero_add, reduceIte, g_ixA, g_ixAt, k_gtS2, k_gtS21, k_gtS22, k_setD2, k_lstH, k_compE, k_compE1, k_compE2, k_augI, k_augI0, k_augI1, k_zip, k_zip1, k_zipT, k_zipL, k_get2, k_get21, k_get22, k_get23, get2_tab, k_fz, k_fz1, k_toImmN, k_toImmS, k_fzD, k_fzD1, k_items, k_items1, k_keys, k_keys1, k_dAug, k_dAug0, k_dAug1, k_lo, k_lo1, lo_bag, lo_tup, g_tupX, m_tx, n_tx, r_tx, m_bagX, r_bagX, n_bagX, Int.reduceEq, Int.reduceLT, Int.reduceLE, Int.reduceNeg, decide_true, decide_false, gt_iff_lt, ge_iff_le, hc, unwipe, noBors_imm hmw]
      exact ⟨ws, rfl, hwl, hwa⟩
    · simp -implicitDefEqProofs only [ens_ok, k_var, k_look, k_take, k_take1, k_c, k_dnew, k_opt, k_bin, k_bin1, k_bin2, k_un, k_un1, k_imm, k_imm1, k_arg, k_arg1, k_anil, k_acons, k_acons1, k_acons2, k_val, k_val1, k_cnot, k_cnot1, k_cand, k_cand1, k_cor, k_cor1, k_eand, k_eand1, k_eor, k_eor1, k_enot, k_enot1, k_eif, k_eif1, k_onone, k_osome, k_osome1, k_sl, k_sl1, k_sl2, k_sl3, k_seq, k_seqn, k_seqr, k_seqb, k_seqc, k_snil, k_brk, k_cnt, k_retN, k_expr, k_expr1, k_ret, k_ret1, k_if, k_if1, k_set, k_set1, k_aug, k_aug1, k_aug2, k_asg, k_asg1, k_asg2, k_par, k_par1, k_gtName, k_gtNil, k_gtCons, k_gtK, k_gtTup, k_gtSet, k_gtSet1, k_gtSet2, k_call, k_call1, k_call2, k_apNil, k_apVal, k_apVal1, k_ap2, k_apPlc, k_apPlc1, k_callP, k_callP1, k_callP2, k_callP3, k_run, k_run1, k_run2, k_mt, k_mt1, k_mt2, k_mt3, k_mt4, k_app, k_itSeq, k_itSeq1, k_itEnum, k_itEnum1, k_itR1, k_itR11, k_itR2, k_itR21, k_for, k_for1, m_non, m_bl, m_int, m_str, m_tup, m_limm, m_lown, m_lbor, m_nil, m_cons, m_app, m_ints, m_int', m_strs, m_str', n_int, n_non, n_bl, n_str, n_tup, n_lown, n_limm, n_nil, n_cons, n_app, n_int', n_str', r_nil, r_cons, r_int, r_str, r_non, r_bl, r_tup, r_lown, r_limm, r_lbor, r_int', r_str', g_ixl, g_ixt, g_ixs, g_ixk, at0, at1, at2, at3, at4, st0, st1, st2, st3, st4, g_addi, g_i2, g_abs, g_neg, g_max2, g_min2, g_inti, g_intb, g_gt, g_lt, g_ge, g_le, g_ltS, g_lenl, g_lent, g_lens, g_lst, g_tup, g_listl, g_listt, g_tupl, g_tupt, g_addS, g_addT, g_addL, g_pow18, sz0, sz1, sz2, sz3, sz4, sz5, sz6, sz7, sz8, sz9, sz10, sz11, ne_bl, ge_int, ne_int, ge_str, ne_str, in_strs, in_strsT, gsl_tup, isi_bb, isi_bi, isi_ib, isi_ii, k_comp, k_comp1, k_comp2, k_yes, g_sum, g_count, g_rev, g_notB, g_isB, k_rm, k_rmL, k_rmS, k_rm2, k_rg1, k_ins, k_toImm, k_toImmI, m_pairs, m_bag, r_bag, n_bag, r_pairs, n_pairs, List.getElem?_cons_zero, List.getElem?_cons_succ, List.set_cons_zero, List.set_cons_succ, List.length_cons, List.length_nil, List.map_cons, List.map_nil, List.cons_append, List.nil_append, List.replicate_succ, List.replicate_zero, Option.map_some, Option.getD_some, Option.getD_none, Nat.reduceLT, Nat.reduceAdd, Nat.reduceSub, Nat.reduceEqDiff, if_true, if_false, Bool.and_true, Bool.true_and, Bool.false_eq_true, decide_eq_true_eq, and_self, and_true, true_and, Option.join_some, outsOf, Bool.and_self, Bool.not_true, Bool.not_false, Nat.zero_lt_succ, Nat.succ_lt_succ_iff, Nat.zero_add, reduceIte, g_ixA, g_ixAt, k_gtS2, k_gtS21, k_gtS22, k_setD2, k_lstH, k_compE, k_compE1, k_compE2, k_augI, k_augI0, k_augI1, k_zip, k_zip1, k_zipT, k_zipL, k_get2, k_get21, k_get22, k_get23, get2_tab, k_fz, k_fz1, k_toImmN, k_toImmS, k_fzD, k_fzD1, k_items, k_items1, k_keys, k_keys1, k_dAug, k_dAug0, k_dAug1, k_lo, k_lo1, lo_bag, lo_tup, g_tupX, m_tx, n_tx, r_tx, m_bagX, r_bagX, n_bagX, Int.reduceEq, Int.reduceLT, Int.reduceLE, Int.reduceNeg, decide_true, decide_false, gt_iff_lt, ge_iff_le, ef, d1, d2, g_mod (j := 8) (by decide), g_mod (j := 4) (by decide), c3, hrng, hmt, z13]
      rw [hsm]
      generalize D.lst .own [.str "p", .str "q", .str "pp", .str "pq", .str "qp", .str "qq", .str "ppq", .str "pqp", .str "qpp", .str "pqq", .str "qpq", .str "qqp", .str "pqpqpqpq"] = MN
      have hnil : D.lst .own [] = .lst .own (([] : List Str).map D.str) := rfl
      rw [hnil, habc]
      refine ens_runK (ens_seqK ?_)
      refine ens_forL _ (fun k e => ∃ (ws : List Str) (o9 o10 : Option D), e = [some (scr ns), some (.int st), some (.int many), some (.str abc), some (.lst .own (sm8.map D.str)), some (.int first), some (.int (first / 26 % 8)), some (.lst .own (ws.map D.str)), some MN, o9, o10] ∧ ws.length = k ∧ ∀ w ∈ ws, AZ (codes w)) ⟨[], _, _, rfl, rfl, (fun _ h => nomatch h)⟩ ?_ ?_
      · rintro k d e hd ⟨ws, o9, o10, rfl, hk, hw⟩
        obtain ⟨hkn, rfl⟩ := range_get hd
        have hkm : k < many := by omega
        have hb : 0 ≤ first / 208 % 2 ∧ first / 208 % 2 < 2 := by omega
        have m1 : gMul1 (.int (0 + (k : Int))) (.int (first / 208 % 2)) = some (.int ((0 + (k : Int)) * (first / 208 % 2))) := g_mulr (by omega) (by omega)
        have hkb : 0 ≤ (0 + (k : Int)) * (first / 208 % 2) ∧ (0 + (k : Int)) * (first / 208 % 2) ≤ 6 := by
          rcases (by omega : first / 208 % 2 = 0 ∨ first / 208 % 2 = 1) with h | h <;> rw [h] <;> omega
        obtain ⟨r, _, er, r0, r1⟩ := number_ok hns (k := st + 1 + (0 + (k : Int)) * (first / 208 % 2)) (by omega) (by omega)
        have q0 : 0 ≤ r % 8 ∧ r % 8 < 8 := by omega
        obtain ⟨w, hix, hwm⟩ : ∃ w, gIxU (.lst .own (sm8.map D.str)) (.int (r % 8)) = some (.str w) ∧ w ∈ sm8 := by
          have hl : (r % 8).toNat < sm8.length := by show _ < 8; omega
          refine ⟨sm8[(r % 8).toNat], ?_, List.getElem_mem hl⟩
          rw [g_ixl, at_get q0.1, List.getElem?_map, List.getElem?_eq_getElem hl]; rfl
        obtain ⟨hwl, hwa⟩ := sm8_az w hwm
        have hwsz : w.length ≤ sizeLine := size_le (by rw [codes_len]; omega)
        have m2 : gMul1 (.int 5) (.int (0 + (k : Int))) = some (.int (5 * (0 + (k : Int)))) := g_mull (by decide) (by decide)
        have l0 : 0 ≤ (first + 5 * (0 + (k : Int))) % 26 := Int.emod_nonneg _ (by decide)
        have l1 : (first + 5 * (0 + (k : Int))) % 26 < 26 := Int.emod_lt_of_pos _ (by decide)
        have hlet := ix_abc l0 l1
        have gm26 := g_mod (i := first + 5 * (0 + (k : Int))) (j := 26) (by decide)
        generalize (first + 5 * (0 + (k : Int))) % 26 = lt at l0 l1 hlet gm26
        have s1 := gsl_str (lo := none) (hi := some (first / 26 % 8)) hwsz
        have s2 := gsl_str (lo := some (first / 26 % 8)) (hi := none) hwsz
        have q1 : (codes (cutS w none (some (first / 26 % 8)))).length ≤ (codes w).length := cut_len
        have q2 : (codes (cutS w (some (first / 26 % 8)) none)).length ≤ (codes w).length := cut_len
        have hL : codes ⟨#[97 + lt.toNat]⟩ = [97 + lt.toNat] := rfl
        have hLl : (⟨#[97 + lt.toNat]⟩ : Str).length = 1 := rfl
        have a1 : gAdd (.str (cutS w none (some (first / 26 % 8)))) (.str ⟨#[97 + lt.toNat]⟩) = some (.str (cutS w none (some (first / 26 % 8)) ++ ⟨#[97 + lt.toNat]⟩)) := by
          rw [g_addS, if_pos (size_le (by rw [hLl, codes_len]; omega))]
        have a2 : gAdd (.str (cutS w none (some (first / 26 % 8)) ++ ⟨#[97 + lt.toNat]⟩)) (.str (cutS w (some (first / 26 % 8)) none)) = some (.str (cutS w none (some (first / 26 % 8)) ++ ⟨#[97 + lt.toNat]⟩ ++ cutS w (some (first / 26 % 8)) none)) := by
          rw [g_addS, if_pos (size_le (by rw [codes_len, codes_len, codes_app, List.length_append, hL]; simp only [List.length_cons, List.length_nil]; omega))]
        have azL : AZ [97 + lt.toNat] := fun c hc => by
          have : c = 97 + lt.toNat := by simpa using hc
          omega
        have haz : AZ (codes (cutS w none (some (first / 26 % 8)) ++ ⟨#[97 + lt.toNat]⟩ ++ cutS w (some (first / 26 % 8)) none)) := by
          rw [codes_app, codes_app, hL]; exact AZ.app (AZ.app (AZ.cut hwa) azL) (AZ.cut hwa)
        generalize cutS w none (some (first / 26 % 8)) ++ ⟨#[97 + lt.toNat]⟩ ++ cutS w (some (first / 26 % 8)) none = nm at a2 haz
        have hap : chApp (ws.map D.str) [.str nm] = some (.non, (ws ++ [nm]).map D.str) := by
          rw [k_app, if_pos ⟨rfl, size_lt (by rw [List.length_map]; omega)⟩, List.map_append]; rfl
        have hmw : isImms (ws.map D.str) = true := m_str'
        refine ⟨_, rfl, ?_⟩
        simp -implicitDefEqProofs only [ens_ok, k_var, k_look, k_take, k_take1, k_c, k_dnew, k_opt, k_bin, k_bin1, k_bin2, k_un, k_un1, k_imm, k_imm1, k_arg, k_arg1, k_anil, k_acons, k_acons1, k_acons2, k_val, k_val1, k_cnot, k_cnot1, k_cand, k_cand1, k_cor, k_cor1, k_eand, k_eand1, k_eor, k_eor1, k_enot, k_enot1, k_eif, k_eif1, k_onone, k_osome, k_osome1, k_sl, k_sl1, k_sl2, k_sl3, k_seq, k_seqn, k_seqr, k_seqb, k_seqc, k_snil, k_brk, k_cnt, k_retN, k_expr, k_expr1, k_ret, k_ret1, k_if, k_if1, k_set, k_set1, k_aug, k_aug1, k_aug2, k_asg, k_asg1, k_asg2, k_par, k_par1, k_gtName, k_gtNil, k_gtCons, k_gtK, k_gtTup, k_gtSet, k_gtSet1, k_gtSet2, k_call, k_call1, k_call2, k_apNil, k_apVal, k_apVal1, k_ap2, k_apPlc, k_apPlc1, k_callP, k_callP1, k_callP2, k_callP3, k_run, k_run1, k_run2, k_mt, k_mt1, k_mt2, k_mt3, k_mt4, k_app, k_itSeq, k_itSeq1, k_itEnum, k_itEnum1, k_itR1, k_itR11, k_itR2, k_itR21, k_for, k_for1, m_non, m_bl, m_int, m_str, m_tup, m_limm, m_lown, m_lbor, m_nil, m_cons, m_app, m_ints, m_int', m_strs, m_str', n_int, n_non, n_bl, n_str, n_tup, n_lown, n_limm, n_nil, n_cons, n_app, n_int', n_str', r_nil, r_cons, r_int, r_str, r_non, r_bl, r_tup, r_lown, r_limm, r_lbor, r_int', r_str', g_ixl, g_ixt, g_ixs, g_ixk, at0, at1, at2, at3, at4, st0, st1, st2, st3, st4, g_addi, g_i2, g_abs, g_neg, g_max2, g_min2, g_inti, g_intb, g_gt, g_lt, g_ge, g_le, g_ltS, g_lenl, g_lent, g_lens, g_lst, g_tup, g_listl, g_listt, g_tupl, g_tupt, g_addS, g_addT, g_addL, g_pow18, sz0, sz1, sz2, sz3, sz4, sz5, sz6, sz7, sz8, sz9, sz10, sz11, ne_bl, ge_int, ne_int, ge_str, ne_str, in_strs, in_strsT, gsl_tup, isi_bb, isi_bi, isi_ib, isi_ii, k_comp, k_comp1, k_comp2, k_yes, g_sum, g_count, g_rev, g_notB, g_isB, k_rm, k_rmL, k_rmS, k_rm2, k_rg1, k_ins, k_toImm, k_toImmI, m_pairs, m_bag, r_bag, n_bag, r_pairs, n_pairs, List.getElem?_cons_zero, List.getElem?_cons_succ, List.set_cons_zero, List.set_cons_succ, List.length_cons, List.length_nil, List.map_cons, List.map_nil, List.cons_append, List.nil_append, List.replicate_succ, List.replicate_zero, Option.map_some, Option.getD_some, Option.getD_none, Nat.reduceLT, Nat.reduceAdd, Nat.reduceSub, Nat.reduceEqDiff, if_true, if_false, Bool.and_true, Bool.true_and, Bool.false_eq_true, decide_eq_true_eq, and_self, and_true, true_and, Option.join_some, outsOf, Bool.and_self, Bool.not_true, Bool.not_false, Nat.zero_lt_succ, Nat.succ_lt_succ_iff, Nat.zero_add, reduceIte, g_ixA, g_ixAt, k_gtS2, k_gtS21, k_gtS22, k_setD2, k_lstH, k_compE, k_compE1, k_compE2, k_augI, k_augI0, k_augI1, k_zip, k_zip1, k_zipT, k_zipL, k_get2, k_get21, k_get22, k_get23, get2_tab, k_fz, k_fz1, k_toImmN, k_toImmS, k_fzD, k_fzD1, k_items, k_items1, k_keys, k_keys1, k_dAug, k_dAug0, k_dAug1, k_lo, k_lo1, lo_bag, lo_tup, g_tupX, m_tx, n_tx, r_tx, m_bagX, r_bagX, n_bagX, Int.reduceEq, Int.reduceLT, Int.reduceLE, Int.reduceNeg, decide_true, decide_false, gt_iff_lt, ge_iff_le, d3, g_mod (j := 2) (by decide), m1, er, g_mod (j := 8) (by decide), hix, s1, s2, m2, gm26, hlet, a1, a2, hmw, hap]
        refine ⟨ws ++ [nm], _, _, rfl, by rw [List.length_append, hk]; rfl, fun v hv => ?_⟩
        rcases List.mem_append.mp hv with h | h
        · exact hw v h
        · rw [List.mem_singleton.mp h]; exact haz
      · rintro e ⟨ws, o9, o10, rfl, hk, hw⟩
        rw [range_len] at hk
        have hmw : isImms (ws.map D.str) = true := m_str'
        simp -implicitDefEqProofs only [ens_ok, k_var, k_look, k_take, k_take1, k_c, k_dnew, k_opt, k_bin, k_bin1, k_bin2, k_un, k_un1, k_imm, k_imm1, k_arg, k_arg1, k_anil, k_acons, k_acons1, k_acons2, k_val, k_val1, k_cnot, k_cnot1, k_cand, k_cand1, k_cor, k_cor1, k_eand, k_eand1, k_eor, k_eor1, k_enot, k_enot1, k_eif, k_eif1, k_onone, k_osome, k_osome1, k_sl, k_sl1, k_sl2, k_sl3, k_seq, k_seqn, k_seqr, k_seqb, k_seqc, k_snil, k_brk, k_cnt, k_retN, k_expr, k_expr1, k_ret, k_ret1, k_if, k_if1, k_set, k_set1, k_aug, k_aug1, k_aug2, k_asg, k_asg1, k_asg2, k_par, k_par1, k_gtName, k_gtNil, k_gtCons, k_gtK, k_gtTup, k_gtSet, k_gtSet1, k_gtSet2, k_call, k_call1, k_call2, k_apNil, k_apVal, k_apVal1, k_ap2, k_apPlc, k_apPlc1, k_callP, k_callP1, k_callP2, k_callP3, k_run, k_run1, k_run2, k_mt, k_mt1, k_mt2, k_mt3, k_mt4, k_app, k_itSeq, k_itSeq1, k_itEnum, k_itEnum1, k_itR1, k_itR11, k_itR2, k_itR21, k_for, k_for1, m_non, m_bl, m_int, m_str, m_tup, m_limm, m_lown, m_lbor, m_nil, m_cons, m_app, m_ints, m_int', m_strs, m_str', n_int, n_non, n_bl, n_str, n_tup, n_lown, n_limm, n_nil, n_cons, n_app, n_int', n_str', r_nil, r_cons, r_int, r_str, r_non, r_bl, r_tup, r_lown, r_limm, r_lbor, r_int', r_str', g_ixl, g_ixt, g_ixs, g_ixk, at0, at1, at2, at3, at4, st0, st1, st2, st3, st4, g_addi, g_i2, g_abs, g_neg, g_max2, g_min2, g_inti, g_intb, g_gt, g_lt, g_ge, g_le, g_ltS, g_lenl, g_lent, g_lens, g_lst, g_tup, g_listl, g_listt, g_tupl, g_tupt, g_addS, g_addT, g_addL, g_pow18, sz0, sz1, sz2, sz3, sz4, sz5, sz6, sz7, sz8, sz9, sz10, sz11, ne_bl, ge_int, ne_int, ge_str, ne_str, in_strs, in_strsT, gsl_tup, isi_bb, isi_bi, isi_ib, isi_ii, k_comp, k_comp1, k_comp2, k_yes, g_sum, g_count, g_rev, g_notB, g_isB, k_rm, k_rmL, k_rmS, k_rm2, k_rg1, k_ins, k_toImm, k_toImmI, m_pairs, m_bag, r_bag, n_bag, r_pairs, n_pairs, List.getElem?_cons_zero, List.getElem?_cons_succ, List.set_cons_zero, List.set_cons_succ, List.length_cons, List.length_nil, List.map_cons, List.map_nil, List.cons_append, List.nil_append, List.replicate_succ, List.replicate_zero, Option.map_some, Option.getD_some, Option.getD_none, Nat.reduceLT, Nat.reduceAdd, Nat.reduceSub, Nat.reduceEqDiff, if_true, if_false, Bool.and_true, Bool.true_and, Bool.false_eq_true, decide_eq_true_eq, and_self, and_true, true_and, Option.join_some, outsOf, Bool.and_self, Bool.not_true, Bool.not_false, Nat.zero_lt_succ, Nat.succ_lt_succ_iff, Nat.zero_add, reduceIte, g_ixA, g_ixAt, k_gtS2, k_gtS21, k_gtS22, k_setD2, k_lstH, k_compE, k_compE1, k_compE2, k_augI, k_augI0, k_augI1, k_zip, k_zip1, k_zipT, k_zipL, k_get2, k_get21, k_get22, k_get23, get2_tab, k_fz, k_fz1, k_toImmN, k_toImmS, k_fzD, k_fzD1, k_items, k_items1, k_keys, k_keys1, k_dAug, k_dAug0, k_dAug1, k_lo, k_lo1, lo_bag, lo_tup, g_tupX, m_tx, n_tx, r_tx, m_bagX, r_bagX, n_bagX, Int.reduceEq, Int.reduceLT, Int.reduceLE, Int.reduceNeg, decide_true, decide_false, gt_iff_lt, ge_iff_le, noBors_imm hmw]
        exact ⟨ws, rfl, hk, hw⟩
  obtain ⟨d, e, h, ws, rfl, h2⟩ := ens_ex main
  exact ⟨ws, e, h, h2⟩
end Lw

namespace Lw
open PySem L2 Vs
theorem rep_flat {α : Type} (x : α) : ∀ n : Nat, (List.replicate n [x]).flatten = List.replicate n x
  | 0 => rfl
  | n + 1 => by rw [List.replicate_succ, List.flatten_cons, rep_flat x n]; rfl
theorem mul_one1 {x : D} {k : Int} (hx : isImm x = true) (h0 : 0 ≤ k) (h1 : k ≤ 1000) : gMul1 (.lst .own [x]) (.int k) = some (.lst .own (List.replicate k.toNat x)) := by
  show (if isImms [x] = true ∧ Md.own ≠ Md.imm ∧ -(2 ^ 63) ≤ k ∧ k < 2 ^ 63 ∧ [x].length * k.toNat ≤ sizeLine then some (D.lst .own (List.replicate k.toNat [x]).flatten) else none) = _
  rw [if_pos ⟨by rw [m_cons, hx]; rfl, (fun h => nomatch h), by omega, by omega, size_le (by show 1 * _ ≤ _; omega)⟩, rep_flat]
structure BagW (ps : Tab) : Prop where
  az : ∀ w ∈ keysP ps, AZ (codes w)
  cnt : ∀ p ∈ ps, 1 ≤ p.2 ∧ p.2 ≤ 100
  len : ps.length ≤ 6
theorem bag_ok {ns : List Int} (hns : ns.length ≤ 63) {st : Int} (h0 : 0 ≤ st) (h1 : st < 500) {most : Nat} (hm : 6 ≤ most) (hm2 : most ≤ 100) : ∃ (ps : Tab) (e : SD), fn_law_bag [scr ns, .int st, .int most] = .ok (bagX ps) e ∧ BagW ps := by
  have main : Ens (fn_law_bag [scr ns, .int st, .int most]) fun d _ => ∃ ps : Tab, d = bagX ps ∧ BagW ps := by
    unfold fn_law_bag b_law_bag
    obtain ⟨head, _, eh, a0, b0⟩ := number_ok hns (k := st) (by omega) (by omega)
    obtain ⟨many, hmany⟩ : ∃ many : Nat, head % 7 = many := ⟨(head % 7).toNat, by omega⟩
    have hmn : many ≤ 6 := by omega
    obtain ⟨ws0, e0, en, hwl0, hwa0⟩ := names_ok hns (st := st + 1) (by omega) (by omega) hmn
    have hsort : gSortU (.lst .own (ws0.map D.str)) = some (.lst .own ((sortS ws0).map D.str)) := sort_lstS (size_le (by omega)) fun w hw => az_ok (hwa0 w hw)
    obtain ⟨ws, hws⟩ : ∃ ws, ws = sortS ws0 := ⟨_, rfl⟩
    have hwl : ws.length = many := by rw [hws, sortS_len, hwl0]
    have hwa : ∀ w ∈ ws, AZ (codes w) := fun w hw => hwa0 w (sortS_mem.mp (by rw [← hws]; exact hw))
    rw [← hws] at hsort
    have hrng : -(2 ^ 62) ≤ (many : Int) ∧ (many : Int) < 2 ^ 62 := by omega
    have hmt : ((many : Nat) : Int).toNat = many := by omega
    have d7 : gDiv (.int head) (.int 7) = some (.int (head / 7)) := g_divs (by decide) (by decide)
    obtain ⟨way, hway, hway0, hway1⟩ : ∃ way : Int, head / 7 % 4 = way ∧ 0 ≤ way ∧ way < 4 := ⟨_, rfl, by omega, by omega⟩
    have gw : gMod (.int (head / 7)) (.int 4) = some (.int way) := by rw [g_mod (by decide), hway]
    have gm7 : gMod (.int head) (.int 7) = some (.int (many : Int)) := by rw [g_mod (by decide), hmany]
    have fin : ∀ (cs : List Int) (o7 o8 o9 o10 o11 o12 o13 : Option D), cs.length = many → (∀ c ∈ cs, 1 ≤ c ∧ c ≤ 100) → Ens (sSeq (sFz 6) (sSeq (sFz 5) (sRet (eUn gTupleX (eComp [12, 13] (itZipS (eVar 5) (eVar 6)) (gtTup 2 (gtCons (gtName 12) (gtCons (gtName 13) gtNil))) cYes (eArgs gTup (aCons (eVar 12) (aCons (eVar 13) aNil)))))))
        [some (scr ns), some (.int st), some (.int most), some (.int head), some (.int many), some (.lst .own (ws.map D.str)), some (.lst .own (cs.map D.int)), o7, o8, o9, o10, o11, o12, o13]) fun fl e => match fl with
        | .rt d => noBor d = true ∧ ∃ ps : Tab, d = bagX ps ∧ BagW ps
        | .nx => ∃ ps : Tab, D.non = bagX ps ∧ BagW ps
        | _ => False := by
      intro cs o7 o8 o9 o10 o11 o12 o13 hcl hcb
      have hm1 : isImms (ws.map D.str) = true := m_str'
      have hm2 : isImms (cs.map D.int) = true := m_int'
      have hz : zipD (ws.map D.str) (cs.map D.int) = (ws.zip cs).map pairD := zip_pairs
      have hcomp : ∀ o7 o8 o9 o10 o11 o12 o13 : Option D, compL [12, 13] (gtTup 2 (gtCons (gtName 12) (gtCons (gtName 13) gtNil))) cYes (eArgs gTup (aCons (eVar 12) (aCons (eVar 13) aNil))) [some (scr ns), some (.int st), some (.int most), some (.int head), some (.int many), some (.lst .imm (ws.map D.str)), some (.lst .imm (cs.map D.int)), o7, o8, o9, o10, o11, o12, o13] ((ws.zip cs).map pairD) = some ((ws.zip cs).map pairD) := by
        intro o7 o8 o9 o10 o11 o12 o13
        rw [comp_all (fun p : Str × Int => pairD p) fun p hp => ⟨_, rfl, _, rfl, rfl⟩]
      have hk : keysP (ws.zip cs) = ws := by unfold keysP; rw [List.map_fst_zip (by omega)]
      have hv : (ws.zip cs).map (·.2) = cs := by rw [List.map_snd_zip (by omega)]
      have hlz : (ws.zip cs).length ≤ sizeLine := size_le (by rw [List.length_zip]; omega)
      have hmp : isImms ((ws.zip cs).map pairD) = true := m_pairs
      simp -implicitDefEqProofs only [ens_ok, k_var, k_look, k_take, k_take1, k_c, k_dnew, k_opt, k_bin, k_bin1, k_bin2, k_un, k_un1, k_imm, k_imm1, k_arg, k_arg1, k_anil, k_acons, k_acons1, k_acons2, k_val, k_val1, k_cnot, k_cnot1, k_cand, k_cand1, k_cor, k_cor1, k_eand, k_eand1, k_eor, k_eor1, k_enot, k_enot1, k_eif, k_eif1, k_onone, k_osome, k_osome1, k_sl, k_sl1, k_sl2, k_sl3, k_seq, k_seqn, k_seqr, k_seqb, k_seqc, k_snil, k_brk, k_cnt, k_retN, k_expr, k_expr1, k_ret, k_ret1, k_if, k_if1, k_set, k_set1, k_aug, k_aug1, k_aug2, k_asg, k_asg1, k_asg2, k_par, k_par1, k_gtName, k_gtNil, k_gtCons, k_gtK, k_gtTup, k_gtSet, k_gtSet1, k_gtSet2, k_call, k_call1, k_call2, k_apNil, k_apVal, k_apVal1, k_ap2, k_apPlc, k_apPlc1, k_callP, k_callP1, k_callP2, k_callP3, k_run, k_run1, k_run2, k_mt, k_mt1, k_mt2, k_mt3, k_mt4, k_app, k_itSeq, k_itSeq1, k_itEnum, k_itEnum1, k_itR1, k_itR11, k_itR2, k_itR21, k_for, k_for1, m_non, m_bl, m_int, m_str, m_tup, m_limm, m_lown, m_lbor, m_nil, m_cons, m_app, m_ints, m_int', m_strs, m_str', n_int, n_non, n_bl, n_str, n_tup, n_lown, n_limm, n_nil, n_cons, n_app, n_int', n_str', r_nil, r_cons, r_int, r_str, r_non, r_bl, r_tup, r_lown, r_limm, r_lbor, r_int', r_str', g_ixl, g_ixt, g_ixs, g_ixk, at0, at1, at2, at3, at4, st0, st1, st2, st3, st4, g_addi, g_i2, g_abs, g_neg, g_max2, g_min2, g_inti, g_intb, g_gt, g_lt, g_ge, g_le, g_ltS, g_lenl, g_lent, g_lens, g_lst, g_tup, g_listl, g_listt, g_tupl, g_tupt, g_addS, g_addT, g_addL, g_pow18, sz0, sz1, sz2, sz3, sz4, sz5, sz6, sz7, sz8, sz9, sz10, sz11, ne_bl, ge_int, ne_int, ge_str, ne_str, in_strs, in_strsT, gsl_tup, isi_bb, isi_bi, isi_ib, isi_ii, k_comp, k_comp1, k_comp2, k_yes, g_sum, g_count, g_rev, g_notB, g_isB, k_rm, k_rmL, k_rmS, k_rm2, k_rg1, k_ins, k_toImm, k_toImmI, m_pairs, m_bag, r_bag, n_bag, r_pairs, n_pairs, List.getElem?_cons_zero, List.getElem?_cons_succ, List.set_cons_zero, List.set_cons_succ, List.length_cons, List.length_nil, List.map_cons, List.map_nil, List.cons_append, List.nil_append, List.replicate_succ, List.replicate_zero, Option.map_some, Option.getD_some, Option.getD_none, Nat.reduceLT, Nat.reduceAdd, Nat.reduceSub, Nat.reduceEqDiff, if_true, if_false, Bool.and_true, Bool.true_and, Bool.false_eq_true, decide_eq_true_eq, and_self, and_true, true_and, Option.join_some, outsOf, Bool.and_self, Bool.not_true, Bool.not_false, Nat.zero_lt_succ, Nat.succ_lt_succ_iff, Nat.zero_add, reduceIte, g_ixA, g_ixAt, k_gtS2, k_gtS21, k_gtS22, k_setD2, k_lstH, k_compE, k_compE1, k_compE2, k_augI, k_augI0, k_augI1, k_zip, k_zip1, k_zipT, k_zipL, k_get2, k_get21, k_get22, k_get23, get2_tab, k_fz, k_fz1, k_toImmN, k_toImmS, k_fzD, k_fzD1, k_items, k_items1, k_keys, k_keys1, k_dAug, k_dAug0, k_dAug1, k_lo, k_lo1, lo_bag, lo_tup, g_tupX, m_tx, n_tx, r_tx, m_bagX, r_bagX, n_bagX, Int.reduceEq, Int.reduceLT, Int.reduceLE, Int.reduceNeg, decide_true, decide_false, gt_iff_lt, ge_iff_le, hm1, hm2, hz, hcomp, List.length_map, hlz, hmp]
      exact ⟨ws.zip cs, rfl, ⟨by rw [hk]; exact hwa, fun p hp => hcb p.2 (by rw [← hv]; exact List.mem_map_of_mem hp), by rw [List.length_zip]; omega⟩⟩
    generalize (sSeq (sFz 6) (sSeq (sFz 5) (sRet (eUn gTupleX (eComp [12, 13] (itZipS (eVar 5) (eVar 6)) (gtTup 2 (gtCons (gtName 12) (gtCons (gtName 13) gtNil))) cYes (eArgs gTup (aCons (eVar 12) (aCons (eVar 13) aNil)))))))) = REST at fin ⊢
    simp -implicitDefEqProofs only [ens_ok, k_var, k_look, k_take, k_take1, k_c, k_dnew, k_opt, k_bin, k_bin1, k_bin2, k_un, k_un1, k_imm, k_imm1, k_arg, k_arg1, k_anil, k_acons, k_acons1, k_acons2, k_val, k_val1, k_cnot, k_cnot1, k_cand, k_cand1, k_cor, k_cor1, k_eand, k_eand1, k_eor, k_eor1, k_enot, k_enot1, k_eif, k_eif1, k_onone, k_osome, k_osome1, k_sl, k_sl1, k_sl2, k_sl3, k_seq, k_seqn, k_seqr, k_seqb, k_seqc, k_snil, k_brk, k_cnt, k_retN, k_expr, k_expr1, k_ret, k_ret1, k_if, k_if1, k_set, k_set1, k_aug, k_aug1, k_aug2, k_asg, k_asg1, k_asg2, k_par, k_par1, k_gtName, k_gtNil, k_gtCons, k_gtK, k_gtTup, k_gtSet, k_gtSet1, k_gtSet2, k_call, k_call1, k_call2, k_apNil, k_apVal, k_apVal1, k_ap2, k_apPlc, k_apPlc1, k_callP, k_callP1, k_callP2, k_callP3, k_run, k_run1, k_run2, k_mt, k_mt1, k_mt2, k_mt3, k_mt4, k_app, k_itSeq, k_itSeq1, k_itEnum, k_itEnum1, k_itR1, k_itR11, k_itR2, k_itR21, k_for, k_for1, m_non, m_bl, m_int, m_str, m_tup, m_limm, m_lown, m_lbor, m_nil, m_cons, m_app, m_ints, m_int', m_strs, m_str', n_int, n_non, n_bl, n_str, n_tup, n_lown, n_limm, n_nil, n_cons, n_app, n_int', n_str', r_nil, r_cons, r_int, r_str, r_non, r_bl, r_tup, r_lown, r_limm, r_lbor, r_int', r_str', g_ixl, g_ixt, g_ixs, g_ixk, at0, at1, at2, at3, at4, st0, st1, st2, st3, st4, g_addi, g_i2, g_abs, g_neg, g_max2, g_min2, g_inti, g_intb, g_gt, g_lt, g_ge, g_le, g_ltS, g_lenl, g_lent, g_lens, g_lst, g_tup, g_listl, g_listt, g_tupl, g_tupt, g_addS, g_addT, g_addL, g_pow18, sz0, sz1, sz2, sz3, sz4, sz5, sz6, sz7, sz8, sz9, sz10, sz11, ne_bl, ge_int, ne_int, ge_str, ne_str, in_strs, in_strsT, gsl_tup, isi_bb, isi_bi, isi_ib, isi_ii, k_comp, k_comp1, k_comp2, k_yes, g_sum, g_count, g_rev, g_notB, g_isB, k_rm, k_rmL, k_rmS, k_rm2, k_rg1, k_ins, k_toImm, k_toImmI, m_pairs, m_bag, r_bag, n_bag, r_pairs, n_pairs, List.getElem?_cons_zero, List.getElem?_cons_succ, List.set_cons_zero, List.set_cons_succ, List.length_cons, List.length_nil, List.map_cons, List.map_nil, List.cons_append, List.nil_append, List.replicate_succ, List.replicate_zero, Option.map_some, Option.getD_some, Option.getD_none, Nat.reduceLT, Nat.reduceAdd, Nat.reduceSub, Nat.reduceEqDiff, if_true, if_false, Bool.and_true, Bool.true_and, Bool.false_eq_true, decide_eq_true_eq, and_self, and_true, true_and, Option.join_some, outsOf, Bool.and_self, Bool.not_true, Bool.not_false, Nat.zero_lt_succ, Nat.succ_lt_succ_iff, Nat.zero_add, reduceIte, g_ixA, g_ixAt, k_gtS2, k_gtS21, k_gtS22, k_setD2, k_lstH, k_compE, k_compE1, k_compE2, k_augI, k_augI0, k_augI1, k_zip, k_zip1, k_zipT, k_zipL, k_get2, k_get21, k_get22, k_get23, get2_tab, k_fz, k_fz1, k_toImmN, k_toImmS, k_fzD, k_fzD1, k_items, k_items1, k_keys, k_keys1, k_dAug, k_dAug0, k_dAug1, k_lo, k_lo1, lo_bag, lo_tup, g_tupX, m_tx, n_tx, r_tx, m_bagX, r_bagX, n_bagX, Int.reduceEq, Int.reduceLT, Int.reduceLE, Int.reduceNeg, decide_true, decide_false, gt_iff_lt, ge_iff_le, eh, gm7, en, hsort, hrng, hmt]
    have hnil : D.lst .own [] = .lst .own (([] : List Int).map D.int) := rfl
    rw [hnil]
    refine ens_runK (ens_seqK ?_)
    refine ens_forL _ (fun k e => ∃ (cs : List Int) (o7 o8 o9 : Option D), e = [some (scr ns), some (.int st), some (.int most), some (.int head), some (.int many), some (.lst .own (ws.map D.str)), some (.lst .own (cs.map D.int)), o7, o8, o9, none, none, none, none] ∧ cs.length = k ∧ (∀ c ∈ cs, 1 ≤ c ∧ c ≤ 100) ∧ 0 ≤ cs.sum ∧ cs.sum + many ≤ most + k) ⟨[], _, _, _, rfl, rfl, (fun _ h => nomatch h), Int.le_refl _, by show (0 : Int) + _ ≤ _; omega⟩ ?_ ?_
    · rintro k d e hd ⟨cs, o7, o8, o9, rfl, hck, hcb, hcs0, hcs⟩
      obtain ⟨hk, rfl⟩ := range_get hd
      have hkm : k < many := by omega
      obtain ⟨left, hleft⟩ : ∃ left : Int, (most : Int) - cs.sum - (many : Int) + 1 + (0 + (k : Int)) = left := ⟨_, rfl⟩
      have hl1 : 1 ≤ left := by omega
      have hl2 : left ≤ 200 := by omega
      have m2 : gMul1 (.int 2) (.int (many : Int)) = some (.int (2 * (many : Int))) := g_mull (by decide) (by decide)
      have dm : gDiv (.int (most : Int)) (.int (2 * (many : Int))) = some (.int ((most : Int) / (2 * (many : Int)))) := g_divs (by omega) (by omega)
      obtain ⟨q, hq, hq1⟩ : ∃ q : Int, (if 1 < (most : Int) / (2 * (many : Int)) then (most : Int) / (2 * (many : Int)) else 1) = q ∧ 1 ≤ q := ⟨_, rfl, by split <;> omega⟩
      obtain ⟨wide, hwide, hwd⟩ : ∃ wide : Int, atI [D.int 2, .int 3, .int left, .int q] way = some (.int wide) ∧ 1 ≤ wide := by
        have : way = 0 ∨ way = 1 ∨ way = 2 ∨ way = 3 := by omega
        rcases this with h | h | h | h <;> rw [h]
        · exact ⟨2, at0, by decide⟩
        · exact ⟨3, at1, by decide⟩
        · exact ⟨left, at2, hl1⟩
        · exact ⟨q, at3, hq1⟩
      obtain ⟨mm, hmm, hmm1, hmm2⟩ : ∃ mm : Int, (if left < wide then left else wide) = mm ∧ 1 ≤ mm ∧ mm ≤ left := ⟨_, rfl, by split <;> omega, by split <;> omega⟩
      obtain ⟨r, _, er, r0, r1⟩ := number_ok hns (k := st + 10 + (0 + (k : Int))) (by omega) (by omega)
      have z0 : 0 ≤ r % mm := Int.emod_nonneg _ (by omega)
      have z1 : r % mm < mm := Int.emod_lt_of_pos _ (by omega)
      have gmm := g_mod (i := r) (j := mm) (by omega)
      generalize r % mm = z at z0 z1 gmm
      have hap : chApp (cs.map D.int) [.int (1 + z)] = some (.non, (cs ++ [1 + z]).map D.int) := by
        rw [k_app, if_pos ⟨rfl, size_lt (by rw [List.length_map]; omega)⟩, List.map_append]; rfl
      have hmc : isImms (cs.map D.int) = true := m_int'
      refine ⟨_, rfl, ?_⟩
      simp -implicitDefEqProofs only [ens_ok, k_var, k_look, k_take, k_take1, k_c, k_dnew, k_opt, k_bin, k_bin1, k_bin2, k_un, k_un1, k_imm, k_imm1, k_arg, k_arg1, k_anil, k_acons, k_acons1, k_acons2, k_val, k_val1, k_cnot, k_cnot1, k_cand, k_cand1, k_cor, k_cor1, k_eand, k_eand1, k_eor, k_eor1, k_enot, k_enot1, k_eif, k_eif1, k_onone, k_osome, k_osome1, k_sl, k_sl1, k_sl2, k_sl3, k_seq, k_seqn, k_seqr, k_seqb, k_seqc, k_snil, k_brk, k_cnt, k_retN, k_expr, k_expr1, k_ret, k_ret1, k_if, k_if1, k_set, k_set1, k_aug, k_aug1, k_aug2, k_asg, k_asg1, k_asg2, k_par, k_par1, k_gtName, k_gtNil, k_gtCons, k_gtK, k_gtTup, k_gtSet, k_gtSet1, k_gtSet2, k_call, k_call1, k_call2, k_apNil, k_apVal, k_apVal1, k_ap2, k_apPlc, k_apPlc1, k_callP, k_callP1, k_callP2, k_callP3, k_run, k_run1, k_run2, k_mt, k_mt1, k_mt2, k_mt3, k_mt4, k_app, k_itSeq, k_itSeq1, k_itEnum, k_itEnum1, k_itR1, k_itR11, k_itR2, k_itR21, k_for, k_for1, m_non, m_bl, m_int, m_str, m_tup, m_limm, m_lown, m_lbor, m_nil, m_cons, m_app, m_ints, m_int', m_strs, m_str', n_int, n_non, n_bl, n_str, n_tup, n_lown, n_limm, n_nil, n_cons, n_app, n_int', n_str', r_nil, r_cons, r_int, r_str, r_non, r_bl, r_tup, r_lown, r_limm, r_lbor, r_int', r_str', g_ixl, g_ixt, g_ixs, g_ixk, at0, at1, at2, at3, at4, st0, st1, st2, st3, st4, g_addi, g_i2, g_abs, g_neg, g_max2, g_min2, g_inti, g_intb, g_gt, g_lt, g_ge, g_le, g_ltS, g_lenl, g_lent, g_lens, g_lst, g_tup, g_listl, g_listt, g_tupl, g_tupt, g_addS, g_addT, g_addL, g_pow18, sz0, sz1, sz2, sz3, sz4, sz5, sz6, sz7, sz8, sz9, sz10, sz11, ne_bl, ge_int, ne_int, ge_str, ne_str, in_strs, in_strsT, gsl_tup, isi_bb, isi_bi, isi_ib, isi_ii, k_comp, k_comp1, k_comp2, k_yes, g_sum, g_count, g_rev, g_notB, g_isB, k_rm, k_rmL, k_rmS, k_rm2, k_rg1, k_ins, k_toImm, k_toImmI, m_pairs, m_bag, r_bag, n_bag, r_pairs, n_pairs, List.getElem?_cons_zero, List.getElem?_cons_succ, List.set_cons_zero, List.set_cons_succ, List.length_cons, List.length_nil, List.map_cons, List.map_nil, List.cons_append, List.nil_append, List.replicate_succ, List.replicate_zero, Option.map_some, Option.getD_some, Option.getD_none, Nat.reduceLT, Nat.reduceAdd, Nat.reduceSub, Nat.reduceEqDiff, if_true, if_false, Bool.and_true, Bool.true_and, Bool.false_eq_true, decide_eq_true_eq, and_self, and_true, true_and, Option.join_some, outsOf, Bool.and_self, Bool.not_true, Bool.not_false, Nat.zero_lt_succ, Nat.succ_lt_succ_iff, Nat.zero_add, reduceIte, g_ixA, g_ixAt, k_gtS2, k_gtS21, k_gtS22, k_setD2, k_lstH, k_compE, k_compE1, k_compE2, k_augI, k_augI0, k_augI1, k_zip, k_zip1, k_zipT, k_zipL, k_get2, k_get21, k_get22, k_get23, get2_tab, k_fz, k_fz1, k_toImmN, k_toImmS, k_fzD, k_fzD1, k_items, k_items1, k_keys, k_keys1, k_dAug, k_dAug0, k_dAug1, k_lo, k_lo1, lo_bag, lo_tup, g_tupX, m_tx, n_tx, r_tx, m_bagX, r_bagX, n_bagX, Int.reduceEq, Int.reduceLT, Int.reduceLE, Int.reduceNeg, decide_true, decide_false, gt_iff_lt, ge_iff_le, hleft, m2, dm, hq, d7, gw, hwide, hmm, er, gmm, hmc, hap]
      refine ⟨cs ++ [1 + z], _, _, _, rfl, by rw [List.length_append, hck]; rfl, fun c hc => ?_, ?_, ?_⟩
      · rcases List.mem_append.mp hc with h | h
        · exact hcb c h
        · rw [List.mem_singleton.mp h]; omega
      · rw [List.sum_append]; simp; omega
      · rw [List.sum_append]; simp; omega
    · rintro e ⟨cs, o7, o8, o9, rfl, hck, hcb, hcs0, hcs⟩
      rw [range_len] at hck
      by_cases c3 : way = 3
      · by_cases c4 : (0 : Int) < (many : Int)
        · obtain ⟨r, _, er, r0, r1⟩ := number_ok hns (k := st + 16) (by omega) (by omega)
          obtain ⟨r2, _, er2, r20, r21⟩ := number_ok hns (k := st + 17) (by omega) (by omega)
          have z0 : 0 ≤ r % (many : Int) := Int.emod_nonneg _ (by omega)
          have z1 : r % (many : Int) < (many : Int) := Int.emod_lt_of_pos _ (by omega)
          have gmm := g_mod (i := r) (j := (many : Int)) (by omega)
          generalize r % (many : Int) = at' at z0 z1 gmm
          have hj : at'.toNat < cs.length := by omega
          have hget : (cs.map D.int)[at'.toNat]? = some (.int cs[at'.toNat]) := by rw [List.getElem?_map, List.getElem?_eq_getElem hj]; rfl
          have hix : gIxU (.lst .own (cs.map D.int)) (.int at') = some (.int cs[at'.toNat]) := by rw [g_ixl, at_get z0, hget]; rfl
          have hcj := hcb _ (List.getElem_mem hj)
          have hle : cs[at'.toNat] ≤ cs.sum := by
            have := sum_set hj 0
            have h2 : 0 ≤ (cs.set at'.toNat 0).sum := by
              have : ∀ l : List Int, (∀ c ∈ l, 0 ≤ c) → 0 ≤ l.sum := by
                intro l
                induction l with
                | nil => intro _; exact Int.le_refl _
                | cons x l ih =>
                  intro h
                  have a := h x List.mem_cons_self
                  have b := ih fun c m => h c (List.mem_cons_of_mem _ m)
                  rw [List.sum_cons]; omega
              refine this _ fun c hc => ?_
              rcases List.mem_or_eq_of_mem_set hc with h | h
              · have := hcb c h; omega
              · omega
            omega
          obtain ⟨v, hv, hv1, hv2⟩ : ∃ v : Int, (if 1 < (if cs.sum - cs[at'.toNat] + r2 % 5 - 1 < (most : Int) - (cs.sum - cs[at'.toNat]) then cs.sum - cs[at'.toNat] + r2 % 5 - 1 else (most : Int) - (cs.sum - cs[at'.toNat])) then (if cs.sum - cs[at'.toNat] + r2 % 5 - 1 < (most : Int) - (cs.sum - cs[at'.toNat]) then cs.sum - cs[at'.toNat] + r2 % 5 - 1 else (most : Int) - (cs.sum - cs[at'.toNat])) else 1) = v ∧ 1 ≤ v ∧ v ≤ 100 := by
            refine ⟨_, rfl, ?_⟩
            split <;> split <;> omega
          have hset : (cs.map D.int).set at'.toNat (.int v) = (cs.set at'.toNat v).map D.int := by rw [List.map_set]
          have := fin (cs.set at'.toNat v) o7 o8 o9 (some (.int at')) (some (.int (cs.sum - cs[at'.toNat]))) none none (by rw [List.length_set]; omega) (fun c hc => by
            rcases List.mem_or_eq_of_mem_set hc with h | h
            · exact hcb c h
            · omega)
          simp -implicitDefEqProofs only [ens_ok, k_var, k_look, k_take, k_take1, k_c, k_dnew, k_opt, k_bin, k_bin1, k_bin2, k_un, k_un1, k_imm, k_imm1, k_arg, k_arg1, k_anil, k_acons, k_acons1, k_acons2, k_val, k_val1, k_cnot, k_cnot1, k_cand, k_cand1, k_cor, k_cor1, k_eand, k_eand1, k_eor, k_eor1, k_enot, k_enot1, k_eif, k_eif1, k_onone, k_osome, k_osome1, k_sl, k_sl1, k_sl2, k_sl3, k_seq, k_seqn, k_seqr, k_seqb, k_seqc, k_snil, k_brk, k_cnt, k_retN, k_expr, k_expr1, k_ret, k_ret1, k_if, k_if1, k_set, k_set1, k_aug, k_aug1, k_aug2, k_asg, k_asg1, k_asg2, k_par, k_par1, k_gtName, k_gtNil, k_gtCons, k_gtK, k_gtTup, k_gtSet, k_gtSet1, k_gtSet2, k_call, k_call1, k_call2, k_apNil, k_apVal, k_apVal1, k_ap2, k_apPlc, k_apPlc1, k_callP, k_callP1, k_callP2, k_callP3, k_run, k_run1, k_run2, k_mt, k_mt1, k_mt2, k_mt3, k_mt4, k_app, k_itSeq, k_itSeq1, k_itEnum, k_itEnum1, k_itR1, k_itR11, k_itR2, k_itR21, k_for, k_for1, m_non, m_bl, m_int, m_str, m_tup, m_limm, m_lown, m_lbor, m_nil, m_cons, m_app, m_ints, m_int', m_strs, m_str', n_int, n_non, n_bl, n_str, n_tup, n_lown, n_limm, n_nil, n_cons, n_app, n_int', n_str', r_nil, r_cons, r_int, r_str, r_non, r_bl, r_tup, r_lown, r_limm, r_lbor, r_int', r_str', g_ixl, g_ixt, g_ixs, g_ixk, at0, at1, at2, at3, at4, st0, st1, st2, st3, st4, g_addi, g_i2, g_abs, g_neg, g_max2, g_min2, g_inti, g_intb, g_gt, g_lt, g_ge, g_le, g_ltS, g_lenl, g_lent, g_lens, g_lst, g_tup, g_listl, g_listt, g_tupl, g_tupt, g_addS, g_addT, g_addL, g_pow18, sz0, sz1, sz2, sz3, sz4, sz5, sz6, sz7, sz8, sz9, sz10, sz11, ne_bl, ge_int, ne_int, ge_str, ne_str, in_strs, in_strsT, gsl_tup, isi_bb, isi_bi, isi_ib, isi_ii, k_comp, k_comp1, k_comp2, k_yes, g_sum, g_count, g_rev, g_notB, g_isB, k_rm, k_rmL, k_rmS, k_rm2, k_rg1, k_ins, k_toImm, k_toImmI, m_pairs, m_bag, r_bag, n_bag, r_pairs, n_pairs, List.getElem?_cons_zero, List.getElem?_cons_succ, List.set_cons_zero, List.set_cons_succ, List.length_cons, List.length_nil, List.map_cons, List.map_nil, List.cons_append, List.nil_append, List.replicate_succ, List.replicate_zero, Option.map_some, Option.getD_some, Option.getD_none, Nat.reduceLT, Nat.reduceAdd, Nat.reduceSub, Nat.reduceEqDiff, if_true, if_false, Bool.and_true, Bool.true_and, Bool.false_eq_true, decide_eq_true_eq, and_self, and_true, true_and, Option.join_some, outsOf, Bool.and_self, Bool.not_true, Bool.not_false, Nat.zero_lt_succ, Nat.succ_lt_succ_iff, Nat.zero_add, reduceIte, g_ixA, g_ixAt, k_gtS2, k_gtS21, k_gtS22, k_setD2, k_lstH, k_compE, k_compE1, k_compE2, k_augI, k_augI0, k_augI1, k_zip, k_zip1, k_zipT, k_zipL, k_get2, k_get21, k_get22, k_get23, get2_tab, k_fz, k_fz1, k_toImmN, k_toImmS, k_fzD, k_fzD1, k_items, k_items1, k_keys, k_keys1, k_dAug, k_dAug0, k_dAug1, k_lo, k_lo1, lo_bag, lo_tup, g_tupX, m_tx, n_tx, r_tx, m_bagX, r_bagX, n_bagX, Int.reduceEq, Int.reduceLT, Int.reduceLE, Int.reduceNeg, decide_true, decide_false, gt_iff_lt, ge_iff_le, d7, gw, c3, c4, er, gmm, hix, er2, g_mod (j := 5) (by decide), hv, set_get (i := at') (k := at'.toNat) (by omega), hget, Option.bind_some, hset]
          exact this
        · have := fin cs o7 o8 o9 none none none none (by omega) hcb
          simp -implicitDefEqProofs only [ens_ok, k_var, k_look, k_take, k_take1, k_c, k_dnew, k_opt, k_bin, k_bin1, k_bin2, k_un, k_un1, k_imm, k_imm1, k_arg, k_arg1, k_anil, k_acons, k_acons1, k_acons2, k_val, k_val1, k_cnot, k_cnot1, k_cand, k_cand1, k_cor, k_cor1, k_eand, k_eand1, k_eor, k_eor1, k_enot, k_enot1, k_eif, k_eif1, k_onone, k_osome, k_osome1, k_sl, k_sl1, k_sl2, k_sl3, k_seq, k_seqn, k_seqr, k_seqb, k_seqc, k_snil, k_brk, k_cnt, k_retN, k_expr, k_expr1, k_ret, k_ret1, k_if, k_if1, k_set, k_set1, k_aug, k_aug1, k_aug2, k_asg, k_asg1, k_asg2, k_par, k_par1, k_gtName, k_gtNil, k_gtCons, k_gtK, k_gtTup, k_gtSet, k_gtSet1, k_gtSet2, k_call, k_call1, k_call2, k_apNil, k_apVal, k_apVal1, k_ap2, k_apPlc, k_apPlc1, k_callP, k_callP1, k_callP2, k_callP3, k_run, k_run1, k_run2, k_mt, k_mt1, k_mt2, k_mt3, k_mt4, k_app, k_itSeq, k_itSeq1, k_itEnum, k_itEnum1, k_itR1, k_itR11, k_itR2, k_itR21, k_for, k_for1, m_non, m_bl, m_int, m_str, m_tup, m_limm, m_lown, m_lbor, m_nil, m_cons, m_app, m_ints, m_int', m_strs, m_str', n_int, n_non, n_bl, n_str, n_tup, n_lown, n_limm, n_nil, n_cons, n_app, n_int', n_str', r_nil, r_cons, r_int, r_str, r_non, r_bl, r_tup, r_lown, r_limm, r_lbor, r_int', r_str', g_ixl, g_ixt, g_ixs, g_ixk, at0, at1, at2, at3, at4, st0, st1, st2, st3, st4, g_addi, g_i2, g_abs, g_neg, g_max2, g_min2, g_inti, g_intb, g_gt, g_lt, g_ge, g_le, g_ltS, g_lenl, g_lent, g_lens, g_lst, g_tup, g_listl, g_listt, g_tupl, g_tupt, g_addS, g_addT, g_addL, g_pow18, sz0, sz1, sz2, sz3, sz4, sz5, sz6, sz7, sz8, sz9, sz10, sz11, ne_bl, ge_int, ne_int, ge_str, ne_str, in_strs, in_strsT, gsl_tup, isi_bb, isi_bi, isi_ib, isi_ii, k_comp, k_comp1, k_comp2, k_yes, g_sum, g_count, g_rev, g_notB, g_isB, k_rm, k_rmL, k_rmS, k_rm2, k_rg1, k_ins, k_toImm, k_toImmI, m_pairs, m_bag, r_bag, n_bag, r_pairs, n_pairs, List.getElem?_cons_zero, List.getElem?_cons_succ, List.set_cons_zero, List.set_cons_succ, List.length_cons, List.length_nil, List.map_cons, List.map_nil, List.cons_append, List.nil_append, List.replicate_succ, List.replicate_zero, Option.map_some, Option.getD_some, Option.getD_none, Nat.reduceLT, Nat.reduceAdd, Nat.reduceSub, Nat.reduceEqDiff, if_true, if_false, Bool.and_true, Bool.true_and, Bool.false_eq_true, decide_eq_true_eq, and_self, and_true, true_and, Option.join_some, outsOf, Bool.and_self, Bool.not_true, Bool.not_false, Nat.zero_lt_succ, Nat.succ_lt_succ_iff, Nat.zero_add, reduceIte, g_ixA, g_ixAt, k_gtS2, k_gtS21, k_gtS22, k_setD2, k_lstH, k_compE, k_compE1, k_compE2, k_augI, k_augI0, k_augI1, k_zip, k_zip1, k_zipT, k_zipL, k_get2, k_get21, k_get22, k_get23, get2_tab, k_fz, k_fz1, k_toImmN, k_toImmS, k_fzD, k_fzD1, k_items, k_items1, k_keys, k_keys1, k_dAug, k_dAug0, k_dAug1, k_lo, k_lo1, lo_bag, lo_tup, g_tupX, m_tx, n_tx, r_tx, m_bagX, r_bagX, n_bagX, Int.reduceEq, Int.reduceLT, Int.reduceLE, Int.reduceNeg, decide_true, decide_false, gt_iff_lt, ge_iff_le, d7, gw, c3, c4]
          exact this
      · have := fin cs o7 o8 o9 none none none none (by omega) hcb
        simp -implicitDefEqProofs only [ens_ok, k_var, k_look, k_take, k_take1, k_c, k_dnew, k_opt, k_bin, k_bin1, k_bin2, k_un, k_un1, k_imm, k_imm1, k_arg, k_arg1, k_anil, k_acons, k_acons1, k_acons2, k_val, k_val1, k_cnot, k_cnot1, k_cand, k_cand1, k_cor, k_cor1, k_eand, k_eand1, k_eor, k_eor1, k_enot, k_enot1, k_eif, k_eif1, k_onone, k_osome, k_osome1, k_sl, k_sl1, k_sl2, k_sl3, k_seq, k_seqn, k_seqr, k_seqb, k_seqc, k_snil, k_brk, k_cnt, k_retN, k_expr, k_expr1, k_ret, k_ret1, k_if, k_if1, k_set, k_set1, k_aug, k_aug1, k_aug2, k_asg, k_asg1, k_asg2, k_par, k_par1, k_gtName, k_gtNil, k_gtCons, k_gtK, k_gtTup, k_gtSet, k_gtSet1, k_gtSet2, k_call, k_call1, k_call2, k_apNil, k_apVal, k_apVal1, k_ap2, k_apPlc, k_apPlc1, k_callP, k_callP1, k_callP2, k_callP3, k_run, k_run1, k_run2, k_mt, k_mt1, k_mt2, k_mt3, k_mt4, k_app, k_itSeq, k_itSeq1, k_itEnum, k_itEnum1, k_itR1, k_itR11, k_itR2, k_itR21, k_for, k_for1, m_non, m_bl, m_int, m_str, m_tup, m_limm, m_lown, m_lbor, m_nil, m_cons, m_app, m_ints, m_int', m_strs, m_str', n_int, n_non, n_bl, n_str, n_tup, n_lown, n_limm, n_nil, n_cons, n_app, n_int', n_str', r_nil, r_cons, r_int, r_str, r_non, r_bl, r_tup, r_lown, r_limm, r_lbor, r_int', r_str', g_ixl, g_ixt, g_ixs, g_ixk, at0, at1, at2, at3, at4, st0, st1, st2, st3, st4, g_addi, g_i2, g_abs, g_neg, g_max2, g_min2, g_inti, g_intb, g_gt, g_lt, g_ge, g_le, g_ltS, g_lenl, g_lent, g_lens, g_lst, g_tup, g_listl, g_listt, g_tupl, g_tupt, g_addS, g_addT, g_addL, g_pow18, sz0, sz1, sz2, sz3, sz4, sz5, sz6, sz7, sz8, sz9, sz10, sz11, ne_bl, ge_int, ne_int, ge_str, ne_str, in_strs, in_strsT, gsl_tup, isi_bb, isi_bi, isi_ib, isi_ii, k_comp, k_comp1, k_comp2, k_yes, g_sum, g_count, g_rev, g_notB, g_isB, k_rm, k_rmL, k_rmS, k_rm2, k_rg1, k_ins, k_toImm, k_toImmI, m_pairs, m_bag, r_bag, n_bag, r_pairs, n_pairs, List.getElem?_cons_zero, List.getElem?_cons_succ, List.set_cons_zero, List.set_cons_succ, List.length_cons, List.length_nil, List.map_cons, List.map_nil, List.cons_append, List.nil_append, List.replicate_succ, List.replicate_zero, Option.map_some, Option.getD_some, Option.getD_none, Nat.reduceLT, Nat.reduceAdd, Nat.reduceSub, Nat.reduceEqDiff, if_true, if_false, Bool.and_true, Bool.true_and, Bool.false_eq_true, decide_eq_true_eq, and_self, and_true, true_and, Option.join_some, outsOf, Bool.and_self, Bool.not_true, Bool.not_false, Nat.zero_lt_succ, Nat.succ_lt_succ_iff, Nat.zero_add, reduceIte, g_ixA, g_ixAt, k_gtS2, k_gtS21, k_gtS22, k_setD2, k_lstH, k_compE, k_compE1, k_compE2, k_augI, k_augI0, k_augI1, k_zip, k_zip1, k_zipT, k_zipL, k_get2, k_get21, k_get22, k_get23, get2_tab, k_fz, k_fz1, k_toImmN, k_toImmS, k_fzD, k_fzD1, k_items, k_items1, k_keys, k_keys1, k_dAug, k_dAug0, k_dAug1, k_lo, k_lo1, lo_bag, lo_tup, g_tupX, m_tx, n_tx, r_tx, m_bagX, r_bagX, n_bagX, Int.reduceEq, Int.reduceLT, Int.reduceLE, Int.reduceNeg, decide_true, decide_false, gt_iff_lt, ge_iff_le, d7, gw, c3]
        exact this
  obtain ⟨d, e, h, ps, rfl, h2⟩ := ens_ex main
  exact ⟨ps, e, h, h2⟩
theorem laid_ok {ns : List Int} (hns : ns.length ≤ 63) {st : Int} (h0 : 0 ≤ st) (h1 : st < 1000) {ps : Tab} (hB : BagW ps) : ∃ (ws : List Str) (e : SD), fn_law_laid [scr ns, .int st, bagX ps] = .ok (.tup (ws.map D.str)) e ∧ (∀ w ∈ ws, AZ (codes w)) ∧ ws.length ≤ 600 := by
  have main : Ens (fn_law_laid [scr ns, .int st, bagX ps]) fun d _ => ∃ ws : List Str, d = .tup (ws.map D.str) ∧ (∀ w ∈ ws, AZ (codes w)) ∧ ws.length ≤ 600 := by
    unfold fn_law_laid b_law_laid
    have hany : anyOf (bagD ps) = some (ps.map pairD) := rfl
    have hnil : D.lst .own [] = .lst .own (([] : List Str).map D.str) := rfl
    simp -implicitDefEqProofs only [ens_ok, k_var, k_look, k_take, k_take1, k_c, k_dnew, k_opt, k_bin, k_bin1, k_bin2, k_un, k_un1, k_imm, k_imm1, k_arg, k_arg1, k_anil, k_acons, k_acons1, k_acons2, k_val, k_val1, k_cnot, k_cnot1, k_cand, k_cand1, k_cor, k_cor1, k_eand, k_eand1, k_eor, k_eor1, k_enot, k_enot1, k_eif, k_eif1, k_onone, k_osome, k_osome1, k_sl, k_sl1, k_sl2, k_sl3, k_seq, k_seqn, k_seqr, k_seqb, k_seqc, k_snil, k_brk, k_cnt, k_retN, k_expr, k_expr1, k_ret, k_ret1, k_if, k_if1, k_set, k_set1, k_aug, k_aug1, k_aug2, k_asg, k_asg1, k_asg2, k_par, k_par1, k_gtName, k_gtNil, k_gtCons, k_gtK, k_gtTup, k_gtSet, k_gtSet1, k_gtSet2, k_call, k_call1, k_call2, k_apNil, k_apVal, k_apVal1, k_ap2, k_apPlc, k_apPlc1, k_callP, k_callP1, k_callP2, k_callP3, k_run, k_run1, k_run2, k_mt, k_mt1, k_mt2, k_mt3, k_mt4, k_app, k_itSeq, k_itSeq1, k_itEnum, k_itEnum1, k_itR1, k_itR11, k_itR2, k_itR21, k_for, k_for1, m_non, m_bl, m_int, m_str, m_tup, m_limm, m_lown, m_lbor, m_nil, m_cons, m_app, m_ints, m_int', m_strs, m_str', n_int, n_non, n_bl, n_str, n_tup, n_lown, n_limm, n_nil, n_cons, n_app, n_int', n_str', r_nil, r_cons, r_int, r_str, r_non, r_bl, r_tup, r_lown, r_limm, r_lbor, r_int', r_str', g_ixl, g_ixt, g_ixs, g_ixk, at0, at1, at2, at3, at4, st0, st1, st2, st3, st4, g_addi, g_i2, g_abs, g_neg, g_max2, g_min2, g_inti, g_intb, g_gt, g_lt, g_ge, g_le, g_ltS, g_lenl, g_lent, g_lens, g_lst, g_tup, g_listl, g_listt, g_tupl, g_tupt, g_addS, g_addT, g_addL, g_pow18, sz0, sz1, sz2, sz3, sz4, sz5, sz6, sz7, sz8, sz9, sz10, sz11, ne_bl, ge_int, ne_int, ge_str, ne_str, in_strs, in_strsT, gsl_tup, isi_bb, isi_bi, isi_ib, isi_ii, k_comp, k_comp1, k_comp2, k_yes, g_sum, g_count, g_rev, g_notB, g_isB, k_rm, k_rmL, k_rmS, k_rm2, k_rg1, k_ins, k_toImm, k_toImmI, m_pairs, m_bag, r_bag, n_bag, r_pairs, n_pairs, List.getElem?_cons_zero, List.getElem?_cons_succ, List.set_cons_zero, List.set_cons_succ, List.length_cons, List.length_nil, List.map_cons, List.map_nil, List.cons_append, List.nil_append, List.replicate_succ, List.replicate_zero, Option.map_some, Option.getD_some, Option.getD_none, Nat.reduceLT, Nat.reduceAdd, Nat.reduceSub, Nat.reduceEqDiff, if_true, if_false, Bool.and_true, Bool.true_and, Bool.false_eq_true, decide_eq_true_eq, and_self, and_true, true_and, Option.join_some, outsOf, Bool.and_self, Bool.not_true, Bool.not_false, Nat.zero_lt_succ, Nat.succ_lt_succ_iff, Nat.zero_add, reduceIte, g_ixA, g_ixAt, k_gtS2, k_gtS21, k_gtS22, k_setD2, k_lstH, k_compE, k_compE1, k_compE2, k_augI, k_augI0, k_augI1, k_zip, k_zip1, k_zipT, k_zipL, k_get2, k_get21, k_get22, k_get23, get2_tab, k_fz, k_fz1, k_toImmN, k_toImmS, k_fzD, k_fzD1, k_items, k_items1, k_keys, k_keys1, k_dAug, k_dAug0, k_dAug1, k_lo, k_lo1, lo_bag, lo_tup, g_tupX, m_tx, n_tx, r_tx, m_bagX, r_bagX, n_bagX, Int.reduceEq, Int.reduceLT, Int.reduceLE, Int.reduceNeg, decide_true, decide_false, gt_iff_lt, ge_iff_le, hany]
    rw [hnil]
    refine ens_runK (ens_seqK ?_)
    refine ens_forL _ (fun k e => ∃ (l : List Str) (o4 o5 : Option D), e = [some (scr ns), some (.int st), some (bagX ps), some (.lst .own (l.map D.str)), o4, o5, none, none] ∧ (∀ w ∈ l, AZ (codes w)) ∧ (l.length : Int) ≤ 100 * (k : Int)) ⟨[], _, _, rfl, (fun _ h => nomatch h), by show (0 : Int) ≤ _; omega⟩ ?_ ?_
    · rintro k d e hd ⟨l, o4, o5, rfl, hla, hll⟩
      rw [List.getElem?_map] at hd
      obtain ⟨p, hp, rfl⟩ := Option.map_eq_some_iff.mp hd
      have hpm := List.mem_of_getElem? hp
      have hk : k < ps.length := (List.getElem?_eq_some_iff.mp hp).1
      have hlen := hB.len
      obtain ⟨p1, p2⟩ := hB.cnt p hpm
      have haz := hB.az p.1 (List.mem_map_of_mem hpm)
      have hmul : gMul1 (.lst .own [.str p.1]) (.int p.2) = some (.lst .own ((List.replicate p.2.toNat p.1).map D.str)) := by
        rw [mul_one1 rfl (by omega) (by omega), List.map_replicate]
      have hext : chExt (l.map D.str) [.lst .own ((List.replicate p.2.toNat p.1).map D.str)] = some (.non, (l ++ List.replicate p.2.toNat p.1).map D.str) := by
        show (if isImms ((List.replicate p.2.toNat p.1).map D.str) = true ∧ _ then some (D.non, _) else none) = _
        rw [if_pos ⟨m_str', by rw [List.length_map, List.length_map, List.length_replicate]; exact size_le (by omega)⟩, List.map_append]
      have hml : isImms (l.map D.str) = true := m_str'
      refine ⟨_, rfl, ?_⟩
      simp -implicitDefEqProofs only [ens_ok, k_var, k_look, k_take, k_take1, k_c, k_dnew, k_opt, k_bin, k_bin1, k_bin2, k_un, k_un1, k_imm, k_imm1, k_arg, k_arg1, k_anil, k_acons, k_acons1, k_acons2, k_val, k_val1, k_cnot, k_cnot1, k_cand, k_cand1, k_cor, k_cor1, k_eand, k_eand1, k_eor, k_eor1, k_enot, k_enot1, k_eif, k_eif1, k_onone, k_osome, k_osome1, k_sl, k_sl1, k_sl2, k_sl3, k_seq, k_seqn, k_seqr, k_seqb, k_seqc, k_snil, k_brk, k_cnt, k_retN, k_expr, k_expr1, k_ret, k_ret1, k_if, k_if1, k_set, k_set1, k_aug, k_aug1, k_aug2, k_asg, k_asg1, k_asg2, k_par, k_par1, k_gtName, k_gtNil, k_gtCons, k_gtK, k_gtTup, k_gtSet, k_gtSet1, k_gtSet2, k_call, k_call1, k_call2, k_apNil, k_apVal, k_apVal1, k_ap2, k_apPlc, k_apPlc1, k_callP, k_callP1, k_callP2, k_callP3, k_run, k_run1, k_run2, k_mt, k_mt1, k_mt2, k_mt3, k_mt4, k_app, k_itSeq, k_itSeq1, k_itEnum, k_itEnum1, k_itR1, k_itR11, k_itR2, k_itR21, k_for, k_for1, m_non, m_bl, m_int, m_str, m_tup, m_limm, m_lown, m_lbor, m_nil, m_cons, m_app, m_ints, m_int', m_strs, m_str', n_int, n_non, n_bl, n_str, n_tup, n_lown, n_limm, n_nil, n_cons, n_app, n_int', n_str', r_nil, r_cons, r_int, r_str, r_non, r_bl, r_tup, r_lown, r_limm, r_lbor, r_int', r_str', g_ixl, g_ixt, g_ixs, g_ixk, at0, at1, at2, at3, at4, st0, st1, st2, st3, st4, g_addi, g_i2, g_abs, g_neg, g_max2, g_min2, g_inti, g_intb, g_gt, g_lt, g_ge, g_le, g_ltS, g_lenl, g_lent, g_lens, g_lst, g_tup, g_listl, g_listt, g_tupl, g_tupt, g_addS, g_addT, g_addL, g_pow18, sz0, sz1, sz2, sz3, sz4, sz5, sz6, sz7, sz8, sz9, sz10, sz11, ne_bl, ge_int, ne_int, ge_str, ne_str, in_strs, in_strsT, gsl_tup, isi_bb, isi_bi, isi_ib, isi_ii, k_comp, k_comp1, k_comp2, k_yes, g_sum, g_count, g_rev, g_notB, g_isB, k_rm, k_rmL, k_rmS, k_rm2, k_rg1, k_ins, k_toImm, k_toImmI, m_pairs, m_bag, r_bag, n_bag, r_pairs, n_pairs, List.getElem?_cons_zero, List.getElem?_cons_succ, List.set_cons_zero, List.set_cons_succ, List.length_cons, List.length_nil, List.map_cons, List.map_nil, List.cons_append, List.nil_append, List.replicate_succ, List.replicate_zero, Option.map_some, Option.getD_some, Option.getD_none, Nat.reduceLT, Nat.reduceAdd, Nat.reduceSub, Nat.reduceEqDiff, if_true, if_false, Bool.and_true, Bool.true_and, Bool.false_eq_true, decide_eq_true_eq, and_self, and_true, true_and, Option.join_some, outsOf, Bool.and_self, Bool.not_true, Bool.not_false, Nat.zero_lt_succ, Nat.succ_lt_succ_iff, Nat.zero_add, reduceIte, g_ixA, g_ixAt, k_gtS2, k_gtS21, k_gtS22, k_setD2, k_lstH, k_compE, k_compE1, k_compE2, k_augI, k_augI0, k_augI1, k_zip, k_zip1, k_zipT, k_zipL, k_get2, k_get21, k_get22, k_get23, get2_tab, k_fz, k_fz1, k_toImmN, k_toImmS, k_fzD, k_fzD1, k_items, k_items1, k_keys, k_keys1, k_dAug, k_dAug0, k_dAug1, k_lo, k_lo1, lo_bag, lo_tup, g_tupX, m_tx, n_tx, r_tx, m_bagX, r_bagX, n_bagX, Int.reduceEq, Int.reduceLT, Int.reduceLE, Int.reduceNeg, decide_true, decide_false, gt_iff_lt, ge_iff_le, pairD, hmul]
      rw [hext]
      simp -implicitDefEqProofs only [ens_ok, k_var, k_look, k_take, k_take1, k_c, k_dnew, k_opt, k_bin, k_bin1, k_bin2, k_un, k_un1, k_imm, k_imm1, k_arg, k_arg1, k_anil, k_acons, k_acons1, k_acons2, k_val, k_val1, k_cnot, k_cnot1, k_cand, k_cand1, k_cor, k_cor1, k_eand, k_eand1, k_eor, k_eor1, k_enot, k_enot1, k_eif, k_eif1, k_onone, k_osome, k_osome1, k_sl, k_sl1, k_sl2, k_sl3, k_seq, k_seqn, k_seqr, k_seqb, k_seqc, k_snil, k_brk, k_cnt, k_retN, k_expr, k_expr1, k_ret, k_ret1, k_if, k_if1, k_set, k_set1, k_aug, k_aug1, k_aug2, k_asg, k_asg1, k_asg2, k_par, k_par1, k_gtName, k_gtNil, k_gtCons, k_gtK, k_gtTup, k_gtSet, k_gtSet1, k_gtSet2, k_call, k_call1, k_call2, k_apNil, k_apVal, k_apVal1, k_ap2, k_apPlc, k_apPlc1, k_callP, k_callP1, k_callP2, k_callP3, k_run, k_run1, k_run2, k_mt, k_mt1, k_mt2, k_mt3, k_mt4, k_app, k_itSeq, k_itSeq1, k_itEnum, k_itEnum1, k_itR1, k_itR11, k_itR2, k_itR21, k_for, k_for1, m_non, m_bl, m_int, m_str, m_tup, m_limm, m_lown, m_lbor, m_nil, m_cons, m_app, m_ints, m_int', m_strs, m_str', n_int, n_non, n_bl, n_str, n_tup, n_lown, n_limm, n_nil, n_cons, n_app, n_int', n_str', r_nil, r_cons, r_int, r_str, r_non, r_bl, r_tup, r_lown, r_limm, r_lbor, r_int', r_str', g_ixl, g_ixt, g_ixs, g_ixk, at0, at1, at2, at3, at4, st0, st1, st2, st3, st4, g_addi, g_i2, g_abs, g_neg, g_max2, g_min2, g_inti, g_intb, g_gt, g_lt, g_ge, g_le, g_ltS, g_lenl, g_lent, g_lens, g_lst, g_tup, g_listl, g_listt, g_tupl, g_tupt, g_addS, g_addT, g_addL, g_pow18, sz0, sz1, sz2, sz3, sz4, sz5, sz6, sz7, sz8, sz9, sz10, sz11, ne_bl, ge_int, ne_int, ge_str, ne_str, in_strs, in_strsT, gsl_tup, isi_bb, isi_bi, isi_ib, isi_ii, k_comp, k_comp1, k_comp2, k_yes, g_sum, g_count, g_rev, g_notB, g_isB, k_rm, k_rmL, k_rmS, k_rm2, k_rg1, k_ins, k_toImm, k_toImmI, m_pairs, m_bag, r_bag, n_bag, r_pairs, n_pairs, List.getElem?_cons_zero, List.getElem?_cons_succ, List.set_cons_zero, List.set_cons_succ, List.length_cons, List.length_nil, List.map_cons, List.map_nil, List.cons_append, List.nil_append, List.replicate_succ, List.replicate_zero, Option.map_some, Option.getD_some, Option.getD_none, Nat.reduceLT, Nat.reduceAdd, Nat.reduceSub, Nat.reduceEqDiff, if_true, if_false, Bool.and_true, Bool.true_and, Bool.false_eq_true, decide_eq_true_eq, and_self, and_true, true_and, Option.join_some, outsOf, Bool.and_self, Bool.not_true, Bool.not_false, Nat.zero_lt_succ, Nat.succ_lt_succ_iff, Nat.zero_add, reduceIte, g_ixA, g_ixAt, k_gtS2, k_gtS21, k_gtS22, k_setD2, k_lstH, k_compE, k_compE1, k_compE2, k_augI, k_augI0, k_augI1, k_zip, k_zip1, k_zipT, k_zipL, k_get2, k_get21, k_get22, k_get23, get2_tab, k_fz, k_fz1, k_toImmN, k_toImmS, k_fzD, k_fzD1, k_items, k_items1, k_keys, k_keys1, k_dAug, k_dAug0, k_dAug1, k_lo, k_lo1, lo_bag, lo_tup, g_tupX, m_tx, n_tx, r_tx, m_bagX, r_bagX, n_bagX, Int.reduceEq, Int.reduceLT, Int.reduceLE, Int.reduceNeg, decide_true, decide_false, gt_iff_lt, ge_iff_le]
      refine ⟨l ++ List.replicate p.2.toNat p.1, _, _, rfl, fun w hw => ?_, by rw [List.length_append, List.length_replicate]; omega⟩
      rcases List.mem_append.mp hw with h | h
      · exact hla w h
      · rw [(List.mem_replicate.mp h).2]; exact haz
    · intro e he
      rw [List.length_map] at he
      have hpl := hB.len
      generalize ps.length = pl at he hpl
      obtain ⟨l, o4, o5, he1, hla, hll⟩ := he
      rw [he1]
      have hrng : -(2 ^ 62) ≤ ((l.length : Nat) : Int) ∧ ((l.length : Nat) : Int) < 2 ^ 62 := by omega
      have hmt : ((l.length : Nat) : Int).toNat = l.length := by omega
      simp -implicitDefEqProofs only [ens_ok, k_var, k_look, k_take, k_take1, k_c, k_dnew, k_opt, k_bin, k_bin1, k_bin2, k_un, k_un1, k_imm, k_imm1, k_arg, k_arg1, k_anil, k_acons, k_acons1, k_acons2, k_val, k_val1, k_cnot, k_cnot1, k_cand, k_cand1, k_cor, k_cor1, k_eand, k_eand1, k_eor, k_eor1, k_enot, k_enot1, k_eif, k_eif1, k_onone, k_osome, k_osome1, k_sl, k_sl1, k_sl2, k_sl3, k_seq, k_seqn, k_seqr, k_seqb, k_seqc, k_snil, k_brk, k_cnt, k_retN, k_expr, k_expr1, k_ret, k_ret1, k_if, k_if1, k_set, k_set1, k_aug, k_aug1, k_aug2, k_asg, k_asg1, k_asg2, k_par, k_par1, k_gtName, k_gtNil, k_gtCons, k_gtK, k_gtTup, k_gtSet, k_gtSet1, k_gtSet2, k_call, k_call1, k_call2, k_apNil, k_apVal, k_apVal1, k_ap2, k_apPlc, k_apPlc1, k_callP, k_callP1, k_callP2, k_callP3, k_run, k_run1, k_run2, k_mt, k_mt1, k_mt2, k_mt3, k_mt4, k_app, k_itSeq, k_itSeq1, k_itEnum, k_itEnum1, k_itR1, k_itR11, k_itR2, k_itR21, k_for, k_for1, m_non, m_bl, m_int, m_str, m_tup, m_limm, m_lown, m_lbor, m_nil, m_cons, m_app, m_ints, m_int', m_strs, m_str', n_int, n_non, n_bl, n_str, n_tup, n_lown, n_limm, n_nil, n_cons, n_app, n_int', n_str', r_nil, r_cons, r_int, r_str, r_non, r_bl, r_tup, r_lown, r_limm, r_lbor, r_int', r_str', g_ixl, g_ixt, g_ixs, g_ixk, at0, at1, at2, at3, at4, st0, st1, st2, st3, st4, g_addi, g_i2, g_abs, g_neg, g_max2, g_min2, g_inti, g_intb, g_gt, g_lt, g_ge, g_le, g_ltS, g_lenl, g_lent, g_lens, g_lst, g_tup, g_listl, g_listt, g_tupl, g_tupt, g_addS, g_addT, g_addL, g_pow18, sz0, sz1, sz2, sz3, sz4, sz5, sz6, sz7, sz8, sz9, sz10, sz11, ne_bl, ge_int, ne_int, ge_str, ne_str, in_strs, in_strsT, gsl_tup, isi_bb, isi_bi, isi_ib, isi_ii, k_comp, k_comp1, k_comp2, k_yes, g_sum, g_count, g_rev, g_notB, g_isB, k_rm, k_rmL, k_rmS, k_rm2, k_rg1, k_ins, k_toImm, k_toImmI, m_pairs, m_bag, r_bag, n_bag, r_pairs, n_pairs, List.getElem?_cons_zero, List.getElem?_cons_succ, List.set_cons_zero, List.set_cons_succ, List.length_cons, List.length_nil, List.map_cons, List.map_nil, List.cons_append, List.nil_append, List.replicate_succ, List.replicate_zero, Option.map_some, Option.getD_some, Option.getD_none, Nat.reduceLT, Nat.reduceAdd, Nat.reduceSub, Nat.reduceEqDiff, if_true, if_false, Bool.and_true, Bool.true_and, Bool.false_eq_true, decide_eq_true_eq, and_self, and_true, true_and, Option.join_some, outsOf, Bool.and_self, Bool.not_true, Bool.not_false, Nat.zero_lt_succ, Nat.succ_lt_succ_iff, Nat.zero_add, reduceIte, g_ixA, g_ixAt, k_gtS2, k_gtS21, k_gtS22, k_setD2, k_lstH, k_compE, k_compE1, k_compE2, k_augI, k_augI0, k_augI1, k_zip, k_zip1, k_zipT, k_zipL, k_get2, k_get21, k_get22, k_get23, get2_tab, k_fz, k_fz1, k_toImmN, k_toImmS, k_fzD, k_fzD1, k_items, k_items1, k_keys, k_keys1, k_dAug, k_dAug0, k_dAug1, k_lo, k_lo1, lo_bag, lo_tup, g_tupX, m_tx, n_tx, r_tx, m_bagX, r_bagX, n_bagX, Int.reduceEq, Int.reduceLT, Int.reduceLE, Int.reduceNeg, decide_true, decide_false, gt_iff_lt, ge_iff_le, List.length_map, hrng, hmt]
      rw [hnil]
      refine ens_seqK ?_
      refine ens_forL _ (fun k e => ∃ (row left : List Str) (o7 : Option D), e = [some (scr ns), some (.int st), some (bagX ps), some (.lst .own (left.map D.str)), o4, o5, some (.lst .own (row.map D.str)), o7] ∧ (∀ w ∈ left, AZ (codes w)) ∧ (∀ w ∈ row, AZ (codes w)) ∧ row.length = k ∧ left.length + k = l.length) ⟨[], l, _, rfl, hla, (fun _ h => nomatch h), rfl, rfl⟩ ?_ ?_
      · rintro k d e hd ⟨row, left, o7, rfl, hlf, hrw, hrk, hlk⟩
        obtain ⟨hk, rfl⟩ := range_get hd
        obtain ⟨r, _, er, r0, r1⟩ := number_ok hns (k := st + (0 + (k : Int))) (by omega) (by omega)
        have hlp : (0 : Int) < ((left.length : Nat) : Int) := by omega
        have q0 : 0 ≤ r % ((left.length : Nat) : Int) := Int.emod_nonneg _ (by omega)
        have q1 : r % ((left.length : Nat) : Int) < ((left.length : Nat) : Int) := Int.emod_lt_of_pos _ hlp
        have gm := g_mod (i := r) hlp
        generalize r % ((left.length : Nat) : Int) = j at q0 q1 gm
        have hj : j.toNat < left.length := by omega
        have hget : (left.map D.str)[j.toNat]? = some (.str left[j.toNat]) := by rw [List.getElem?_map, List.getElem?_eq_getElem hj]; rfl
        have hpop := k_popAt (i := j) (k := j.toNat) (by omega) hget (by rw [List.length_map]; exact size_le (by omega))
        have hap : chApp (row.map D.str) [.str left[j.toNat]] = some (.non, (row ++ [left[j.toNat]]).map D.str) := by
          rw [k_app, if_pos ⟨rfl, size_lt (by rw [List.length_map]; omega)⟩, List.map_append]; rfl
        have hmr : isImms (row.map D.str) = true := m_str'
        refine ⟨_, rfl, ?_⟩
        simp -implicitDefEqProofs only [ens_ok, k_var, k_look, k_take, k_take1, k_c, k_dnew, k_opt, k_bin, k_bin1, k_bin2, k_un, k_un1, k_imm, k_imm1, k_arg, k_arg1, k_anil, k_acons, k_acons1, k_acons2, k_val, k_val1, k_cnot, k_cnot1, k_cand, k_cand1, k_cor, k_cor1, k_eand, k_eand1, k_eor, k_eor1, k_enot, k_enot1, k_eif, k_eif1, k_onone, k_osome, k_osome1, k_sl, k_sl1, k_sl2, k_sl3, k_seq, k_seqn, k_seqr, k_seqb, k_seqc, k_snil, k_brk, k_cnt, k_retN, k_expr, k_expr1, k_ret, k_ret1, k_if, k_if1, k_set, k_set1, k_aug, k_aug1, k_aug2, k_asg, k_asg1, k_asg2, k_par, k_par1, k_gtName, k_gtNil, k_gtCons, k_gtK, k_gtTup, k_gtSet, k_gtSet1, k_gtSet2, k_call, k_call1, k_call2, k_apNil, k_apVal, k_apVal1, k_ap2, k_apPlc, k_apPlc1, k_callP, k_callP1, k_callP2, k_callP3, k_run, k_run1, k_run2, k_mt, k_mt1, k_mt2, k_mt3, k_mt4, k_app, k_itSeq, k_itSeq1, k_itEnum, k_itEnum1, k_itR1, k_itR11, k_itR2, k_itR21, k_for, k_for1, m_non, m_bl, m_int, m_str, m_tup, m_limm, m_lown, m_lbor, m_nil, m_cons, m_app, m_ints, m_int', m_strs, m_str', n_int, n_non, n_bl, n_str, n_tup, n_lown, n_limm, n_nil, n_cons, n_app, n_int', n_str', r_nil, r_cons, r_int, r_str, r_non, r_bl, r_tup, r_lown, r_limm, r_lbor, r_int', r_str', g_ixl, g_ixt, g_ixs, g_ixk, at0, at1, at2, at3, at4, st0, st1, st2, st3, st4, g_addi, g_i2, g_abs, g_neg, g_max2, g_min2, g_inti, g_intb, g_gt, g_lt, g_ge, g_le, g_ltS, g_lenl, g_lent, g_lens, g_lst, g_tup, g_listl, g_listt, g_tupl, g_tupt, g_addS, g_addT, g_addL, g_pow18, sz0, sz1, sz2, sz3, sz4, sz5, sz6, sz7, sz8, sz9, sz10, sz11, ne_bl, ge_int, ne_int, ge_str, ne_str, in_strs, in_strsT, gsl_tup, isi_bb, isi_bi, isi_ib, isi_ii, k_comp, k_comp1, k_comp2, k_yes, g_sum, g_count, g_rev, g_notB, g_isB, k_rm, k_rmL, k_rmS, k_rm2, k_rg1, k_ins, k_toImm, k_toImmI, m_pairs, m_bag, r_bag, n_bag, r_pairs, n_pairs, List.getElem?_cons_zero, List.getElem?_cons_succ, List.set_cons_zero, List.set_cons_succ, List.length_cons, List.length_nil, List.map_cons, List.map_nil, List.cons_append, List.nil_append, List.replicate_succ, List.replicate_zero, Option.map_some, Option.getD_some, Option.getD_none, Nat.reduceLT, Nat.reduceAdd, Nat.reduceSub, Nat.reduceEqDiff, if_true, if_false, Bool.and_true, Bool.true_and, Bool.false_eq_true, decide_eq_true_eq, and_self, and_true, true_and, Option.join_some, outsOf, Bool.and_self, Bool.not_true, Bool.not_false, Nat.zero_lt_succ, Nat.succ_lt_succ_iff, Nat.zero_add, reduceIte, g_ixA, g_ixAt, k_gtS2, k_gtS21, k_gtS22, k_setD2, k_lstH, k_compE, k_compE1, k_compE2, k_augI, k_augI0, k_augI1, k_zip, k_zip1, k_zipT, k_zipL, k_get2, k_get21, k_get22, k_get23, get2_tab, k_fz, k_fz1, k_toImmN, k_toImmS, k_fzD, k_fzD1, k_items, k_items1, k_keys, k_keys1, k_dAug, k_dAug0, k_dAug1, k_lo, k_lo1, lo_bag, lo_tup, g_tupX, m_tx, n_tx, r_tx, m_bagX, r_bagX, n_bagX, Int.reduceEq, Int.reduceLT, Int.reduceLE, Int.reduceNeg, decide_true, decide_false, gt_iff_lt, ge_iff_le, List.length_map, er, gm, hpop, hmr, hap]
        refine ⟨row ++ [left[j.toNat]], left.eraseIdx j.toNat, _, by rw [er_map], fun w hw => hlf w (List.mem_of_mem_eraseIdx hw), fun w hw => ?_, by rw [List.length_append, hrk]; rfl, by rw [List.length_eraseIdx, if_pos hj]; omega⟩
        rcases List.mem_append.mp hw with h | h
        · exact hrw w h
        · rw [List.mem_singleton.mp h]; exact hlf _ (List.getElem_mem hj)
      · rintro e ⟨row, left, o7, rfl, hlf, hrw, hrk, hlk⟩
        rw [range_len] at hrk
        have hmr : isImms (row.map D.str) = true := m_str'
        simp -implicitDefEqProofs only [ens_ok, k_var, k_look, k_take, k_take1, k_c, k_dnew, k_opt, k_bin, k_bin1, k_bin2, k_un, k_un1, k_imm, k_imm1, k_arg, k_arg1, k_anil, k_acons, k_acons1, k_acons2, k_val, k_val1, k_cnot, k_cnot1, k_cand, k_cand1, k_cor, k_cor1, k_eand, k_eand1, k_eor, k_eor1, k_enot, k_enot1, k_eif, k_eif1, k_onone, k_osome, k_osome1, k_sl, k_sl1, k_sl2, k_sl3, k_seq, k_seqn, k_seqr, k_seqb, k_seqc, k_snil, k_brk, k_cnt, k_retN, k_expr, k_expr1, k_ret, k_ret1, k_if, k_if1, k_set, k_set1, k_aug, k_aug1, k_aug2, k_asg, k_asg1, k_asg2, k_par, k_par1, k_gtName, k_gtNil, k_gtCons, k_gtK, k_gtTup, k_gtSet, k_gtSet1, k_gtSet2, k_call, k_call1, k_call2, k_apNil, k_apVal, k_apVal1, k_ap2, k_apPlc, k_apPlc1, k_callP, k_callP1, k_callP2, k_callP3, k_run, k_run1, k_run2, k_mt, k_mt1, k_mt2, k_mt3, k_mt4, k_app, k_itSeq, k_itSeq1, k_itEnum, k_itEnum1, k_itR1, k_itR11, k_itR2, k_itR21, k_for, k_for1, m_non, m_bl, m_int, m_str, m_tup, m_limm, m_lown, m_lbor, m_nil, m_cons, m_app, m_ints, m_int', m_strs, m_str', n_int, n_non, n_bl, n_str, n_tup, n_lown, n_limm, n_nil, n_cons, n_app, n_int', n_str', r_nil, r_cons, r_int, r_str, r_non, r_bl, r_tup, r_lown, r_limm, r_lbor, r_int', r_str', g_ixl, g_ixt, g_ixs, g_ixk, at0, at1, at2, at3, at4, st0, st1, st2, st3, st4, g_addi, g_i2, g_abs, g_neg, g_max2, g_min2, g_inti, g_intb, g_gt, g_lt, g_ge, g_le, g_ltS, g_lenl, g_lent, g_lens, g_lst, g_tup, g_listl, g_listt, g_tupl, g_tupt, g_addS, g_addT, g_addL, g_pow18, sz0, sz1, sz2, sz3, sz4, sz5, sz6, sz7, sz8, sz9, sz10, sz11, ne_bl, ge_int, ne_int, ge_str, ne_str, in_strs, in_strsT, gsl_tup, isi_bb, isi_bi, isi_ib, isi_ii, k_comp, k_comp1, k_comp2, k_yes, g_sum, g_count, g_rev, g_notB, g_isB, k_rm, k_rmL, k_rmS, k_rm2, k_rg1, k_ins, k_toImm, k_toImmI, m_pairs, m_bag, r_bag, n_bag, r_pairs, n_pairs, List.getElem?_cons_zero, List.getElem?_cons_succ, List.set_cons_zero, List.set_cons_succ, List.length_cons, List.length_nil, List.map_cons, List.map_nil, List.cons_append, List.nil_append, List.replicate_succ, List.replicate_zero, Option.map_some, Option.getD_some, Option.getD_none, Nat.reduceLT, Nat.reduceAdd, Nat.reduceSub, Nat.reduceEqDiff, if_true, if_false, Bool.and_true, Bool.true_and, Bool.false_eq_true, decide_eq_true_eq, and_self, and_true, true_and, Option.join_some, outsOf, Bool.and_self, Bool.not_true, Bool.not_false, Nat.zero_lt_succ, Nat.succ_lt_succ_iff, Nat.zero_add, reduceIte, g_ixA, g_ixAt, k_gtS2, k_gtS21, k_gtS22, k_setD2, k_lstH, k_compE, k_compE1, k_compE2, k_augI, k_augI0, k_augI1, k_zip, k_zip1, k_zipT, k_zipL, k_get2, k_get21, k_get22, k_get23, get2_tab, k_fz, k_fz1, k_toImmN, k_toImmS, k_fzD, k_fzD1, k_items, k_items1, k_keys, k_keys1, k_dAug, k_dAug0, k_dAug1, k_lo, k_lo1, lo_bag, lo_tup, g_tupX, m_tx, n_tx, r_tx, m_bagX, r_bagX, n_bagX, Int.reduceEq, Int.reduceLT, Int.reduceLE, Int.reduceNeg, decide_true, decide_false, gt_iff_lt, ge_iff_le, hmr, noBors_imm hmr]
        exact ⟨row, rfl, hrw, by omega⟩
  obtain ⟨d, e, h, ws, rfl, h2⟩ := ens_ex main
  exact ⟨ws, e, h, h2⟩
end Lw

namespace Lw
open PySem L2 Vs PySem.W
/-- a tuple of names -/
def tb (b : List Str) : D := .tup (b.map D.str)
def ltW : List Str → List Str → Bool
  | a :: as, b :: bs => if a = b then ltW as bs else decide (codes a < codes b)
  | _, _ => false
theorem ltW_tri : ∀ {a b : List Str}, a.length = b.length → ltW a b = false → ltW b a = false → a = b
  | [], [], _, _, _ => rfl
  | a :: as, b :: bs, h, h1, h2 => by
    by_cases e : a = b
    · subst e
      have e1 : ltW as bs = false := by
        have : ltW (a :: as) (a :: bs) = ltW as bs := if_pos rfl
        rw [← this]; exact h1
      have e2 : ltW bs as = false := by
        have : ltW (a :: bs) (a :: as) = ltW bs as := if_pos rfl
        rw [← this]; exact h2
      rw [ltW_tri (by simpa using h) e1 e2]
    · have h1' : decide (codes a < codes b) = false := by
        have : ltW (a :: as) (b :: bs) = decide (codes a < codes b) := if_neg e
        rw [← this]; exact h1
      have h2' : decide (codes b < codes a) = false := by
        have : ltW (b :: bs) (a :: as) = decide (codes b < codes a) := if_neg (fun z => e z.symm)
        rw [← this]; exact h2
      exact (e (codes_inj (List.le_antisymm (of_decide_eq_false h2') (of_decide_eq_false h1')))).elim
theorem ltW_trans : ∀ {a b c : List Str}, ltW a b = true → ltW b c = true → ltW a c = true
  | [], _, _, h, _ => nomatch h
  | _ :: _, [], _, h, _ => nomatch h
  | _ :: _, _ :: _, [], _, h => nomatch h
  | a :: as, b :: bs, c :: cs, h1, h2 => by
    have f : ∀ x y xs ys, ltW (x :: xs) (y :: ys) = if x = y then ltW xs ys else decide (codes x < codes y) := fun _ _ _ _ => rfl
    rw [f] at h1 h2 ⊢
    by_cases e1 : a = b
    · subst e1
      rw [if_pos rfl] at h1
      by_cases e2 : a = c
      · subst e2
        rw [if_pos rfl] at h2 ⊢
        exact ltW_trans h1 h2
      · rw [if_neg e2] at h2 ⊢; exact h2
    · rw [if_neg e1] at h1
      by_cases e2 : b = c
      · subst e2
        rw [if_neg e1]; exact h1
      · rw [if_neg e2] at h2
        have h3 := List.lt_trans (of_decide_eq_true h1) (of_decide_eq_true h2)
        have e3 : ¬ a = c := fun z => by subst z; exact List.lt_irrefl _ h3
        rw [if_neg e3]
        exact decide_eq_true h3
theorem py_tb (ws : List Str) : toPy (tb ws) = .tuple (ws.map PyData.str) := by
  show PyData.tuple (toPys _) = _
  rw [toPys_map, List.map_map]; rfl
theorem lt_tb : ∀ (a b : List Str), a.length = b.length → dataLt (toPy (tb a)) (toPy (tb b)) = ltW a b := by
  have key : ∀ (a b : List Str), a.length = b.length → PyProof.Rows.lexLt PyProof.Rows.itemOrd (keyToksAll (a.map PyData.str)) (keyToksAll (b.map PyData.str)) = ltW a b := by
    intro a
    induction a with
    | nil =>
      intro b h
      cases b with
      | nil => rfl
      | cons y b => simp at h
    | cons x a ih =>
      intro b h
      cases b with
      | nil => simp at h
      | cons y b =>
        rw [List.map_cons, List.map_cons, dataLt_cons (alike_str _ _), ih b (by simpa using h)]
        have e1 : PyData.eqv (.str x) (.str y) = decide (x = y) := eq_str
        rw [e1, dataLt_str]
        show _ = if x = y then ltW a b else decide (codes x < codes y)
        by_cases e : x = y
        · rw [if_pos e, decide_eq_true e, if_pos rfl]
        · rw [if_neg e, decide_eq_false e, if_neg Bool.false_ne_true]; rfl
  intro a b h
  rw [py_tb, py_tb, dataLt_tuple]
  exact key a b h
theorem alike_tbs : ∀ (a b : List Str), a.length = b.length → alikeAll (a.map PyData.str) (b.map PyData.str) = true
  | [], [], _ => rfl
  | x :: a, y :: b, h => by
    rw [List.map_cons, List.map_cons, alikeAll, alike_str, alike_tbs a b (by simpa using h)]; rfl
theorem alike_tb {a b : List Str} (h : a.length = b.length) : alike (toPy (tb a)) (toPy (tb b)) = true := by
  rw [py_tb, py_tb]
  unfold alike
  exact alike_tbs a b h
theorem plD_tb (a : List Str) : plD (tb a) = true := by
  show plDs (a.map D.str) = true
  induction a with
  | nil => rfl
  | cons x a ih => show (plD (.str x) && plDs (a.map D.str)) = true; rw [ih]; rfl
theorem minOk_tb {l : List (List Str)} {n : Nat} (hn : ∀ a ∈ l, a.length = n) (hok : ∀ a ∈ l, ∀ w ∈ a, PyData.strOk w = true) : minOk (l.map tb) = true := by
  have e : plDs (l.map tb) = true := by
    clear hn hok
    induction l with
    | nil => rfl
    | cons a l ih => show (plD (tb a) && plDs (l.map tb)) = true; rw [plD_tb, ih]; rfl
  unfold minOk
  rw [e, List.all_eq_true.mpr fun x hx => by
      obtain ⟨a, ha, rfl⟩ := List.mem_map.mp hx
      exact dk_tup (dk_strs (hok a ha)), List.all_eq_true.mpr fun x hx => List.all_eq_true.mpr fun y hy => by
      obtain ⟨a, ha, rfl⟩ := List.mem_map.mp hx
      obtain ⟨b, hb, rfl⟩ := List.mem_map.mp hy
      exact alike_tb (by rw [hn a ha, hn b hb])]
  rfl
/-- the least of some rows -/
def mnW (x : List Str) (xs : List (List Str)) : List Str := xs.foldl (fun a y => if ltW y a = true then y else a) x
theorem mnD_tb : ∀ {xs : List (List Str)} {x : List Str} {n : Nat}, (∀ a ∈ x :: xs, a.length = n) → mnD (tb x) (xs.map tb) = tb (mnW x xs)
  | [], _, _, _ => rfl
  | y :: xs, x, n, h => by
    show mnD (if dataLt (toPy (tb y)) (toPy (tb x)) = true then tb y else tb x) (xs.map tb) = tb (mnW (if ltW y x = true then y else x) xs)
    rw [lt_tb y x (by rw [h y (by simp), h x (by simp)])]
    by_cases hl : ltW y x = true
    · rw [if_pos hl, if_pos hl]
      exact mnD_tb (n := n) fun a ha => h a (List.mem_cons_of_mem _ ha)
    · rw [if_neg hl, if_neg hl]
      refine mnD_tb (n := n) fun a ha => h a ?_
      rcases List.mem_cons.mp ha with e | ha
      · rw [e]; exact List.mem_cons_self
      · exact List.mem_cons_of_mem _ (List.mem_cons_of_mem _ ha)
theorem mnW_mem : ∀ (xs : List (List Str)) (x : List Str), mnW x xs ∈ x :: xs
  | [], x => List.mem_singleton.mpr rfl
  | y :: xs, x => by
    have ih := mnW_mem xs (if ltW y x = true then y else x)
    show mnW (if ltW y x = true then y else x) xs ∈ _
    rcases List.mem_cons.mp ih with e | m
    · rw [e]
      by_cases h : ltW y x = true
      · rw [if_pos h]; simp
      · rw [if_neg h]; simp
    · exact List.mem_cons_of_mem _ (List.mem_cons_of_mem _ m)
theorem mnW_least {n : Nat} : ∀ (xs : List (List Str)) (x : List Str), (∀ a ∈ x :: xs, a.length = n) → ∀ z ∈ x :: xs, ltW z (mnW x xs) = false
  | [], x, _, z, hz => by
    rw [List.mem_singleton.mp hz]
    show ltW x x = false
    cases h : ltW x x with
    | false => rfl
    | true =>
      exfalso
      have irr : ∀ a : List Str, ltW a a = false := by
        intro a
        induction a with
        | nil => rfl
        | cons b a ih => show (if b = b then ltW a a else _) = false; rw [if_pos rfl]; exact ih
      rw [irr x] at h; cases h
  | y :: xs, x, hn, z, hz => by
    have hx := hn x (by simp)
    have hy := hn y (by simp)
    have hmem := mnW_mem xs (if ltW y x = true then y else x)
    by_cases h : ltW y x = true
    · have ih := mnW_least xs y fun a ha => hn a (List.mem_cons_of_mem _ ha)
      show ltW z (mnW (if ltW y x = true then y else x) xs) = false
      rw [if_pos h]
      rcases List.mem_cons.mp hz with rfl | hz
      · cases hc : ltW z (mnW y xs) with
        | false => rfl
        | true =>
          have := ltW_trans h hc
          rw [ih y List.mem_cons_self] at this; cases this
      · exact ih z hz
    · have ih := mnW_least xs x fun a ha => hn a (by
        rcases List.mem_cons.mp ha with e | ha
        · rw [e]; exact List.mem_cons_self
        · exact List.mem_cons_of_mem _ (List.mem_cons_of_mem _ ha))
      show ltW z (mnW (if ltW y x = true then y else x) xs) = false
      rw [if_neg h]
      rcases List.mem_cons.mp hz with rfl | hz
      · exact ih z List.mem_cons_self
      · rcases List.mem_cons.mp hz with rfl | hz
        · cases hc : ltW z (mnW x xs) with
          | false => rfl
          | true =>
            have h' : ltW z x = false := by
              cases hq : ltW z x with
              | false => rfl
              | true => exact (h hq).elim
            cases hq : ltW x z with
            | false =>
              have := ltW_tri (by rw [hx, hy]) hq h'
              rw [← this, ih x List.mem_cons_self] at hc; cases hc
            | true =>
              have := ltW_trans hq hc
              rw [ih x List.mem_cons_self] at this; cases this
        · exact ih z (List.mem_cons_of_mem _ hz)
/-- the least of the same rows is the same -/
theorem mnW_same {n : Nat} {x y : List Str} {xs ys : List (List Str)} (h1 : ∀ a ∈ x :: xs, a.length = n) (h2 : ∀ a ∈ y :: ys, a.length = n) (he : ∀ z, z ∈ x :: xs ↔ z ∈ y :: ys) : mnW x xs = mnW y ys := by
  have m1 := mnW_mem xs x
  have m2 := mnW_mem ys y
  refine ltW_tri (by rw [h1 _ m1, h2 _ m2]) ?_ ?_
  · exact mnW_least ys y h2 _ ((he _).mp m1)
  · exact mnW_least xs x h1 _ ((he _).mpr m2)
/-- turned -/
def rt (ws : List Str) (t : Nat) : List Str := ws.drop t ++ ws.take t
theorem rt_len {ws : List Str} {t : Nat} : (rt ws t).length = ws.length := by
  unfold rt
  rw [List.length_append, List.length_drop, List.length_take]; omega
theorem rt_mem {ws : List Str} {t : Nat} {w : Str} (h : w ∈ rt ws t) : w ∈ ws := by
  rcases List.mem_append.mp h with h | h
  · exact List.mem_of_mem_drop h
  · exact List.mem_of_mem_take h
theorem rt_zero (ws : List Str) : rt ws 0 = ws := by unfold rt; simp
theorem rt_full (ws : List Str) : rt ws ws.length = ws := by unfold rt; simp
theorem rt_rt {ws : List Str} {s t : Nat} (hs : s ≤ ws.length) (ht : t ≤ ws.length) : rt (rt ws s) t = rt ws (if s + t ≤ ws.length then s + t else s + t - ws.length) := by
  unfold rt
  by_cases h : s + t ≤ ws.length
  · rw [if_pos h, List.drop_append_of_le_length (by rw [List.length_drop]; omega), List.take_append_of_le_length (by rw [List.length_drop]; omega), List.drop_drop, List.append_assoc]
    congr 1
    exact List.take_add.symm
  · rw [if_neg h]
    rw [List.drop_append, List.take_append, List.length_drop, List.drop_drop, List.drop_of_length_le (l := ws) (by omega), List.nil_append, List.take_of_length_le (l := ws.drop s) (by rw [List.length_drop]; omega), List.take_take, ← List.append_assoc]
    rw [show t - (ws.length - s) = s + t - ws.length by omega, show min (s + t - ws.length) s = s + t - ws.length by omega]
    congr 1
    have hk : ∀ k, k ≤ s → ws.drop k = (ws.take s).drop k ++ ws.drop s := by
      intro k hk
      conv => lhs; rw [← List.take_append_drop s ws]
      rw [List.drop_append_of_le_length (by rw [List.length_take]; omega)]
    exact (hk (s + t - ws.length) (by omega)).symm
/-- all turned ones -/
def rts (ws : List Str) : List (List Str) := (List.range ws.length).map (rt ws)
theorem rts_same {ws : List Str} {s : Nat} (hs : s ≤ ws.length) (z : List Str) : z ∈ rt ws s :: rts (rt ws s) ↔ z ∈ ws :: rts ws := by
  unfold rts
  rw [rt_len]
  constructor
  · intro h
    have : ∃ u, u ≤ ws.length ∧ z = rt ws u := by
      rcases List.mem_cons.mp h with rfl | h
      · exact ⟨s, hs, rfl⟩
      · obtain ⟨t, ht, rfl⟩ := List.mem_map.mp h
        have ht := List.mem_range.mp ht
        refine ⟨_, ?_, rt_rt hs (by omega)⟩
        split <;> omega
    obtain ⟨u, hu, rfl⟩ := this
    rcases Nat.lt_or_ge u ws.length with h | h
    · exact List.mem_cons_of_mem _ (List.mem_map_of_mem (List.mem_range.mpr h))
    · have : u = ws.length := by omega
      rw [this, rt_full]; exact List.mem_cons_self
  · intro h
    have : ∃ u, u < ws.length ∧ z = rt ws u ∨ z = ws := by
      rcases List.mem_cons.mp h with rfl | h
      · exact ⟨0, .inr rfl⟩
      · obtain ⟨t, ht, rfl⟩ := List.mem_map.mp h
        exact ⟨t, .inl ⟨List.mem_range.mp ht, rfl⟩⟩
    have back : ∀ u, u < ws.length → rt ws u ∈ rt ws s :: (List.range ws.length).map (rt (rt ws s)) := by
      intro u hu
      rcases Nat.eq_zero_or_pos u with hu0 | hu0
      · subst hu0
        rcases Nat.eq_zero_or_pos s with hs0 | hs0
        · rw [hs0]; exact List.mem_cons_self
        · have e2 : rt ws 0 = rt (rt ws s) (ws.length - s) := by
            rw [rt_rt hs (by omega), if_pos (by omega), show s + (ws.length - s) = ws.length by omega, rt_full, rt_zero]
          rw [e2]
          exact List.mem_cons_of_mem _ (List.mem_map_of_mem (List.mem_range.mpr (by omega)))
      have hb : ∃ t, t < ws.length ∧ (if s + t ≤ ws.length then s + t else s + t - ws.length) = u ∨ s = u := by
        rcases Nat.lt_or_ge s u with h | h
        · exact ⟨u - s, .inl ⟨by omega, by rw [if_pos (by omega)]; omega⟩⟩
        · rcases Nat.lt_or_ge u s with h' | h'
          · refine ⟨ws.length + u - s, .inl ⟨by omega, ?_⟩⟩
            rw [if_neg (by omega)]; omega
          · exact ⟨0, .inr (by omega)⟩
      obtain ⟨t, ⟨ht, e⟩ | e⟩ := hb
      · rw [← e, ← rt_rt hs (by omega)]
        exact List.mem_cons_of_mem _ (List.mem_map_of_mem (List.mem_range.mpr ht))
      · rw [e]; exact List.mem_cons_self
    obtain ⟨u, ⟨hu, rfl⟩ | rfl⟩ := this
    · exact back u hu
    · rcases Nat.eq_zero_or_pos z.length with h0 | h0
      · have : z = [] := List.length_eq_zero_iff.mp h0
        subst this
        unfold rt
        simp
      · have := back 0 h0
        rwa [rt_zero] at this
end Lw

namespace Lw
open PySem L2 Vs PySem.W
/-- the mark -/
def mk (ws : List Str) : List Str := mnW ws (rts ws)
theorem rts_len {ws : List Str} : ∀ a ∈ ws :: rts ws, a.length = ws.length := fun a ha => by
  rcases List.mem_cons.mp ha with rfl | ha
  · rfl
  · obtain ⟨t, _, rfl⟩ := List.mem_map.mp ha
    exact rt_len
theorem mk_rt {ws : List Str} {s : Nat} (hs : s ≤ ws.length) : mk (rt ws s) = mk ws := by
  refine mnW_same (n := ws.length) (fun a ha => by rw [rts_len a ha, rt_len]) rts_len fun z => rts_same hs z
theorem mk_mem {ws : List Str} {w : Str} (h : w ∈ mk ws) : w ∈ ws := by
  have := mnW_mem (rts ws) ws
  rcases List.mem_cons.mp this with e | m
  · have e' : mk ws = ws := e
    rw [e'] at h; exact h
  · obtain ⟨t, _, e⟩ := List.mem_map.mp m
    have e' : rt ws t = mk ws := e
    rw [← e'] at h; exact rt_mem h
theorem tb_imm {ws : List Str} : isImm (tb ws) = true := m_str'
theorem tb_len {ws : List Str} : gLen (tb ws) = some (.int (ws.length : Nat)) := by
  show some (D.int ((ws.map D.str).length : Nat)) = _
  rw [List.length_map]
theorem tb_toImm {ws : List Str} : toImm (tb ws) = some (tb ws) := if_pos tb_imm
theorem rot_ev {ws : List Str} {t : Nat} (ht : t ≤ ws.length) (hl : ws.length ≤ 50000) {i : Int} (hi : i = (t : Int)) : gSl (tb ws) (some i) none = some (tb (ws.drop t)) ∧ gSl (tb ws) none (some i) = some (tb (ws.take t)) ∧ gAdd (tb (ws.drop t)) (tb (ws.take t)) = some (tb (rt ws t)) := by
  subst hi
  refine ⟨?_, ?_, ?_⟩
  · show some (D.tup (cutD (ws.map D.str) (some (t : Int)) none)) = _
    rw [cut_drop, ← List.map_drop]; rfl
  · show some (D.tup (cutD (ws.map D.str) none (some (t : Int)))) = _
    rw [cut_take (by rw [List.length_map]; exact ht), ← List.map_take]; rfl
  · unfold tb
    rw [g_addT, if_pos (size_le (by rw [List.length_map, List.length_map, List.length_drop, List.length_take]; omega)), ← List.map_append]; rfl
theorem markof_ok {ws : List Str} (hl : ws.length ≤ 50000) (hok : ∀ w ∈ ws, PyData.strOk w = true) : ∃ e, fn_mark_of [tb ws] = .ok (tb (mk ws)) e := by
  have main : Ens (fn_mark_of [tb ws]) fun d _ => d = tb (mk ws) := by
    unfold fn_mark_of b_mark_of
    obtain ⟨m, hm1, hm2⟩ : ∃ m : Nat, (if 1 < ((ws.length : Nat) : Int) then ((ws.length : Nat) : Int) else 1) = ((m + 1 : Nat) : Int) ∧ (m + 1 = ws.length ∨ (m = 0 ∧ ws.length = 0)) := by
      rcases Nat.eq_zero_or_pos ws.length with h | h
      · exact ⟨0, by rw [if_neg (by omega)]; rfl, .inr ⟨rfl, h⟩⟩
      · refine ⟨ws.length - 1, ?_, .inl (by omega)⟩
        split <;> omega
    have hrng : -(2 ^ 62) ≤ ((m + 1 : Nat) : Int) ∧ ((m + 1 : Nat) : Int) < 2 ^ 62 := by omega
    have hmt : ((m + 1 : Nat) : Int).toNat = m + 1 := by omega
    have hcomp : ∀ o1 : Option D, compL [1] (gtName 1) cYes (eUn toImm (eBin gAdd (eSl (eVar 0) (oSome (eVar 1)) oNone) (eSl (eVar 0) oNone (oSome (eVar 1))))) [some (tb ws), o1] (rangeD 0 (m + 1)) = some (((List.range (m + 1)).map (rt ws)).map tb) := by
      intro o1
      rw [rangeD_map, comp_all (fun t : Nat => tb (rt ws t)) fun t ht => by
        have ht := List.mem_range.mp ht
        obtain ⟨h1, h2, h3⟩ := rot_ev (ws := ws) (t := t) (by omega) hl rfl
        exact ⟨_, rfl, [some (tb ws), some (.int (0 + (t : Int)))], by simp -implicitDefEqProofs only [ens_ok, k_var, k_look, k_take, k_take1, k_c, k_dnew, k_opt, k_bin, k_bin1, k_bin2, k_un, k_un1, k_imm, k_imm1, k_arg, k_arg1, k_anil, k_acons, k_acons1, k_acons2, k_val, k_val1, k_cnot, k_cnot1, k_cand, k_cand1, k_cor, k_cor1, k_eand, k_eand1, k_eor, k_eor1, k_enot, k_enot1, k_eif, k_eif1, k_onone, k_osome, k_osome1, k_sl, k_sl1, k_sl2, k_sl3, k_seq, k_seqn, k_seqr, k_seqb, k_seqc, k_snil, k_brk, k_cnt, k_retN, k_expr, k_expr1, k_ret, k_ret1, k_if, k_if1, k_set, k_set1, k_aug, k_aug1, k_aug2, k_asg, k_asg1, k_asg2, k_par, k_par1, k_gtName, k_gtNil, k_gtCons, k_gtK, k_gtTup, k_gtSet, k_gtSet1, k_gtSet2, k_call, k_call1, k_call2, k_apNil, k_apVal, k_apVal1, k_ap2, k_apPlc, k_apPlc1, k_callP, k_callP1, k_callP2, k_callP3, k_run, k_run1, k_run2, k_mt, k_mt1, k_mt2, k_mt3, k_mt4, k_app, k_itSeq, k_itSeq1, k_itEnum, k_itEnum1, k_itR1, k_itR11, k_itR2, k_itR21, k_for, k_for1, m_non, m_bl, m_int, m_str, m_tup, m_limm, m_lown, m_lbor, m_nil, m_cons, m_app, m_ints, m_int', m_strs, m_str', n_int, n_non, n_bl, n_str, n_tup, n_lown, n_limm, n_nil, n_cons, n_app, n_int', n_str', r_nil, r_cons, r_int, r_str, r_non, r_bl, r_tup, r_lown, r_limm, r_lbor, r_int', r_str', g_ixl, g_ixt, g_ixs, g_ixk, at0, at1, at2, at3, at4, st0, st1, st2, st3, st4, g_addi, g_i2, g_abs, g_neg, g_max2, g_min2, g_inti, g_intb, g_gt, g_lt, g_ge, g_le, g_ltS, g_lenl, g_lent, g_lens, g_lst, g_tup, g_listl, g_listt, g_tupl, g_tupt, g_addS, g_addT, g_addL, g_pow18, sz0, sz1, sz2, sz3, sz4, sz5, sz6, sz7, sz8, sz9, sz10, sz11, ne_bl, ge_int, ne_int, ge_str, ne_str, in_strs, in_strsT, gsl_tup, isi_bb, isi_bi, isi_ib, isi_ii, k_comp, k_comp1, k_comp2, k_yes, g_sum, g_count, g_rev, g_notB, g_isB, k_rm, k_rmL, k_rmS, k_rm2, k_rg1, k_ins, k_toImm, k_toImmI, m_pairs, m_bag, r_bag, n_bag, r_pairs, n_pairs, List.getElem?_cons_zero, List.getElem?_cons_succ, List.set_cons_zero, List.set_cons_succ, List.length_cons, List.length_nil, List.map_cons, List.map_nil, List.cons_append, List.nil_append, List.replicate_succ, List.replicate_zero, Option.map_some, Option.getD_some, Option.getD_none, Nat.reduceLT, Nat.reduceAdd, Nat.reduceSub, Nat.reduceEqDiff, if_true, if_false, Bool.and_true, Bool.true_and, Bool.false_eq_true, decide_eq_true_eq, and_self, and_true, true_and, Option.join_some, outsOf, Bool.and_self, Bool.not_true, Bool.not_false, Nat.zero_lt_succ, Nat.succ_lt_succ_iff, Nat.zero_add, reduceIte, g_ixA, g_ixAt, k_gtS2, k_gtS21, k_gtS22, k_setD2, k_lstH, k_compE, k_compE1, k_compE2, k_augI, k_augI0, k_augI1, k_zip, k_zip1, k_zipT, k_zipL, k_get2, k_get21, k_get22, k_get23, get2_tab, k_fz, k_fz1, k_toImmN, k_toImmS, k_fzD, k_fzD1, k_items, k_items1, k_keys, k_keys1, k_dAug, k_dAug0, k_dAug1, k_lo, k_lo1, lo_bag, lo_tup, g_tupX, m_tx, n_tx, r_tx, m_bagX, r_bagX, n_bagX, Int.reduceEq, Int.reduceLT, Int.reduceLE, Int.reduceNeg, decide_true, decide_false, gt_iff_lt, ge_iff_le, wipeD, Int.zero_add, h1, h2, h3, tb_toImm], tb_imm⟩, List.map_map]
      rfl
    have hr : (List.range (m + 1)).map (rt ws) = ws :: (List.range m).map fun t => rt ws (t + 1) := by
      rw [List.range_succ_eq_map, List.map_cons, rt_zero, List.map_map]; rfl
    rw [hr] at hcomp
    have hlen : ∀ a ∈ ws :: (List.range m).map fun t => rt ws (t + 1), a.length = ws.length := fun a ha => by
      rcases List.mem_cons.mp ha with rfl | ha
      · rfl
      · obtain ⟨t, _, rfl⟩ := List.mem_map.mp ha
        exact rt_len
    have hmin : gMinD (.lst .own ((ws :: (List.range m).map fun t => rt ws (t + 1)).map tb)) = some (tb (mk ws)) := by
      show (if minOk ((ws :: (List.range m).map fun t => rt ws (t + 1)).map tb) = true then some (mnD (tb ws) (((List.range m).map fun t => rt ws (t + 1)).map tb)) else none) = _
      rw [if_pos (minOk_tb hlen fun a ha w hw => by
        rcases List.mem_cons.mp ha with rfl | ha
        · exact hok w hw
        · obtain ⟨t, _, rfl⟩ := List.mem_map.mp ha
          exact hok w (rt_mem hw)), mnD_tb hlen]
      congr 2
      refine mnW_same hlen rts_len fun z => ?_
      unfold rts
      rcases hm2 with h | ⟨h, h'⟩
      · rw [← h, hr]
        simp
      · rw [h, h']
        simp
    have hszm : ((List.range m).map fun t => rt ws (t + 1)).length + 1 ≤ sizeLine := size_le (by rw [List.length_map, List.length_range]; omega)
    generalize (List.range m).map (fun t => rt ws (t + 1)) = L at hcomp hmin hszm
    have hszm' : ((ws :: L).map tb).length ≤ sizeLine := by rw [List.length_map]; exact hszm
    generalize (ws :: L).map tb = LL at hcomp hmin hszm'
    simp -implicitDefEqProofs only [ens_ok, k_var, k_look, k_take, k_take1, k_c, k_dnew, k_opt, k_bin, k_bin1, k_bin2, k_un, k_un1, k_imm, k_imm1, k_arg, k_arg1, k_anil, k_acons, k_acons1, k_acons2, k_val, k_val1, k_cnot, k_cnot1, k_cand, k_cand1, k_cor, k_cor1, k_eand, k_eand1, k_eor, k_eor1, k_enot, k_enot1, k_eif, k_eif1, k_onone, k_osome, k_osome1, k_sl, k_sl1, k_sl2, k_sl3, k_seq, k_seqn, k_seqr, k_seqb, k_seqc, k_snil, k_brk, k_cnt, k_retN, k_expr, k_expr1, k_ret, k_ret1, k_if, k_if1, k_set, k_set1, k_aug, k_aug1, k_aug2, k_asg, k_asg1, k_asg2, k_par, k_par1, k_gtName, k_gtNil, k_gtCons, k_gtK, k_gtTup, k_gtSet, k_gtSet1, k_gtSet2, k_call, k_call1, k_call2, k_apNil, k_apVal, k_apVal1, k_ap2, k_apPlc, k_apPlc1, k_callP, k_callP1, k_callP2, k_callP3, k_run, k_run1, k_run2, k_mt, k_mt1, k_mt2, k_mt3, k_mt4, k_app, k_itSeq, k_itSeq1, k_itEnum, k_itEnum1, k_itR1, k_itR11, k_itR2, k_itR21, k_for, k_for1, m_non, m_bl, m_int, m_str, m_tup, m_limm, m_lown, m_lbor, m_nil, m_cons, m_app, m_ints, m_int', m_strs, m_str', n_int, n_non, n_bl, n_str, n_tup, n_lown, n_limm, n_nil, n_cons, n_app, n_int', n_str', r_nil, r_cons, r_int, r_str, r_non, r_bl, r_tup, r_lown, r_limm, r_lbor, r_int', r_str', g_ixl, g_ixt, g_ixs, g_ixk, at0, at1, at2, at3, at4, st0, st1, st2, st3, st4, g_addi, g_i2, g_abs, g_neg, g_max2, g_min2, g_inti, g_intb, g_gt, g_lt, g_ge, g_le, g_ltS, g_lenl, g_lent, g_lens, g_lst, g_tup, g_listl, g_listt, g_tupl, g_tupt, g_addS, g_addT, g_addL, g_pow18, sz0, sz1, sz2, sz3, sz4, sz5, sz6, sz7, sz8, sz9, sz10, sz11, ne_bl, ge_int, ne_int, ge_str, ne_str, in_strs, in_strsT, gsl_tup, isi_bb, isi_bi, isi_ib, isi_ii, k_comp, k_comp1, k_comp2, k_yes, g_sum, g_count, g_rev, g_notB, g_isB, k_rm, k_rmL, k_rmS, k_rm2, k_rg1, k_ins, k_toImm, k_toImmI, m_pairs, m_bag, r_bag, n_bag, r_pairs, n_pairs, List.getElem?_cons_zero, List.getElem?_cons_succ, List.set_cons_zero, List.set_cons_succ, List.length_cons, List.length_nil, List.map_cons, List.map_nil, List.cons_append, List.nil_append, List.replicate_succ, List.replicate_zero, Option.map_some, Option.getD_some, Option.getD_none, Nat.reduceLT, Nat.reduceAdd, Nat.reduceSub, Nat.reduceEqDiff, if_true, if_false, Bool.and_true, Bool.true_and, Bool.false_eq_true, decide_eq_true_eq, and_self, and_true, true_and, Option.join_some, outsOf, Bool.and_self, Bool.not_true, Bool.not_false, Nat.zero_lt_succ, Nat.succ_lt_succ_iff, Nat.zero_add, reduceIte, g_ixA, g_ixAt, k_gtS2, k_gtS21, k_gtS22, k_setD2, k_lstH, k_compE, k_compE1, k_compE2, k_augI, k_augI0, k_augI1, k_zip, k_zip1, k_zipT, k_zipL, k_get2, k_get21, k_get22, k_get23, get2_tab, k_fz, k_fz1, k_toImmN, k_toImmS, k_fzD, k_fzD1, k_items, k_items1, k_keys, k_keys1, k_dAug, k_dAug0, k_dAug1, k_lo, k_lo1, lo_bag, lo_tup, g_tupX, m_tx, n_tx, r_tx, m_bagX, r_bagX, n_bagX, Int.reduceEq, Int.reduceLT, Int.reduceLE, Int.reduceNeg, decide_true, decide_false, gt_iff_lt, ge_iff_le, tb_len, hm1, hrng, hmt, hcomp, hszm', hmin, noBor_imm (tb_imm (ws := mk ws))]
  generalize hF : fn_mark_of [tb ws] = F at main ⊢
  exact ens_eq main
theorem mnW_snoc (x : List Str) (xs : List (List Str)) (y : List Str) : mnW x (xs ++ [y]) = mnW (mnW x xs) [y] := by
  unfold mnW
  rw [List.foldl_append]
theorem lmark_ok {ws : List Str} (hl : ws.length ≤ 50000) (hok : ∀ w ∈ ws, PyData.strOk w = true) : ∃ e, fn_law_mark [tb ws] = .ok (tb (mk ws)) e := by
  have main : Ens (fn_law_mark [tb ws]) fun d _ => d = tb (mk ws) := by
    unfold fn_law_mark b_law_mark
    have hrng : -(2 ^ 62) ≤ ((ws.length : Nat) : Int) ∧ ((ws.length : Nat) : Int) < 2 ^ 62 := by omega
    have hmt : ((ws.length : Nat) : Int).toNat = ws.length := by omega
    have hmi : isImm (tb ws) = true := tb_imm
    simp -implicitDefEqProofs only [ens_ok, k_var, k_look, k_take, k_take1, k_c, k_dnew, k_opt, k_bin, k_bin1, k_bin2, k_un, k_un1, k_imm, k_imm1, k_arg, k_arg1, k_anil, k_acons, k_acons1, k_acons2, k_val, k_val1, k_cnot, k_cnot1, k_cand, k_cand1, k_cor, k_cor1, k_eand, k_eand1, k_eor, k_eor1, k_enot, k_enot1, k_eif, k_eif1, k_onone, k_osome, k_osome1, k_sl, k_sl1, k_sl2, k_sl3, k_seq, k_seqn, k_seqr, k_seqb, k_seqc, k_snil, k_brk, k_cnt, k_retN, k_expr, k_expr1, k_ret, k_ret1, k_if, k_if1, k_set, k_set1, k_aug, k_aug1, k_aug2, k_asg, k_asg1, k_asg2, k_par, k_par1, k_gtName, k_gtNil, k_gtCons, k_gtK, k_gtTup, k_gtSet, k_gtSet1, k_gtSet2, k_call, k_call1, k_call2, k_apNil, k_apVal, k_apVal1, k_ap2, k_apPlc, k_apPlc1, k_callP, k_callP1, k_callP2, k_callP3, k_run, k_run1, k_run2, k_mt, k_mt1, k_mt2, k_mt3, k_mt4, k_app, k_itSeq, k_itSeq1, k_itEnum, k_itEnum1, k_itR1, k_itR11, k_itR2, k_itR21, k_for, k_for1, m_non, m_bl, m_int, m_str, m_tup, m_limm, m_lown, m_lbor, m_nil, m_cons, m_app, m_ints, m_int', m_strs, m_str', n_int, n_non, n_bl, n_str, n_tup, n_lown, n_limm, n_nil, n_cons, n_app, n_int', n_str', r_nil, r_cons, r_int, r_str, r_non, r_bl, r_tup, r_lown, r_limm, r_lbor, r_int', r_str', g_ixl, g_ixt, g_ixs, g_ixk, at0, at1, at2, at3, at4, st0, st1, st2, st3, st4, g_addi, g_i2, g_abs, g_neg, g_max2, g_min2, g_inti, g_intb, g_gt, g_lt, g_ge, g_le, g_ltS, g_lenl, g_lent, g_lens, g_lst, g_tup, g_listl, g_listt, g_tupl, g_tupt, g_addS, g_addT, g_addL, g_pow18, sz0, sz1, sz2, sz3, sz4, sz5, sz6, sz7, sz8, sz9, sz10, sz11, ne_bl, ge_int, ne_int, ge_str, ne_str, in_strs, in_strsT, gsl_tup, isi_bb, isi_bi, isi_ib, isi_ii, k_comp, k_comp1, k_comp2, k_yes, g_sum, g_count, g_rev, g_notB, g_isB, k_rm, k_rmL, k_rmS, k_rm2, k_rg1, k_ins, k_toImm, k_toImmI, m_pairs, m_bag, r_bag, n_bag, r_pairs, n_pairs, List.getElem?_cons_zero, List.getElem?_cons_succ, List.set_cons_zero, List.set_cons_succ, List.length_cons, List.length_nil, List.map_cons, List.map_nil, List.cons_append, List.nil_append, List.replicate_succ, List.replicate_zero, Option.map_some, Option.getD_some, Option.getD_none, Nat.reduceLT, Nat.reduceAdd, Nat.reduceSub, Nat.reduceEqDiff, if_true, if_false, Bool.and_true, Bool.true_and, Bool.false_eq_true, decide_eq_true_eq, and_self, and_true, true_and, Option.join_some, outsOf, Bool.and_self, Bool.not_true, Bool.not_false, Nat.zero_lt_succ, Nat.succ_lt_succ_iff, Nat.zero_add, reduceIte, g_ixA, g_ixAt, k_gtS2, k_gtS21, k_gtS22, k_setD2, k_lstH, k_compE, k_compE1, k_compE2, k_augI, k_augI0, k_augI1, k_zip, k_zip1, k_zipT, k_zipL, k_get2, k_get21, k_get22, k_get23, get2_tab, k_fz, k_fz1, k_toImmN, k_toImmS, k_fzD, k_fzD1, k_items, k_items1, k_keys, k_keys1, k_dAug, k_dAug0, k_dAug1, k_lo, k_lo1, lo_bag, lo_tup, g_tupX, m_tx, n_tx, r_tx, m_bagX, r_bagX, n_bagX, Int.reduceEq, Int.reduceLT, Int.reduceLE, Int.reduceNeg, decide_true, decide_false, gt_iff_lt, ge_iff_le, hmi, tb_len, hrng, hmt]
    refine ens_runK (ens_seqK ?_)
    refine ens_forL _ (fun k e => ∃ o2 : Option D, e = [some (tb ws), some (tb (mnW ws ((List.range k).map (rt ws)))), o2]) ⟨_, rfl⟩ ?_ ?_
    · rintro k d e hd ⟨o2, rfl⟩
      obtain ⟨hk, rfl⟩ := range_get hd
      obtain ⟨h1, h2, h3⟩ := rot_ev (ws := ws) (t := k) (by omega) hl (i := 0 + (k : Int)) (by omega)
      have hmem := mnW_mem ((List.range k).map (rt ws)) ws
      have hln : (mnW ws ((List.range k).map (rt ws))).length = ws.length ∧ ∀ w ∈ mnW ws ((List.range k).map (rt ws)), PyData.strOk w = true := by
        rcases List.mem_cons.mp hmem with e | m
        · rw [e]; exact ⟨rfl, hok⟩
        · obtain ⟨t, _, e⟩ := List.mem_map.mp m
          rw [← e]; exact ⟨rt_len, fun w hw => hok w (rt_mem hw)⟩
      have hs : mnW ws ((List.range (k + 1)).map (rt ws)) = mnW (mnW ws ((List.range k).map (rt ws))) [rt ws k] := by
        rw [List.range_succ, List.map_append]
        exact mnW_snoc _ _ _
      rw [hs]
      generalize mnW ws ((List.range k).map (rt ws)) = B at hln
      have hall : ∀ a ∈ [B, rt ws k], a.length = ws.length := fun a ha => by
        rcases List.mem_cons.mp ha with rfl | ha
        · exact hln.1
        · rw [List.mem_singleton.mp ha]; exact rt_len
      have hmin : gMin2D (tb B) (tb (rt ws k)) = some (tb (mnW B [rt ws k])) := by
        show (if minOk ([B, rt ws k].map tb) = true then some (mnD (tb B) ([rt ws k].map tb)) else none) = _
        rw [if_pos (minOk_tb hall fun a ha w hw => by
          rcases List.mem_cons.mp ha with rfl | ha
          · exact hln.2 w hw
          · rw [List.mem_singleton.mp ha] at hw; exact hok w (rt_mem hw)), mnD_tb hall]
      refine ⟨_, rfl, ?_⟩
      simp -implicitDefEqProofs only [ens_ok, k_var, k_look, k_take, k_take1, k_c, k_dnew, k_opt, k_bin, k_bin1, k_bin2, k_un, k_un1, k_imm, k_imm1, k_arg, k_arg1, k_anil, k_acons, k_acons1, k_acons2, k_val, k_val1, k_cnot, k_cnot1, k_cand, k_cand1, k_cor, k_cor1, k_eand, k_eand1, k_eor, k_eor1, k_enot, k_enot1, k_eif, k_eif1, k_onone, k_osome, k_osome1, k_sl, k_sl1, k_sl2, k_sl3, k_seq, k_seqn, k_seqr, k_seqb, k_seqc, k_snil, k_brk, k_cnt, k_retN, k_expr, k_expr1, k_ret, k_ret1, k_if, k_if1, k_set, k_set1, k_aug, k_aug1, k_aug2, k_asg, k_asg1, k_asg2, k_par, k_par1, k_gtName, k_gtNil, k_gtCons, k_gtK, k_gtTup, k_gtSet, k_gtSet1, k_gtSet2, k_call, k_call1, k_call2, k_apNil, k_apVal, k_apVal1, k_ap2, k_apPlc, k_apPlc1, k_callP, k_callP1, k_callP2, k_callP3, k_run, k_run1, k_run2, k_mt, k_mt1, k_mt2, k_mt3, k_mt4, k_app, k_itSeq, k_itSeq1, k_itEnum, k_itEnum1, k_itR1, k_itR11, k_itR2, k_itR21, k_for, k_for1, m_non, m_bl, m_int, m_str, m_tup, m_limm, m_lown, m_lbor, m_nil, m_cons, m_app, m_ints, m_int', m_strs, m_str', n_int, n_non, n_bl, n_str, n_tup, n_lown, n_limm, n_nil, n_cons, n_app, n_int', n_str', r_nil, r_cons, r_int, r_str, r_non, r_bl, r_tup, r_lown, r_limm, r_lbor, r_int', r_str', g_ixl, g_ixt, g_ixs, g_ixk, at0, at1, at2, at3, at4, st0, st1, st2, st3, st4, g_addi, g_i2, g_abs, g_neg, g_max2, g_min2, g_inti, g_intb, g_gt, g_lt, g_ge, g_le, g_ltS, g_lenl, g_lent, g_lens, g_lst, g_tup, g_listl, g_listt, g_tupl, g_tupt, g_addS, g_addT, g_addL, g_pow18, sz0, sz1, sz2, sz3, sz4, sz5, sz6, sz7, sz8, sz9, sz10, sz11, ne_bl, ge_int, ne_int, ge_str, ne_str, in_strs, in_strsT, gsl_tup, isi_bb, isi_bi, isi_ib, isi_ii, k_comp, k_comp1, k_comp2, k_yes, g_sum, g_count, g_rev, g_notB, g_isB, k_rm, k_rmL, k_rmS, k_rm2, k_rg1, k_ins, k_toImm, k_toImmI, m_pairs, m_bag, r_bag, n_bag, r_pairs, n_pairs, List.getElem?_cons_zero, List.getElem?_cons_succ, List.set_cons_zero, List.set_cons_succ, List.length_cons, List.length_nil, List.map_cons, List.map_nil, List.cons_append, List.nil_append, List.replicate_succ, List.replicate_zero, Option.map_some, Option.getD_some, Option.getD_none, Nat.reduceLT, Nat.reduceAdd, Nat.reduceSub, Nat.reduceEqDiff, if_true, if_false, Bool.and_true, Bool.true_and, Bool.false_eq_true, decide_eq_true_eq, and_self, and_true, true_and, Option.join_some, outsOf, Bool.and_self, Bool.not_true, Bool.not_false, Nat.zero_lt_succ, Nat.succ_lt_succ_iff, Nat.zero_add, reduceIte, g_ixA, g_ixAt, k_gtS2, k_gtS21, k_gtS22, k_setD2, k_lstH, k_compE, k_compE1, k_compE2, k_augI, k_augI0, k_augI1, k_zip, k_zip1, k_zipT, k_zipL, k_get2, k_get21, k_get22, k_get23, get2_tab, k_fz, k_fz1, k_toImmN, k_toImmS, k_fzD, k_fzD1, k_items, k_items1, k_keys, k_keys1, k_dAug, k_dAug0, k_dAug1, k_lo, k_lo1, lo_bag, lo_tup, g_tupX, m_tx, n_tx, r_tx, m_bagX, r_bagX, n_bagX, Int.reduceEq, Int.reduceLT, Int.reduceLE, Int.reduceNeg, decide_true, decide_false, gt_iff_lt, ge_iff_le, h1, h2, h3, hmin]
      exact ⟨_, rfl⟩
    · rintro e ⟨o2, rfl⟩
      rw [range_len]
      have hmm : isImm (tb (mnW ws ((List.range ws.length).map (rt ws)))) = true := tb_imm
      simp -implicitDefEqProofs only [ens_ok, k_var, k_look, k_take, k_take1, k_c, k_dnew, k_opt, k_bin, k_bin1, k_bin2, k_un, k_un1, k_imm, k_imm1, k_arg, k_arg1, k_anil, k_acons, k_acons1, k_acons2, k_val, k_val1, k_cnot, k_cnot1, k_cand, k_cand1, k_cor, k_cor1, k_eand, k_eand1, k_eor, k_eor1, k_enot, k_enot1, k_eif, k_eif1, k_onone, k_osome, k_osome1, k_sl, k_sl1, k_sl2, k_sl3, k_seq, k_seqn, k_seqr, k_seqb, k_seqc, k_snil, k_brk, k_cnt, k_retN, k_expr, k_expr1, k_ret, k_ret1, k_if, k_if1, k_set, k_set1, k_aug, k_aug1, k_aug2, k_asg, k_asg1, k_asg2, k_par, k_par1, k_gtName, k_gtNil, k_gtCons, k_gtK, k_gtTup, k_gtSet, k_gtSet1, k_gtSet2, k_call, k_call1, k_call2, k_apNil, k_apVal, k_apVal1, k_ap2, k_apPlc, k_apPlc1, k_callP, k_callP1, k_callP2, k_callP3, k_run, k_run1, k_run2, k_mt, k_mt1, k_mt2, k_mt3, k_mt4, k_app, k_itSeq, k_itSeq1, k_itEnum, k_itEnum1, k_itR1, k_itR11, k_itR2, k_itR21, k_for, k_for1, m_non, m_bl, m_int, m_str, m_tup, m_limm, m_lown, m_lbor, m_nil, m_cons, m_app, m_ints, m_int', m_strs, m_str', n_int, n_non, n_bl, n_str, n_tup, n_lown, n_limm, n_nil, n_cons, n_app, n_int', n_str', r_nil, r_cons, r_int, r_str, r_non, r_bl, r_tup, r_lown, r_limm, r_lbor, r_int', r_str', g_ixl, g_ixt, g_ixs, g_ixk, at0, at1, at2, at3, at4, st0, st1, st2, st3, st4, g_addi, g_i2, g_abs, g_neg, g_max2, g_min2, g_inti, g_intb, g_gt, g_lt, g_ge, g_le, g_ltS, g_lenl, g_lent, g_lens, g_lst, g_tup, g_listl, g_listt, g_tupl, g_tupt, g_addS, g_addT, g_addL, g_pow18, sz0, sz1, sz2, sz3, sz4, sz5, sz6, sz7, sz8, sz9, sz10, sz11, ne_bl, ge_int, ne_int, ge_str, ne_str, in_strs, in_strsT, gsl_tup, isi_bb, isi_bi, isi_ib, isi_ii, k_comp, k_comp1, k_comp2, k_yes, g_sum, g_count, g_rev, g_notB, g_isB, k_rm, k_rmL, k_rmS, k_rm2, k_rg1, k_ins, k_toImm, k_toImmI, m_pairs, m_bag, r_bag, n_bag, r_pairs, n_pairs, List.getElem?_cons_zero, List.getElem?_cons_succ, List.set_cons_zero, List.set_cons_succ, List.length_cons, List.length_nil, List.map_cons, List.map_nil, List.cons_append, List.nil_append, List.replicate_succ, List.replicate_zero, Option.map_some, Option.getD_some, Option.getD_none, Nat.reduceLT, Nat.reduceAdd, Nat.reduceSub, Nat.reduceEqDiff, if_true, if_false, Bool.and_true, Bool.true_and, Bool.false_eq_true, decide_eq_true_eq, and_self, and_true, true_and, Option.join_some, outsOf, Bool.and_self, Bool.not_true, Bool.not_false, Nat.zero_lt_succ, Nat.succ_lt_succ_iff, Nat.zero_add, reduceIte, g_ixA, g_ixAt, k_gtS2, k_gtS21, k_gtS22, k_setD2, k_lstH, k_compE, k_compE1, k_compE2, k_augI, k_augI0, k_augI1, k_zip, k_zip1, k_zipT, k_zipL, k_get2, k_get21, k_get22, k_get23, get2_tab, k_fz, k_fz1, k_toImmN, k_toImmS, k_fzD, k_fzD1, k_items, k_items1, k_keys, k_keys1, k_dAug, k_dAug0, k_dAug1, k_lo, k_lo1, lo_bag, lo_tup, g_tupX, m_tx, n_tx, r_tx, m_bagX, r_bagX, n_bagX, Int.reduceEq, Int.reduceLT, Int.reduceLE, Int.reduceNeg, decide_true, decide_false, gt_iff_lt, ge_iff_le, hmm, noBor_imm hmm]
      rfl
  generalize hF : fn_law_mark [tb ws] = F at main ⊢
  exact ens_eq main
theorem mul_tb {ws : List Str} {k : Int} (h0 : 0 ≤ k) (h1 : k ≤ 1000) (hl : ws.length ≤ 1000) : gMulU (tb ws) (.int k) = some (tb (List.replicate k.toNat ws).flatten) := by
  show (if 0 ≤ k ∧ k ≤ 1000 ∧ (ws.map D.str).length ≤ 1000 ∧ isImms (ws.map D.str) = true then some (D.tup (List.replicate k.toNat (ws.map D.str)).flatten) else none) = _
  rw [if_pos ⟨h0, h1, by rw [List.length_map]; exact hl, m_str'⟩]
  unfold tb
  rw [List.map_flatten, List.map_replicate]
theorem rep_facts {ws : List Str} {k : Nat} (haz : ∀ w ∈ ws, AZ (codes w)) (hl : ws.length ≤ 600) (hk : k ≤ 25) : (∀ w ∈ (List.replicate k ws).flatten, AZ (codes w)) ∧ (List.replicate k ws).flatten.length ≤ 15000 := by
  constructor
  · intro w hw
    obtain ⟨l, hl1, hl2⟩ := List.mem_flatten.mp hw
    rw [(List.mem_replicate.mp hl1).2] at hl2
    exact haz w hl2
  · rw [List.length_flatten, List.map_replicate, List.sum_replicate_nat]
    exact Nat.le_trans (Nat.mul_le_mul hk hl) (by decide)
theorem law_true (ns : List Int) (hns : ns.length ≤ 63) : ∃ e, fn_law [.lst .imm (ns.map .int)] = .ok (.bl true) e := by
  have main : Ens (fn_law [.lst .imm (ns.map .int)]) fun r _ => r = .bl true := by
    unfold fn_law b_law
    obtain ⟨ps1, _, eb1, hB1⟩ := bag_ok hns (st := 0) (by decide) (by decide) (most := 24) (by decide) (by decide)
    obtain ⟨ps2, _, eb2, hB2⟩ := bag_ok hns (st := 40) (by decide) (by decide) (most := 6) (by decide) (by decide)
    obtain ⟨ps3, _, eb3, hB3⟩ := bag_ok hns (st := 80) (by decide) (by decide) (most := 24) (by decide) (by decide)
    obtain ⟨w1, _, el1, ha1, hl1⟩ := laid_ok hns (st := 130) (by decide) (by decide) hB1
    obtain ⟨w2, _, el2, ha2, hl2⟩ := laid_ok hns (st := 160) (by decide) (by decide) hB2
    obtain ⟨w3, _, el3, ha3, hl3⟩ := laid_ok hns (st := 160) (by decide) (by decide) hB3
    obtain ⟨n0, _, en0, a0, b0⟩ := number_ok hns (k := 190) (by decide) (by decide)
    obtain ⟨n1, _, en1, a1, b1⟩ := number_ok hns (k := 191) (by decide) (by decide)
    obtain ⟨n2, _, en2, a2, b2⟩ := number_ok hns (k := 192) (by decide) (by decide)
    have eb1' : fn_law_bag [.lst .imm (ns.map .int), .int 0, .int 24] = _ := eb1
    have eb2' : fn_law_bag [.lst .imm (ns.map .int), .int 40, .int 6] = _ := eb2
    have eb3' : fn_law_bag [.lst .imm (ns.map .int), .int 80, .int 24] = _ := eb3
    have el1' : fn_law_laid [.lst .imm (ns.map .int), .int 130, bagX ps1] = .ok (tb w1) _ := el1
    have el2' : fn_law_laid [.lst .imm (ns.map .int), .int 160, bagX ps2] = .ok (tb w2) _ := el2
    have el3' : fn_law_laid [.lst .imm (ns.map .int), .int 160, bagX ps3] = .ok (tb w3) _ := el3
    obtain ⟨q, hq, hq1⟩ : ∃ q : Int, (if 1 < ((w2.length : Nat) : Int) then ((w2.length : Nat) : Int) else 1) = q ∧ 1 ≤ q ∧ q ≤ 601 := ⟨_, rfl, by split <;> omega⟩
    have dq : gDiv (.int 24) (.int q) = some (.int (24 / q)) := g_divs (by omega) (by omega)
    have hdq : 24 / q ≤ 24 := Int.ediv_le_self _ (by decide)
    have hdq0 : 0 ≤ 24 / q := Int.ediv_nonneg (by decide) (by omega)
    obtain ⟨q2, hq2, hq3⟩ : ∃ q2 : Int, (if 1 < 24 / q then 24 / q else 1) = q2 ∧ 1 ≤ q2 ∧ q2 ≤ 24 := ⟨_, rfl, by split <;> omega⟩
    have z0 : 0 ≤ n0 % q2 := Int.emod_nonneg _ (by omega)
    have z1 : n0 % q2 < q2 := Int.emod_lt_of_pos _ (by omega)
    have gq2 := g_mod (i := n0) (j := q2) (by omega)
    generalize n0 % q2 = tm at z0 z1 gq2
    have g25 := g_mod (i := n1) (j := 25) (by decide)
    have y0 : 0 ≤ n1 % 25 := Int.emod_nonneg _ (by decide)
    have y1 : n1 % 25 < 25 := Int.emod_lt_of_pos _ (by decide)
    generalize n1 % 25 = on at g25 y0 y1
    have hs1 : gSl (tb w3) none (some 1) = some (tb (w3.take 1)) := by
      show some (D.tup (cutD (w3.map D.str) none (some 1))) = _
      rw [cut_map]
      show some (tb ((w3.drop (HT.sIx w3.length 0 none)).take (HT.sIx w3.length w3.length (some 1) - HT.sIx w3.length 0 none))) = _
      have h1 : HT.sIx w3.length 0 none = 0 := rfl
      have h2 : HT.sIx w3.length w3.length (some 1) = min 1 w3.length := rfl
      rw [h1, h2, List.drop_zero, Nat.sub_zero]
      congr 2
      rw [List.take_eq_take_iff]; omega
    have hmul1 : gMulU (tb (w3.take 1)) (.int on) = some (tb (List.replicate on.toNat (w3.take 1)).flatten) := mul_tb y0 (by omega) (by rw [List.length_take]; omega)
    have hmul2 : gMulU (tb w2) (.int (1 + tm)) = some (tb (List.replicate (1 + tm).toNat w2).flatten) := mul_tb (by omega) (by omega) (by omega)
    obtain ⟨r1, r2⟩ := rep_facts (k := (1 + tm).toNat) ha2 hl2 (by omega)
    obtain ⟨r3, r4⟩ := rep_facts (k := on.toNat) (ws := w3.take 1) (fun w hw => ha3 w (List.mem_of_mem_take hw)) (by rw [List.length_take]; omega) (by omega)
    generalize (List.replicate (1 + tm).toNat w2).flatten = PT at hmul2 r1 r2
    generalize (List.replicate on.toNat (w3.take 1)).flatten = ON at hmul1 r3 r4
    have hm3 : gMul1 (.int ((w2.length : Nat) : Int)) (.int (1 + tm)) = some (.int (((w2.length : Nat) : Int) * (1 + tm))) := g_mulr (by omega) (by omega)
    obtain ⟨u, hu, hu0⟩ : ∃ u : Int, (if 0 < 24 - ((w2.length : Nat) : Int) * (1 + tm) then 24 - ((w2.length : Nat) : Int) * (1 + tm) else 0) = u ∧ 0 ≤ u := ⟨_, rfl, by split <;> omega⟩
    obtain ⟨W9, hs9, hw9, hl9⟩ : ∃ W9 : List Str, gSl (tb w1) none (some u) = some (tb W9) ∧ (∀ w ∈ W9, AZ (codes w)) ∧ W9.length ≤ 600 := by
      refine ⟨_, by show some (D.tup (cutD (w1.map D.str) none (some u))) = _; rw [cut_map]; rfl, fun w hw => ha1 w (List.mem_of_mem_drop (List.mem_of_mem_take hw)), ?_⟩
      rw [List.length_take, List.length_drop]; omega
    have hadd : gAdd (tb PT) (tb W9) = some (tb (PT ++ W9)) := by
      unfold tb
      rw [g_addT, if_pos (size_le (by rw [List.length_map, List.length_map]; omega)), List.map_append]
    have hrows : ∀ R ∈ [w1, PT, ON, PT ++ W9], (∀ w ∈ R, PyData.strOk w = true) ∧ R.length ≤ 50000 := by
      intro R hR
      simp only [List.mem_cons, List.not_mem_nil, or_false] at hR
      rcases hR with rfl | rfl | rfl | rfl
      · exact ⟨fun w hw => az_ok (ha1 w hw), by omega⟩
      · exact ⟨fun w hw => az_ok (r1 w hw), by omega⟩
      · exact ⟨fun w hw => az_ok (r3 w hw), by omega⟩
      · refine ⟨fun w hw => ?_, by rw [List.length_append]; omega⟩
        rcases List.mem_append.mp hw with h | h
        · exact az_ok (r1 w h)
        · exact az_ok (hw9 w h)
    have hlist : [tb w1, tb PT, tb ON, tb (PT ++ W9)] = [w1, PT, ON, PT ++ W9].map tb := rfl
    have hmr : ∀ R, isImm (tb R) = true := fun R => tb_imm
    have hrr : ∀ R, ro (tb R) = tb R := fun R => ro_imm tb_imm
    have hrX : ∀ ps : Tab, ro (bagX ps) = bagX ps := fun ps => ro_imm m_bagX
    have hany : ∀ xs : List D, anyOf (.tup xs) = some xs := fun _ => rfl
    simp -implicitDefEqProofs only [ens_ok, k_var, k_look, k_take, k_take1, k_c, k_dnew, k_opt, k_bin, k_bin1, k_bin2, k_un, k_un1, k_imm, k_imm1, k_arg, k_arg1, k_anil, k_acons, k_acons1, k_acons2, k_val, k_val1, k_cnot, k_cnot1, k_cand, k_cand1, k_cor, k_cor1, k_eand, k_eand1, k_eor, k_eor1, k_enot, k_enot1, k_eif, k_eif1, k_onone, k_osome, k_osome1, k_sl, k_sl1, k_sl2, k_sl3, k_seq, k_seqn, k_seqr, k_seqb, k_seqc, k_snil, k_brk, k_cnt, k_retN, k_expr, k_expr1, k_ret, k_ret1, k_if, k_if1, k_set, k_set1, k_aug, k_aug1, k_aug2, k_asg, k_asg1, k_asg2, k_par, k_par1, k_gtName, k_gtNil, k_gtCons, k_gtK, k_gtTup, k_gtSet, k_gtSet1, k_gtSet2, k_call, k_call1, k_call2, k_apNil, k_apVal, k_apVal1, k_ap2, k_apPlc, k_apPlc1, k_callP, k_callP1, k_callP2, k_callP3, k_run, k_run1, k_run2, k_mt, k_mt1, k_mt2, k_mt3, k_mt4, k_app, k_itSeq, k_itSeq1, k_itEnum, k_itEnum1, k_itR1, k_itR11, k_itR2, k_itR21, k_for, k_for1, m_non, m_bl, m_int, m_str, m_tup, m_limm, m_lown, m_lbor, m_nil, m_cons, m_app, m_ints, m_int', m_strs, m_str', n_int, n_non, n_bl, n_str, n_tup, n_lown, n_limm, n_nil, n_cons, n_app, n_int', n_str', r_nil, r_cons, r_int, r_str, r_non, r_bl, r_tup, r_lown, r_limm, r_lbor, r_int', r_str', g_ixl, g_ixt, g_ixs, g_ixk, at0, at1, at2, at3, at4, st0, st1, st2, st3, st4, g_addi, g_i2, g_abs, g_neg, g_max2, g_min2, g_inti, g_intb, g_gt, g_lt, g_ge, g_le, g_ltS, g_lenl, g_lent, g_lens, g_lst, g_tup, g_listl, g_listt, g_tupl, g_tupt, g_addS, g_addT, g_addL, g_pow18, sz0, sz1, sz2, sz3, sz4, sz5, sz6, sz7, sz8, sz9, sz10, sz11, ne_bl, ge_int, ne_int, ge_str, ne_str, in_strs, in_strsT, gsl_tup, isi_bb, isi_bi, isi_ib, isi_ii, k_comp, k_comp1, k_comp2, k_yes, g_sum, g_count, g_rev, g_notB, g_isB, k_rm, k_rmL, k_rmS, k_rm2, k_rg1, k_ins, k_toImm, k_toImmI, m_pairs, m_bag, r_bag, n_bag, r_pairs, n_pairs, List.getElem?_cons_zero, List.getElem?_cons_succ, List.set_cons_zero, List.set_cons_succ, List.length_cons, List.length_nil, List.map_cons, List.map_nil, List.cons_append, List.nil_append, List.replicate_succ, List.replicate_zero, Option.map_some, Option.getD_some, Option.getD_none, Nat.reduceLT, Nat.reduceAdd, Nat.reduceSub, Nat.reduceEqDiff, if_true, if_false, Bool.and_true, Bool.true_and, Bool.false_eq_true, decide_eq_true_eq, and_self, and_true, true_and, Option.join_some, outsOf, Bool.and_self, Bool.not_true, Bool.not_false, Nat.zero_lt_succ, Nat.succ_lt_succ_iff, Nat.zero_add, reduceIte, g_ixA, g_ixAt, k_gtS2, k_gtS21, k_gtS22, k_setD2, k_lstH, k_compE, k_compE1, k_compE2, k_augI, k_augI0, k_augI1, k_zip, k_zip1, k_zipT, k_zipL, k_get2, k_get21, k_get22, k_get23, get2_tab, k_fz, k_fz1, k_toImmN, k_toImmS, k_fzD, k_fzD1, k_items, k_items1, k_keys, k_keys1, k_dAug, k_dAug0, k_dAug1, k_lo, k_lo1, lo_bag, lo_tup, g_tupX, m_tx, n_tx, r_tx, m_bagX, r_bagX, n_bagX, Int.reduceEq, Int.reduceLT, Int.reduceLE, Int.reduceNeg, decide_true, decide_false, gt_iff_lt, ge_iff_le, eb1', el1', eb2', el2', eb3', el3', hmr, en0, tb_len, hq, dq, hq2, gq2, hs1, en1, g25, hmul1, hmul2, hm3, hu, hs9, hadd, hany, hrX]
    rw [hlist]
    generalize [w1, PT, ON, PT ++ W9] = ROWS at hrows
    refine ens_runK (ens_seqK ?_)
    refine ens_forL _ (fun k e => ∃ o5 o6 o7 o8 : Option D, e = [some (.lst .imm (ns.map .int)), some (tb w1), some (tb w2), some (.int (1 + tm)), some (tb ON), o5, o6, o7, o8]) ⟨_, _, _, _, rfl⟩ ?_ ?_
    · rintro k d e hd ⟨o5, o6, o7, o8, rfl⟩
      rw [List.getElem?_map] at hd
      obtain ⟨R, hR, rfl⟩ := Option.map_eq_some_iff.mp hd
      obtain ⟨hRok, hRl⟩ := hrows R (List.mem_of_getElem? hR)
      have g192 := g_mod (i := n2) (j := ((R.length : Nat) : Int) + 1) (by omega)
      have t0 : 0 ≤ n2 % (((R.length : Nat) : Int) + 1) := Int.emod_nonneg _ (by omega)
      have t1 : n2 % (((R.length : Nat) : Int) + 1) < ((R.length : Nat) : Int) + 1 := Int.emod_lt_of_pos _ (by omega)
      generalize n2 % (((R.length : Nat) : Int) + 1) = tt at g192 t0 t1
      obtain ⟨t, rfl⟩ : ∃ t : Nat, tt = (t : Int) := ⟨tt.toNat, by omega⟩
      obtain ⟨h1, h2, h3⟩ := rot_ev (ws := R) (t := t) (by omega) hRl rfl
      obtain ⟨e4, hlm⟩ := lmark_ok hRl hRok
      have hsome : ∀ S ∈ [R, rt R t], ∃ e, fn_mark_of [tb S] = .ok (tb (mk R)) e := by
        intro S hS
        rcases List.mem_cons.mp hS with rfl | hS
        · exact markof_ok hRl hRok
        · rw [List.mem_singleton.mp hS, ← mk_rt (ws := R) (s := t) (by omega)]
          exact markof_ok (by rw [rt_len]; exact hRl) fun w hw => hRok w (rt_mem hw)
      have hne : gNe (tb (mk R)) (tb (mk R)) = some (.bl false) := by
        have hk : dOks 59 ((mk R).map D.str) = true := dk_strs fun w hw => hRok w (mk_mem hw)
        show gNe (.tup _) (.tup _) = _
        rw [gNe_of (dk_tup hk) (dk_tup hk), eq_tup, eqDs_strs, decide_eq_true rfl]; rfl
      have hit : gIsi "tuple" (tb (mk R)) = some (.bl true) := rfl
      have hlist2 : [tb R, tb (rt R t)] = [R, rt R t].map tb := rfl
      refine ⟨_, rfl, ?_⟩
      simp -implicitDefEqProofs only [ens_ok, k_var, k_look, k_take, k_take1, k_c, k_dnew, k_opt, k_bin, k_bin1, k_bin2, k_un, k_un1, k_imm, k_imm1, k_arg, k_arg1, k_anil, k_acons, k_acons1, k_acons2, k_val, k_val1, k_cnot, k_cnot1, k_cand, k_cand1, k_cor, k_cor1, k_eand, k_eand1, k_eor, k_eor1, k_enot, k_enot1, k_eif, k_eif1, k_onone, k_osome, k_osome1, k_sl, k_sl1, k_sl2, k_sl3, k_seq, k_seqn, k_seqr, k_seqb, k_seqc, k_snil, k_brk, k_cnt, k_retN, k_expr, k_expr1, k_ret, k_ret1, k_if, k_if1, k_set, k_set1, k_aug, k_aug1, k_aug2, k_asg, k_asg1, k_asg2, k_par, k_par1, k_gtName, k_gtNil, k_gtCons, k_gtK, k_gtTup, k_gtSet, k_gtSet1, k_gtSet2, k_call, k_call1, k_call2, k_apNil, k_apVal, k_apVal1, k_ap2, k_apPlc, k_apPlc1, k_callP, k_callP1, k_callP2, k_callP3, k_run, k_run1, k_run2, k_mt, k_mt1, k_mt2, k_mt3, k_mt4, k_app, k_itSeq, k_itSeq1, k_itEnum, k_itEnum1, k_itR1, k_itR11, k_itR2, k_itR21, k_for, k_for1, m_non, m_bl, m_int, m_str, m_tup, m_limm, m_lown, m_lbor, m_nil, m_cons, m_app, m_ints, m_int', m_strs, m_str', n_int, n_non, n_bl, n_str, n_tup, n_lown, n_limm, n_nil, n_cons, n_app, n_int', n_str', r_nil, r_cons, r_int, r_str, r_non, r_bl, r_tup, r_lown, r_limm, r_lbor, r_int', r_str', g_ixl, g_ixt, g_ixs, g_ixk, at0, at1, at2, at3, at4, st0, st1, st2, st3, st4, g_addi, g_i2, g_abs, g_neg, g_max2, g_min2, g_inti, g_intb, g_gt, g_lt, g_ge, g_le, g_ltS, g_lenl, g_lent, g_lens, g_lst, g_tup, g_listl, g_listt, g_tupl, g_tupt, g_addS, g_addT, g_addL, g_pow18, sz0, sz1, sz2, sz3, sz4, sz5, sz6, sz7, sz8, sz9, sz10, sz11, ne_bl, ge_int, ne_int, ge_str, ne_str, in_strs, in_strsT, gsl_tup, isi_bb, isi_bi, isi_ib, isi_ii, k_comp, k_comp1, k_comp2, k_yes, g_sum, g_count, g_rev, g_notB, g_isB, k_rm, k_rmL, k_rmS, k_rm2, k_rg1, k_ins, k_toImm, k_toImmI, m_pairs, m_bag, r_bag, n_bag, r_pairs, n_pairs, List.getElem?_cons_zero, List.getElem?_cons_succ, List.set_cons_zero, List.set_cons_succ, List.length_cons, List.length_nil, List.map_cons, List.map_nil, List.cons_append, List.nil_append, List.replicate_succ, List.replicate_zero, Option.map_some, Option.getD_some, Option.getD_none, Nat.reduceLT, Nat.reduceAdd, Nat.reduceSub, Nat.reduceEqDiff, if_true, if_false, Bool.and_true, Bool.true_and, Bool.false_eq_true, decide_eq_true_eq, and_self, and_true, true_and, Option.join_some, outsOf, Bool.and_self, Bool.not_true, Bool.not_false, Nat.zero_lt_succ, Nat.succ_lt_succ_iff, Nat.zero_add, reduceIte, g_ixA, g_ixAt, k_gtS2, k_gtS21, k_gtS22, k_setD2, k_lstH, k_compE, k_compE1, k_compE2, k_augI, k_augI0, k_augI1, k_zip, k_zip1, k_zipT, k_zipL, k_get2, k_get21, k_get22, k_get23, get2_tab, k_fz, k_fz1, k_toImmN, k_toImmS, k_fzD, k_fzD1, k_items, k_items1, k_keys, k_keys1, k_dAug, k_dAug0, k_dAug1, k_lo, k_lo1, lo_bag, lo_tup, g_tupX, m_tx, n_tx, r_tx, m_bagX, r_bagX, n_bagX, Int.reduceEq, Int.reduceLT, Int.reduceLE, Int.reduceNeg, decide_true, decide_false, gt_iff_lt, ge_iff_le, en2, tb_len, g192, h1, h2, h3, hmr, hany]
      rw [hlist2]
      generalize [R, rt R t] = SS at hsome
      refine ens_forL _ (fun k e => ∃ o7 o8 : Option D, e = [some (.lst .imm (ns.map .int)), some (tb w1), some (tb w2), some (.int (1 + tm)), some (tb ON), some (tb R), some (.int (t : Int)), o7, o8]) ⟨_, _, rfl⟩ ?_ ?_
      · rintro k2 d2 e hd2 ⟨o7, o8, rfl⟩
        rw [List.getElem?_map] at hd2
        obtain ⟨S, hS, rfl⟩ := Option.map_eq_some_iff.mp hd2
        obtain ⟨e5, hmo⟩ := hsome S (List.mem_of_getElem? hS)
        refine ⟨_, rfl, ?_⟩
        simp -implicitDefEqProofs only [ens_ok, k_var, k_look, k_take, k_take1, k_c, k_dnew, k_opt, k_bin, k_bin1, k_bin2, k_un, k_un1, k_imm, k_imm1, k_arg, k_arg1, k_anil, k_acons, k_acons1, k_acons2, k_val, k_val1, k_cnot, k_cnot1, k_cand, k_cand1, k_cor, k_cor1, k_eand, k_eand1, k_eor, k_eor1, k_enot, k_enot1, k_eif, k_eif1, k_onone, k_osome, k_osome1, k_sl, k_sl1, k_sl2, k_sl3, k_seq, k_seqn, k_seqr, k_seqb, k_seqc, k_snil, k_brk, k_cnt, k_retN, k_expr, k_expr1, k_ret, k_ret1, k_if, k_if1, k_set, k_set1, k_aug, k_aug1, k_aug2, k_asg, k_asg1, k_asg2, k_par, k_par1, k_gtName, k_gtNil, k_gtCons, k_gtK, k_gtTup, k_gtSet, k_gtSet1, k_gtSet2, k_call, k_call1, k_call2, k_apNil, k_apVal, k_apVal1, k_ap2, k_apPlc, k_apPlc1, k_callP, k_callP1, k_callP2, k_callP3, k_run, k_run1, k_run2, k_mt, k_mt1, k_mt2, k_mt3, k_mt4, k_app, k_itSeq, k_itSeq1, k_itEnum, k_itEnum1, k_itR1, k_itR11, k_itR2, k_itR21, k_for, k_for1, m_non, m_bl, m_int, m_str, m_tup, m_limm, m_lown, m_lbor, m_nil, m_cons, m_app, m_ints, m_int', m_strs, m_str', n_int, n_non, n_bl, n_str, n_tup, n_lown, n_limm, n_nil, n_cons, n_app, n_int', n_str', r_nil, r_cons, r_int, r_str, r_non, r_bl, r_tup, r_lown, r_limm, r_lbor, r_int', r_str', g_ixl, g_ixt, g_ixs, g_ixk, at0, at1, at2, at3, at4, st0, st1, st2, st3, st4, g_addi, g_i2, g_abs, g_neg, g_max2, g_min2, g_inti, g_intb, g_gt, g_lt, g_ge, g_le, g_ltS, g_lenl, g_lent, g_lens, g_lst, g_tup, g_listl, g_listt, g_tupl, g_tupt, g_addS, g_addT, g_addL, g_pow18, sz0, sz1, sz2, sz3, sz4, sz5, sz6, sz7, sz8, sz9, sz10, sz11, ne_bl, ge_int, ne_int, ge_str, ne_str, in_strs, in_strsT, gsl_tup, isi_bb, isi_bi, isi_ib, isi_ii, k_comp, k_comp1, k_comp2, k_yes, g_sum, g_count, g_rev, g_notB, g_isB, k_rm, k_rmL, k_rmS, k_rm2, k_rg1, k_ins, k_toImm, k_toImmI, m_pairs, m_bag, r_bag, n_bag, r_pairs, n_pairs, List.getElem?_cons_zero, List.getElem?_cons_succ, List.set_cons_zero, List.set_cons_succ, List.length_cons, List.length_nil, List.map_cons, List.map_nil, List.cons_append, List.nil_append, List.replicate_succ, List.replicate_zero, Option.map_some, Option.getD_some, Option.getD_none, Nat.reduceLT, Nat.reduceAdd, Nat.reduceSub, Nat.reduceEqDiff, if_true, if_false, Bool.and_true, Bool.true_and, Bool.false_eq_true, decide_eq_true_eq, and_self, and_true, true_and, Option.join_some, outsOf, Bool.and_self, Bool.not_true, Bool.not_false, Nat.zero_lt_succ, Nat.succ_lt_succ_iff, Nat.zero_add, reduceIte, g_ixA, g_ixAt, k_gtS2, k_gtS21, k_gtS22, k_setD2, k_lstH, k_compE, k_compE1, k_compE2, k_augI, k_augI0, k_augI1, k_zip, k_zip1, k_zipT, k_zipL, k_get2, k_get21, k_get22, k_get23, get2_tab, k_fz, k_fz1, k_toImmN, k_toImmS, k_fzD, k_fzD1, k_items, k_items1, k_keys, k_keys1, k_dAug, k_dAug0, k_dAug1, k_lo, k_lo1, lo_bag, lo_tup, g_tupX, m_tx, n_tx, r_tx, m_bagX, r_bagX, n_bagX, Int.reduceEq, Int.reduceLT, Int.reduceLE, Int.reduceNeg, decide_true, decide_false, gt_iff_lt, ge_iff_le, hrr, hmr, hmo, hit, hlm, hne]
        exact ⟨_, _, rfl⟩
      · rintro e ⟨o7, o8, rfl⟩
        exact ⟨_, _, _, _, rfl⟩
    · rintro e ⟨o5, o6, o7, o8, rfl⟩
      simp -implicitDefEqProofs only [ens_ok, k_var, k_look, k_take, k_take1, k_c, k_dnew, k_opt, k_bin, k_bin1, k_bin2, k_un, k_un1, k_imm, k_imm1, k_arg, k_arg1, k_anil, k_acons, k_acons1, k_acons2, k_val, k_val1, k_cnot, k_cnot1, k_cand, k_cand1, k_cor, k_cor1, k_eand, k_eand1, k_eor, k_eor1, k_enot, k_enot1, k_eif, k_eif1, k_onone, k_osome, k_osome1, k_sl, k_sl1, k_sl2, k_sl3, k_seq, k_seqn, k_seqr, k_seqb, k_seqc, k_snil, k_brk, k_cnt, k_retN, k_expr, k_expr1, k_ret, k_ret1, k_if, k_if1, k_set, k_set1, k_aug, k_aug1, k_aug2, k_asg, k_asg1, k_asg2, k_par, k_par1, k_gtName, k_gtNil, k_gtCons, k_gtK, k_gtTup, k_gtSet, k_gtSet1, k_gtSet2, k_call, k_call1, k_call2, k_apNil, k_apVal, k_apVal1, k_ap2, k_apPlc, k_apPlc1, k_callP, k_callP1, k_callP2, k_callP3, k_run, k_run1, k_run2, k_mt, k_mt1, k_mt2, k_mt3, k_mt4, k_app, k_itSeq, k_itSeq1, k_itEnum, k_itEnum1, k_itR1, k_itR11, k_itR2, k_itR21, k_for, k_for1, m_non, m_bl, m_int, m_str, m_tup, m_limm, m_lown, m_lbor, m_nil, m_cons, m_app, m_ints, m_int', m_strs, m_str', n_int, n_non, n_bl, n_str, n_tup, n_lown, n_limm, n_nil, n_cons, n_app, n_int', n_str', r_nil, r_cons, r_int, r_str, r_non, r_bl, r_tup, r_lown, r_limm, r_lbor, r_int', r_str', g_ixl, g_ixt, g_ixs, g_ixk, at0, at1, at2, at3, at4, st0, st1, st2, st3, st4, g_addi, g_i2, g_abs, g_neg, g_max2, g_min2, g_inti, g_intb, g_gt, g_lt, g_ge, g_le, g_ltS, g_lenl, g_lent, g_lens, g_lst, g_tup, g_listl, g_listt, g_tupl, g_tupt, g_addS, g_addT, g_addL, g_pow18, sz0, sz1, sz2, sz3, sz4, sz5, sz6, sz7, sz8, sz9, sz10, sz11, ne_bl, ge_int, ne_int, ge_str, ne_str, in_strs, in_strsT, gsl_tup, isi_bb, isi_bi, isi_ib, isi_ii, k_comp, k_comp1, k_comp2, k_yes, g_sum, g_count, g_rev, g_notB, g_isB, k_rm, k_rmL, k_rmS, k_rm2, k_rg1, k_ins, k_toImm, k_toImmI, m_pairs, m_bag, r_bag, n_bag, r_pairs, n_pairs, List.getElem?_cons_zero, List.getElem?_cons_succ, List.set_cons_zero, List.set_cons_succ, List.length_cons, List.length_nil, List.map_cons, List.map_nil, List.cons_append, List.nil_append, List.replicate_succ, List.replicate_zero, Option.map_some, Option.getD_some, Option.getD_none, Nat.reduceLT, Nat.reduceAdd, Nat.reduceSub, Nat.reduceEqDiff, if_true, if_false, Bool.and_true, Bool.true_and, Bool.false_eq_true, decide_eq_true_eq, and_self, and_true, true_and, Option.join_some, outsOf, Bool.and_self, Bool.not_true, Bool.not_false, Nat.zero_lt_succ, Nat.succ_lt_succ_iff, Nat.zero_add, reduceIte, g_ixA, g_ixAt, k_gtS2, k_gtS21, k_gtS22, k_setD2, k_lstH, k_compE, k_compE1, k_compE2, k_augI, k_augI0, k_augI1, k_zip, k_zip1, k_zipT, k_zipL, k_get2, k_get21, k_get22, k_get23, get2_tab, k_fz, k_fz1, k_toImmN, k_toImmS, k_fzD, k_fzD1, k_items, k_items1, k_keys, k_keys1, k_dAug, k_dAug0, k_dAug1, k_lo, k_lo1, lo_bag, lo_tup, g_tupX, m_tx, n_tx, r_tx, m_bagX, r_bagX, n_bagX, Int.reduceEq, Int.reduceLT, Int.reduceLE, Int.reduceNeg, decide_true, decide_false, gt_iff_lt, ge_iff_le]
  generalize hF : fn_law [.lst .imm (ns.map .int)] = F at main ⊢
  exact ens_eq main
end Lw

namespace Lw
open PySem PySem.Spec PyProof.Rows L2 Vs
def dd_mark_of : He.DefD := ⟨("mark_of", none), "mark_of", "mark_of", defArgs s_mark_of, defBody s_mark_of, defScope s_mark_of, [], []⟩
def dd_law_number : He.DefD := ⟨("_law_number", none), "_law_number", "_law_number", defArgs s_law_number, defBody s_law_number, defScope s_law_number, [], []⟩
def dd_law_names : He.DefD := ⟨("_law_names", none), "_law_names", "_law_names", defArgs s_law_names, defBody s_law_names, defScope s_law_names, [], []⟩
def dd_law_bag : He.DefD := ⟨("_law_bag", none), "_law_bag", "_law_bag", defArgs s_law_bag, defBody s_law_bag, defScope s_law_bag, [], []⟩
def dd_law_laid : He.DefD := ⟨("_law_laid", none), "_law_laid", "_law_laid", defArgs s_law_laid, defBody s_law_laid, defScope s_law_laid, [], []⟩
def dd_law_mark : He.DefD := ⟨("_law_mark", none), "_law_mark", "_law_mark", defArgs s_law_mark, defBody s_law_mark, defScope s_law_mark, [], []⟩
def dd_law : He.DefD := ⟨("law", none), "law", "law", defArgs s_law, defBody s_law, defScope s_law, [], []⟩
def fnl : List He.DefD := [dd_mark_of, dd_law_number, dd_law_names, dd_law_bag, dd_law_laid, dd_law_mark, dd_law]
def fal : List He.Fa := [.glo "mark_of", .glo "_law_number", .glo "_law_names", .glo "_law_bag", .glo "_law_laid", .glo "_law_mark", .glo "law", .free "len", .free "abs", .free "max", .free "min", .free "int", .free "list", .free "tuple", .free "sum", .free "isinstance", .free "sorted", .free "range", .free "enumerate", .free "zip", .free "dict", .free "set", .free "str", .free "all", .free "bool"]
theorem all_ok {P : Program} {w : World} {K : PySem.W.Frag} {h : Heap} {mg : Str → Option Value} (X : K.In h) (G : h.Ns mainGlobals mg) (c : He.SaysD fal fnl K) (base : Heap) : Ok P w K mg base "law" 4 ["script"] (spF K 1 [] fn_law) := by
  have B : Bt mg := ⟨He.free_ok X G (c.fact 7 (f := .free "len") rfl), He.free_ok X G (c.fact 8 (f := .free "abs") rfl), He.free_ok X G (c.fact 9 (f := .free "max") rfl), He.free_ok X G (c.fact 10 (f := .free "min") rfl), He.free_ok X G (c.fact 11 (f := .free "int") rfl), He.free_ok X G (c.fact 12 (f := .free "list") rfl), He.free_ok X G (c.fact 13 (f := .free "tuple") rfl), He.free_ok X G (c.fact 14 (f := .free "sum") rfl), He.free_ok X G (c.fact 15 (f := .free "isinstance") rfl), He.free_ok X G (c.fact 16 (f := .free "sorted") rfl), He.free_ok X G (c.fact 17 (f := .free "range") rfl), He.free_ok X G (c.fact 18 (f := .free "enumerate") rfl), He.free_ok X G (c.fact 19 (f := .free "zip") rfl), He.free_ok X G (c.fact 20 (f := .free "dict") rfl), He.free_ok X G (c.fact 21 (f := .free "set") rfl), He.free_ok X G (c.fact 22 (f := .free "str") rfl), He.free_ok X G (c.fact 23 (f := .free "all") rfl), He.free_ok X G (c.fact 24 (f := .free "bool") rfl)⟩
  have T : Gs K mg := ⟨trivial⟩
  have D_mark_of : Df K mg "mark_of" s_mark_of := ⟨c.def_ 0 (d := dd_mark_of) rfl, He.glo_ok X G (c.fact 0 (f := .glo "mark_of") rfl)⟩
  have G_mark_of := ok_mark_of (P := P) (w := w) (base := base) B T D_mark_of 
  have D_law_number : Df K mg "_law_number" s_law_number := ⟨c.def_ 1 (d := dd_law_number) rfl, He.glo_ok X G (c.fact 1 (f := .glo "_law_number") rfl)⟩
  have G_law_number := ok_law_number (P := P) (w := w) (base := base) B T D_law_number 
  have D_law_names : Df K mg "_law_names" s_law_names := ⟨c.def_ 2 (d := dd_law_names) rfl, He.glo_ok X G (c.fact 2 (f := .glo "_law_names") rfl)⟩
  have G_law_names := ok_law_names (P := P) (w := w) (base := base) B T D_law_names G_law_number
  have D_law_bag : Df K mg "_law_bag" s_law_bag := ⟨c.def_ 3 (d := dd_law_bag) rfl, He.glo_ok X G (c.fact 3 (f := .glo "_law_bag") rfl)⟩
  have G_law_bag := ok_law_bag (P := P) (w := w) (base := base) B T D_law_bag G_law_number G_law_names
  have D_law_laid : Df K mg "_law_laid" s_law_laid := ⟨c.def_ 4 (d := dd_law_laid) rfl, He.glo_ok X G (c.fact 4 (f := .glo "_law_laid") rfl)⟩
  have G_law_laid := ok_law_laid (P := P) (w := w) (base := base) B T D_law_laid G_law_number
  have D_law_mark : Df K mg "_law_mark" s_law_mark := ⟨c.def_ 5 (d := dd_law_mark) rfl, He.glo_ok X G (c.fact 5 (f := .glo "_law_mark") rfl)⟩
  have G_law_mark := ok_law_mark (P := P) (w := w) (base := base) B T D_law_mark 
  have D_law : Df K mg "law" s_law := ⟨c.def_ 6 (d := dd_law) rfl, He.glo_ok X G (c.fact 6 (f := .glo "law") rfl)⟩
  have G_law := ok_law (P := P) (w := w) (base := base) B T D_law G_law_laid G_law_bag G_law_number G_mark_of G_law_mark
  exact G_law
abbrev R0 : PySem.W.OpenRow := PySem.W.OpenLaw.row PySem.Challenge.rw_likesapart_k20_marks_of_rows
abbrev hk : PySem.W.Hook := He.hookD 4 fal fnl
def ob (s : PySem.W.SharedT) : He.AlD := He.obsDG 4 fal fnl (HandSHeadRun.getT s)
theorem ob_eq (s : PySem.W.SharedT) : ob s = hk.obs s.abs := He.obsDG_eq (HandSHeadRun.getT_eq s)
def loose : List Str := ["mark_of", "_law_number", "_law_names", "_law_bag", "_law_laid", "_law_mark"]
set_option maxHeartbeats 0 in
theorem head_run (w : World) : HandSHeadRun.RunEq R0 (PySem.W.view R0.prog [8]) hk ob 20000 loose w := by
  intro os
  kernel_rfl
end Lw

open PySem PySem.W PySem.Calls PyProof.Rows
set_option maxHeartbeats 0 in
theorem PySem.Challenge.cw_likesapart_k20_marks_of_rows_holds : PySem.Challenge.rw_likesapart_k20_marks_of_rows.Holds := by
  w_on; o_law
  refine HandSHeadRun.head_any (r := OpenLaw.row PySem.Challenge.rw_likesapart_k20_marks_of_rows) (q := view (OpenLaw.row PySem.Challenge.rw_likesapart_k20_marks_of_rows).prog [8]) (H := Lw.hk) (ob := Lw.ob) (M := 20000) (loose := Lw.loose) (d := HandSHeadRun.topDef (OpenLaw.row PySem.Challenge.rw_likesapart_k20_marks_of_rows).prog 8) (kwd := []) Lw.ob_eq
    (by kernel_rfl) (fun s => by kernel_rfl) Lw.head_run (by kernel_rfl) (by kernel_rfl) (by kernel_rfl) (by rfl) (by first | assumption | decide +kernel) (by decide +kernel) ⟨rfl, rfl, rfl, rfl, rfl, by decide +kernel⟩ ?hw ?hc
  case hw => w_witness2
  case hc =>
    refine L2.walk_ofE (l := PySem.Challenge.rw_likesapart_k20_marks_of_rows) (n := 63) (k := 4) (x := "script") (CX := L2.CX0) rfl (by decide) (by kernel_rfl) ⟨rfl, by decide, by decide⟩ ?F (fun _ _ _ _ z => z)
    intro w mg fa h Y G hmg0
    obtain ⟨K, KX, c⟩ := Y
    have hmg : mg ("law" : PySem.Str) = some (.ref fa) := by
      have e : (HandSHeadRun.topDef (OpenLaw.row PySem.Challenge.rw_likesapart_k20_marks_of_rows).prog 8).name = ("law" : PySem.Str) := by kernel_rfl
      rw [← e]
      exact hmg0
    exact Vs.law_end (P := (PySem.Challenge.rw_likesapart_k20_marks_of_rows).prog) KX G hmg (fun base => Lw.all_ok KX G c base) (c.def_ 6 (d := Lw.dd_law) rfl) (fun _ _ _ _ _ _ us hl => match us, hl with | [_], _ => rfl) Lw.law_true
